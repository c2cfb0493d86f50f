import PyProof.Rows.All
import Wide.All
import OpenK.AllK
import Wide.FinOn
import HandS.ForMost
import HandS.ForExc
import HandS.Walk
import HandS.Wide
import HandS.More
import HandS.TupAny
import HandS.Conv
import HandS.Iter
import HandS.Text
import HandS.Flow
import HandS.IsInst
import HandS.Style
import HandS.StrMore
import HandS.Deep
import HandS.TupSets
import KE.SortData
import HandS.Zip
import HandS.Ends
import HandS.ExcOwn
import HandS.ExcBuiltin
import HandS.TupMul
import KE.DataCmp
import HandS.TupLe
import HandS.ExcIs
import HandS.SetFor
import HandS.TryOnly
import PyProof.WalksMore
import PyProof.MinMaxWalk
import KE.GoesZip
import KE.GoesMore
import PyProof.StrOps2
import PyProof.AutoSeq1
import PyProof.TupleKey
import PySem.Challenge.RW_pricestair_k41_ways_over_a_place
set_option Elab.async false
set_option linter.all false
set_option maxRecDepth 100000
set_option maxHeartbeats 4000000
set_option autoImplicit false
/-! DL1: a data layer over HandS. Data D, what stands for it on the abstract heap (At), ownership (Rep), frames (Fra), expressions as functions from slots to data (DE). -/
namespace DL
open PySem PySem.Spec PyProof.Rows L2

/-- the program's own refusals -/
inductive Ex where
  | web | way | place | step | width | many | text | row
  deriving DecidableEq
inductive D where
  | non | bl (b : Bool) | int (i : Int) | str (x : Str) | lst (xs : List D) | tup (xs : List D) | exc (e : Ex)
/-- a result -/
inductive R (α : Type) where
  | ok (a : α) | exc (e : Ex) | bad
def R.bind {α β : Type} (x : R α) (k : α → R β) : R β := match x with
  | .ok a => k a
  | .exc e => .exc e
  | .bad => .bad
@[simp] theorem R.bind_ok {α β : Type} (a : α) (k : α → R β) : (R.ok a).bind k = k a := rfl
@[simp] theorem R.bind_exc {α β : Type} (e : Ex) (k : α → R β) : (R.exc e).bind k = R.exc e := rfl
@[simp] theorem R.bind_bad {α β : Type} (k : α → R β) : (R.bad).bind k = R.bad := rfl
/-- what is wanted of a result -/
def Sat {α : Type} (x : R α) (p : α → Prop) (q : Ex → Prop) : Prop := match x with
  | .ok a => p a
  | .exc e => q e
  | .bad => False
@[simp] theorem sat_ok {α : Type} {a : α} {p : α → Prop} {q : Ex → Prop} : Sat (.ok a) p q = p a := rfl
@[simp] theorem sat_exc {α : Type} {e : Ex} {p : α → Prop} {q : Ex → Prop} : Sat (.exc e) p q = q e := rfl
@[simp] theorem sat_bad {α : Type} {p : α → Prop} {q : Ex → Prop} : Sat (.bad : R α) p q = False := rfl
theorem sat_bind {α β : Type} {x : R α} {k : α → R β} {p : β → Prop} {q : Ex → Prop} : Sat (x.bind k) p q = Sat x (fun a => Sat (k a) p q) q := by
  cases x <;> rfl
theorem Sat.imp {α : Type} {x : R α} {p p' : α → Prop} {q q' : Ex → Prop} (h : Sat x p q) (hp : ∀ a, p a → p' a) (hq : ∀ e, q e → q' e) : Sat x p' q' := by
  cases x with
  | ok a => exact hp a h
  | exc e => exact hq e h
  | bad => exact h

abbrev Own := Addr → Prop
open Classical in
/-- the heap without what is owned -/
noncomputable def cut (H : Hp) (ex : Own) : Hp := fun b => if ex b then none else H b
theorem cut_of {H : Hp} {ex : Own} {b : Addr} {o : HO} (n : ¬ ex b) (h : H b = some o) : cut H ex b = some o := by
  unfold cut
  rw [if_neg n]
  exact h
theorem of_cut {H : Hp} {ex : Own} {b : Addr} {o : HO} (h : cut H ex b = some o) : ¬ ex b ∧ H b = some o := by
  unfold cut at h
  by_cases e : ex b
  · rw [if_pos e] at h
    cases h
  · rw [if_neg e] at h
    exact ⟨e, h⟩
theorem cut_same {H : Hp} {ex : Own} : Same (cut H ex) H := fun _ _ h => (of_cut h).2

/-- the heap and what is owned grow -/
structure Le (H : Hp) (ex : Own) (H' : Hp) (ex' : Own) : Prop where
  same : Same H H'
  keep : ∀ b, ex b → ex' b
  new : ∀ b, ex' b → ex b ∨ (H b = none ∧ ∃ o, H' b = some o)
theorem Le.refl (H : Hp) (ex : Own) : Le H ex H ex := ⟨Same.refl H, fun _ h => h, fun _ h => .inl h⟩
theorem Le.trans {H H1 H2 : Hp} {ex ex1 ex2 : Own} (a : Le H ex H1 ex1) (b : Le H1 ex1 H2 ex2) : Le H ex H2 ex2 := by
  refine ⟨a.same.trans b.same, fun c h => b.keep c (a.keep c h), fun c h => ?_⟩
  rcases b.new c h with h1 | ⟨h1, h2⟩
  · rcases a.new c h1 with h3 | ⟨h3, o, h4⟩
    · exact .inl h3
    · exact .inr ⟨h3, o, b.same c o h4⟩
  · exact .inr ⟨a.same.free h1, h2⟩
theorem Le.cuts {H H' : Hp} {ex ex' : Own} (a : Le H ex H' ex') : Same (cut H ex) (cut H' ex') := fun b o h => by
  obtain ⟨n, e⟩ := of_cut h
  refine cut_of (fun q => ?_) (a.same b o e)
  rcases a.new b q with z | ⟨z, _⟩
  · exact n z
  · rw [e] at z
    cases z
theorem Le.lay {H : Hp} {ex : Own} {p : Addr} {o : HO} (h : H p = none) : Le H ex (upd H p o) ex :=
  ⟨fun b u e => by rw [upd_ne (ne_of_none e h)]; exact e, fun _ z => z, fun _ z => .inl z⟩
/-- ex with p -/
def plus (ex : Own) (p : Addr) : Own := fun b => ex b ∨ b = p
theorem Le.own {H : Hp} {ex : Own} {p : Addr} {o : HO} (h : H p = none) : Le H ex (upd H p o) (plus ex p) :=
  ⟨fun b u e => by rw [upd_ne (ne_of_none e h)]; exact e, fun _ z => .inl z, fun b z => z.imp id fun e => by subst e; exact ⟨h, o, upd_same⟩⟩

section
variable {K : PySem.W.Frag}
theorem seqT {H H' : Hp} {a : Addr} {xs : List V} (e : Same H H') (h : SqT K H a xs) : SqT K H' a xs := by
  rcases h with (h | ⟨o, h⟩) | h
  · exact .inl (.inl (e _ _ h))
  · exact .inl (.inr ⟨o, e _ _ h⟩)
  · exact .inr h
end
/-- an exception object of a class of the program's own -/
def excO (C a : Addr) : HO := .ext fun h => ∃ oe : Obj, h.get? a = some oe ∧ oe.cls = .ref C ∧ oe.dict = none ∧ ∃ vs, oe.data = .fields vs
/-- where the classes stand -/
abbrev Adr := Ex → Addr
mutual
inductive At (K : PySem.W.Frag) (ad : Adr) (H : Hp) : D → V → Prop
  | non : At K ad H .non .non
  | bl (b : Bool) : At K ad H (.bl b) (.bl b)
  | int (i : Int) : At K ad H (.int i) (.int i)
  | str (x : Str) : At K ad H (.str x) (.str x)
  | lst {a : Addr} {vs : List V} {ds : List D} : SqL K H a vs → vs.length ≤ sizeLine → Ats K ad H ds vs → At K ad H (.lst ds) (.ref a)
  | tup {a : Addr} {vs : List V} {ds : List D} : SqT K H a vs → vs.length ≤ sizeLine → Ats K ad H ds vs → At K ad H (.tup ds) (.ref a)
  | exc {a : Addr} (e : Ex) : H a = some (excO (ad e) a) → At K ad H (.exc e) (.ref a)
inductive Ats (K : PySem.W.Frag) (ad : Adr) (H : Hp) : List D → List V → Prop
  | nil : Ats K ad H [] []
  | cons {d : D} {ds : List D} {v : V} {vs : List V} : At K ad H d v → Ats K ad H ds vs → Ats K ad H (d :: ds) (v :: vs)
end
section
variable {K : PySem.W.Frag} {ad : Adr} {H H' : Hp}
mutual
theorem At.mono (s : Same H H') : ∀ {d : D} {v : V}, At K ad H d v → At K ad H' d v
  | _, _, .non => .non
  | _, _, .bl b => .bl b
  | _, _, .int i => .int i
  | _, _, .str x => .str x
  | _, _, .lst h z hs => .lst (s.seq h) z (Ats.mono s hs)
  | _, _, .tup h z hs => .tup (seqT s h) z (Ats.mono s hs)
  | _, _, .exc e h => .exc e (s _ _ h)
theorem Ats.mono (s : Same H H') : ∀ {ds : List D} {vs : List V}, Ats K ad H ds vs → Ats K ad H' ds vs
  | _, _, .nil => .nil
  | _, _, .cons h hs => .cons (At.mono s h) (Ats.mono s hs)
end
theorem Ats.length : ∀ {ds : List D} {vs : List V}, Ats K ad H ds vs → ds.length = vs.length
  | _, _, .nil => rfl
  | _, _, .cons _ hs => by rw [List.length_cons, List.length_cons, Ats.length hs]
theorem Ats.get : ∀ {ds : List D} {vs : List V} {i : Nat} {d : D}, Ats K ad H ds vs → ds[i]? = some d → ∃ v, vs[i]? = some v ∧ At K ad H d v
  | _, _, _, _, .nil, e => by simp at e
  | _, _, 0, _, .cons h _, e => by simp at e; subst e; exact ⟨_, rfl, h⟩
  | _, _, i + 1, d, .cons _ hs, e => by
    obtain ⟨v, h1, h2⟩ := Ats.get (i := i) (d := d) hs (by simpa using e)
    exact ⟨v, by simpa using h1, h2⟩
theorem Ats.getV : ∀ {ds : List D} {vs : List V} {i : Nat} {v : V}, Ats K ad H ds vs → vs[i]? = some v → ∃ d, ds[i]? = some d ∧ At K ad H d v
  | _, _, _, _, .nil, e => by simp at e
  | _, _, 0, _, .cons h _, e => by simp at e; subst e; exact ⟨_, rfl, h⟩
  | _, _, i + 1, d, .cons _ hs, e => by
    obtain ⟨v, h1, h2⟩ := Ats.getV (i := i) (v := d) hs (by simpa using e)
    exact ⟨v, by simpa using h1, h2⟩
theorem Ats.append : ∀ {ds es : List D} {vs us : List V}, Ats K ad H ds vs → Ats K ad H es us → Ats K ad H (ds ++ es) (vs ++ us)
  | _, _, _, _, .nil, h => h
  | _, _, _, _, .cons h hs, g => .cons h (Ats.append hs g)
theorem Ats.take : ∀ {ds : List D} {vs : List V} (n : Nat), Ats K ad H ds vs → Ats K ad H (ds.take n) (vs.take n)
  | _, _, 0, _ => .nil
  | _, _, _ + 1, .nil => .nil
  | _, _, n + 1, .cons h hs => .cons h (Ats.take n hs)
theorem Ats.drop : ∀ {ds : List D} {vs : List V} (n : Nat), Ats K ad H ds vs → Ats K ad H (ds.drop n) (vs.drop n)
  | _, _, 0, h => h
  | _, _, _ + 1, .nil => .nil
  | _, _, n + 1, .cons _ hs => Ats.drop n hs
theorem Ats.set {d : D} {v : V} (h : At K ad H d v) : ∀ {ds : List D} {vs : List V} (i : Nat), Ats K ad H ds vs → Ats K ad H (ds.set i d) (vs.set i v)
  | _, _, _, .nil => .nil
  | _, _, 0, .cons _ hs => .cons h hs
  | _, _, i + 1, .cons g hs => .cons g (Ats.set h i hs)
theorem Ats.reverse : ∀ {ds : List D} {vs : List V}, Ats K ad H ds vs → Ats K ad H ds.reverse vs.reverse
  | _, _, .nil => .nil
  | _, _, .cons h hs => by
    rw [List.reverse_cons, List.reverse_cons]
    exact (Ats.reverse hs).append (.cons h .nil)
theorem Ats.one {d : D} {vs : List V} (h : Ats K ad H [d] vs) : ∃ v, vs = [v] ∧ At K ad H d v := by
  cases h with
  | cons h hs =>
    cases hs
    exact ⟨_, rfl, h⟩
theorem Ats.two {d e : D} {vs : List V} (h : Ats K ad H [d, e] vs) : ∃ v u, vs = [v, u] ∧ At K ad H d v ∧ At K ad H e u := by
  cases h with
  | cons h hs =>
    obtain ⟨u, rfl, g⟩ := hs.one
    exact ⟨_, _, rfl, h, g⟩
end

/-- neither list nor tuple nor exception -/
def flat : D → Bool
  | .lst _ => false
  | .tup _ => false
  | .exc _ => false
  | _ => true
/-- whose a thing is: fz anybody's (never changed); own a list that is ours alone, its items of a shape; tup a tuple of shapes; pin a list of ours that stands at a -/
inductive Sh where
  | fz | own (s : Sh) | tup (ss : List Sh) | pin (a : Addr)
mutual
inductive Rep (K : PySem.W.Frag) (ad : Adr) (H : Hp) (ex : Own) : Sh → D → V → List Addr → Prop
  | fz {d : D} {v : V} : At K ad (cut H ex) d v → Rep K ad H ex .fz d v []
  | own {s : Sh} {ds : List D} {a : Addr} {vs : List V} {fp : List Addr} : ex a → H a = some (.lst vs) → vs.length ≤ sizeLine → Reps K ad H ex (List.replicate ds.length s) ds vs fp → Rep K ad H ex (.own s) (.lst ds) (.ref a) (a :: fp)
  | flt {s : Sh} {d : D} {v : V} : flat d = true → At K ad (cut H ex) d v → Rep K ad H ex (.own s) d v []
  | tup {ss : List Sh} {ds : List D} {a : Addr} {vs : List V} {fp : List Addr} : SqT K (cut H ex) a vs → vs.length ≤ sizeLine → Reps K ad H ex ss ds vs fp → Rep K ad H ex (.tup ss) (.tup ds) (.ref a) fp
  | pin {ds : List D} {a : Addr} {vs : List V} : ex a → H a = some (.lst vs) → vs.length ≤ sizeLine → Ats K ad (cut H ex) ds vs → Rep K ad H ex (.pin a) (.lst ds) (.ref a) [a]
inductive Reps (K : PySem.W.Frag) (ad : Adr) (H : Hp) (ex : Own) : List Sh → List D → List V → List Addr → Prop
  | nil : Reps K ad H ex [] [] [] []
  | cons {s : Sh} {ss : List Sh} {d : D} {ds : List D} {v : V} {vs : List V} {f fs : List Addr} : Rep K ad H ex s d v f → Reps K ad H ex ss ds vs fs → Reps K ad H ex (s :: ss) (d :: ds) (v :: vs) (f ++ fs)
end
section
variable {K : PySem.W.Frag} {ad : Adr} {H H' : Hp} {ex ex' : Own}
-- kept: what is not owned, and the owned things at fp
mutual
theorem Rep.keep (s : Same (cut H ex) (cut H' ex')) : ∀ {sh : Sh} {d : D} {v : V} {fp : List Addr}, Rep K ad H ex sh d v fp → (∀ a ∈ fp, ex' a ∧ H' a = H a) → Rep K ad H' ex' sh d v fp
  | _, _, _, _, .fz h, _ => .fz (h.mono s)
  | _, _, _, _, .own _ h z hs, k => .own (k _ List.mem_cons_self).1 ((k _ List.mem_cons_self).2.trans h) z (Reps.keep s hs fun a z => k a (List.mem_cons_of_mem _ z))
  | _, _, _, _, .flt f h, _ => .flt f (h.mono s)
  | _, _, _, _, .tup h z hs, k => .tup (seqT s h) z (Reps.keep s hs k)
  | _, _, _, _, .pin _ h z hs, k => .pin (k _ List.mem_cons_self).1 ((k _ List.mem_cons_self).2.trans h) z (hs.mono s)
theorem Reps.keep (s : Same (cut H ex) (cut H' ex')) : ∀ {ss : List Sh} {ds : List D} {vs : List V} {fp : List Addr}, Reps K ad H ex ss ds vs fp → (∀ a ∈ fp, ex' a ∧ H' a = H a) → Reps K ad H' ex' ss ds vs fp
  | _, _, _, _, .nil, _ => .nil
  | _, _, _, _, .cons h hs, k => .cons (Rep.keep s h fun a z => k a (List.mem_append_left _ z)) (Reps.keep s hs fun a z => k a (List.mem_append_right _ z))
end
mutual
theorem Rep.in : ∀ {sh : Sh} {d : D} {v : V} {fp : List Addr}, Rep K ad H ex sh d v fp → ∀ a ∈ fp, ex a ∧ ∃ o, H a = some o
  | _, _, _, _, .fz _, _, z => by cases z
  | _, _, _, _, .own e h _ hs, a, z => by
    rcases List.mem_cons.mp z with z | z
    · subst z
      exact ⟨e, _, h⟩
    · exact Reps.in hs a z
  | _, _, _, _, .flt _ _, _, z => by cases z
  | _, _, _, _, .tup _ _ hs, a, z => Reps.in hs a z
  | _, _, _, _, .pin e h _ _, a, z => by
    have z := List.mem_singleton.mp z
    subst z
    exact ⟨e, _, h⟩
theorem Reps.in : ∀ {ss : List Sh} {ds : List D} {vs : List V} {fp : List Addr}, Reps K ad H ex ss ds vs fp → ∀ a ∈ fp, ex a ∧ ∃ o, H a = some o
  | _, _, _, _, .nil, _, z => by cases z
  | _, _, _, _, .cons h hs, a, z => (List.mem_append.mp z).elim (fun z => Rep.in h a z) fun z => Reps.in hs a z
end
theorem Rep.mono {sh : Sh} {d : D} {v : V} {fp : List Addr} (r : Rep K ad H ex sh d v fp) (l : Le H ex H' ex') : Rep K ad H' ex' sh d v fp :=
  r.keep l.cuts fun a z => by
    obtain ⟨h1, o, h2⟩ := r.in a z
    exact ⟨l.keep a h1, (l.same a o h2).trans h2.symm⟩
theorem Reps.mono {sh : List Sh} {d : List D} {v : List V} {fp : List Addr} (r : Reps K ad H ex sh d v fp) (l : Le H ex H' ex') : Reps K ad H' ex' sh d v fp :=
  r.keep l.cuts fun a z => by
    obtain ⟨h1, o, h2⟩ := r.in a z
    exact ⟨l.keep a h1, (l.same a o h2).trans h2.symm⟩
-- in the heap without what is still owned it is anybody's
mutual
theorem Rep.at {G : Hp} (s : Same (cut H ex) G) : ∀ {sh : Sh} {d : D} {v : V} {fp : List Addr}, Rep K ad H ex sh d v fp → (∀ a ∈ fp, G a = H a) → At K ad G d v
  | _, _, _, _, .fz h, _ => h.mono s
  | _, _, _, _, .own _ h z hs, k => .lst (SqL.of ((k _ List.mem_cons_self).trans h)) z (Reps.at s hs fun a z => k a (List.mem_cons_of_mem _ z))
  | _, _, _, _, .flt _ h, _ => h.mono s
  | _, _, _, _, .tup h z hs, k => .tup (seqT s h) z (Reps.at s hs k)
  | _, _, _, _, .pin _ h z hs, k => .lst (SqL.of ((k _ List.mem_cons_self).trans h)) z (hs.mono s)
theorem Reps.at {G : Hp} (s : Same (cut H ex) G) : ∀ {ss : List Sh} {ds : List D} {vs : List V} {fp : List Addr}, Reps K ad H ex ss ds vs fp → (∀ a ∈ fp, G a = H a) → Ats K ad G ds vs
  | _, _, _, _, .nil, _ => .nil
  | _, _, _, _, .cons h hs, k => .cons (Rep.at s h fun a z => k a (List.mem_append_left _ z)) (Reps.at s hs fun a z => k a (List.mem_append_right _ z))
end
/-- ex without fp -/
def less (ex : Own) (fp : List Addr) : Own := fun b => ex b ∧ b ∉ fp
theorem less_cut {fp : List Addr} : Same (cut H ex) (cut H (less ex fp)) := fun b o h => by
  obtain ⟨n, e⟩ := of_cut h
  exact cut_of (fun z => n z.1) e
theorem Rep.freeze {sh : Sh} {d : D} {v : V} {fp : List Addr} (r : Rep K ad H ex sh d v fp) : At K ad (cut H (less ex fp)) d v :=
  r.at less_cut fun a z => by
    obtain ⟨_, o, h⟩ := r.in a z
    rw [h]
    exact cut_of (fun q => q.2 z) h
/-- items that are anybody's -/
theorem Reps.fzs : ∀ {n : Nat} {ds : List D} {vs : List V} {fp : List Addr}, Reps K ad H ex (List.replicate n .fz) ds vs fp → fp = [] ∧ Ats K ad (cut H ex) ds vs
  | 0, _, _, _, h => by cases h; exact ⟨rfl, .nil⟩
  | n + 1, _, _, _, h => by
    rw [List.replicate_succ] at h
    cases h with
    | cons h hs =>
      cases h with
      | fz h =>
        obtain ⟨e, g⟩ := Reps.fzs hs
        subst e
        exact ⟨rfl, .cons h g⟩
theorem Ats.reps : ∀ {ds : List D} {vs : List V}, Ats K ad (cut H ex) ds vs → Reps K ad H ex (List.replicate ds.length .fz) ds vs []
  | _, _, .nil => .nil
  | _, _, .cons h hs => Reps.cons (f := []) (.fz h) (Ats.reps hs)
end

theorem rep_fz {K : PySem.W.Frag} {ad : Adr} {H : Hp} {ex : Own} {d : D} {v : V} {fp : List Addr} (r : Rep K ad H ex .fz d v fp) : At K ad (cut H ex) d v := by
  cases r with
  | fz h => exact h
/-! ### frames -/
abbrev Env := List (Option D)
abbrev Shs := List (Nat × Sh)
def sh (G : Shs) (i : Nat) : Sh := match G.lookup i with
  | some s => s
  | none => .fz
structure Fra (K : PySem.W.Frag) (ad : Adr) (G : Shs) (ex0 : Own) (ρ : Env) (σ : L2.St) (H : Hp) (ex : Own) : Prop where
  len : ρ.length = σ.length
  exok : ∀ b, ex b → ∃ o, H b = some o
  slots : ∃ fps : Nat → List Addr, (∀ i d, ρ[i]? = some (some d) → ∃ v, σ[i]? = some (some v) ∧ Rep K ad H ex (sh G i) d v (fps i)) ∧
    (∀ i, (fps i).Nodup) ∧ (∀ i j a, i ≠ j → a ∈ fps i → a ∉ fps j) ∧ ∀ i a, a ∈ fps i → ex a ∧ ¬ ex0 a
section
variable {K : PySem.W.Frag} {ad : Adr} {G : Shs} {ex0 ex ex' : Own} {ρ : Env} {σ : L2.St} {H H' : Hp}
theorem Fra.mono (f : Fra K ad G ex0 ρ σ H ex) (l : Le H ex H' ex') : Fra K ad G ex0 ρ σ H' ex' := by
  obtain ⟨fps, h1, h2, h3, h4⟩ := f.slots
  refine ⟨f.len, fun b h => ?_, fps, fun i d e => ?_, h2, h3, fun i a z => ?_⟩
  · rcases l.new b h with q | ⟨_, q⟩
    · obtain ⟨o, q⟩ := f.exok b q
      exact ⟨o, l.same b o q⟩
    · exact q
  · obtain ⟨v, e1, r⟩ := h1 i d e
    exact ⟨v, e1, r.mono l⟩
  · exact ⟨l.keep a (h4 i a z).1, (h4 i a z).2⟩
theorem Fra.fz (f : Fra K ad G ex0 ρ σ H ex) {i : Nat} {d : D} (e : ρ[i]? = some (some d)) (g : sh G i = .fz) : ∃ v, σ[i]? = some (some v) ∧ At K ad (cut H ex) d v := by
  obtain ⟨fps, h1, _⟩ := f.slots
  obtain ⟨v, e1, r⟩ := h1 i d e
  rw [g] at r
  exact ⟨v, e1, rep_fz r⟩
/-- .. with a new thing of one's own -/
theorem Fra.setN {Ha : Hp} {exa : Own} (f : Fra K ad G ex0 ρ σ Ha exa) (l : Le Ha exa H ex) {i : Nat} {d : D} {v : V} {fp : List Addr} (r : Rep K ad H ex (sh G i) d v fp) (nd : fp.Nodup) (nw : ∀ a ∈ fp, ¬ exa a) (n0 : ∀ a ∈ fp, ¬ ex0 a) :
    Fra K ad G ex0 (ρ.set i (some d)) (σ.set i (some v)) H ex := by
  obtain ⟨fps, h1, h2, h3, h4⟩ := f.slots
  have f' := f.mono l
  refine ⟨by rw [List.length_set, List.length_set, f.len], f'.exok, fun j => if j = i then fp else fps j, fun j d' e => ?_, fun j => ?_, fun j k a hjk hj hk => ?_, fun j a hj => ?_⟩
  · by_cases hj : j = i
    · subst hj
      have hl : j < ρ.length := by
        have := (List.getElem?_eq_some_iff.mp e).1
        simpa using this
      rw [List.getElem?_set_self hl] at e
      cases e
      refine ⟨v, List.getElem?_set_self (by rw [← f.len]; exact hl), ?_⟩
      dsimp only
      rw [if_pos rfl]
      exact r
    · rw [List.getElem?_set_ne (Ne.symm hj)] at e
      obtain ⟨v', e1, r'⟩ := h1 j d' e
      refine ⟨v', by rw [List.getElem?_set_ne (Ne.symm hj)]; exact e1, ?_⟩
      dsimp only
      rw [if_neg hj]
      exact r'.mono l
  · dsimp only
    split
    · exact nd
    · exact h2 j
  · dsimp only at hj hk
    by_cases ji : j = i
    · rw [if_pos ji] at hj
      have ki : k ≠ i := fun z => hjk (ji.trans z.symm)
      rw [if_neg ki] at hk
      exact nw a hj (h4 k a hk).1
    · rw [if_neg ji] at hj
      by_cases ki : k = i
      · rw [if_pos ki] at hk
        exact nw a hk (h4 j a hj).1
      · rw [if_neg ki] at hk
        exact h3 j k a hjk hj hk
  · dsimp only at hj
    split at hj
    · exact ⟨(r.in a hj).1, n0 a hj⟩
    · exact ⟨l.keep a (h4 j a hj).1, (h4 j a hj).2⟩
/-- .. with what anybody may hold -/
theorem Fra.setF (f : Fra K ad G ex0 ρ σ H ex) {i : Nat} {d : D} {v : V} (g : sh G i = .fz) (h : At K ad (cut H ex) d v) : Fra K ad G ex0 (ρ.set i (some d)) (σ.set i (some v)) H ex :=
  f.setN (fp := []) (Le.refl _ _) (by rw [g]; exact .fz h) List.nodup_nil (fun _ z => by cases z) (fun _ z => by cases z)
/-- a slot is forgotten -/
theorem Fra.drop (f : Fra K ad G ex0 ρ σ H ex) {i : Nat} (o : Option V) : Fra K ad G ex0 (ρ.set i none) (σ.set i o) H ex := by
  obtain ⟨fps, h1, h2, h3, h4⟩ := f.slots
  refine ⟨by rw [List.length_set, List.length_set, f.len], f.exok, fps, fun j d e => ?_, h2, h3, h4⟩
  by_cases hj : j = i
  · subst hj
    by_cases hl : j < ρ.length
    · rw [List.getElem?_set_self hl] at e
      cases e
    · rw [List.getElem?_eq_none (by simpa using hl)] at e
      cases e
  · rw [List.getElem?_set_ne (Ne.symm hj)] at e
    rw [List.getElem?_set_ne (Ne.symm hj)]
    exact h1 j d e
def wipeR (ρ : Env) : List Nat → Env
  | [] => ρ
  | v :: vs => (wipeR ρ vs).set v none
theorem Fra.wipe (f : Fra K ad G ex0 ρ σ H ex) : ∀ vs : List Nat, Fra K ad G ex0 (wipeR ρ vs) (L2.wipe σ vs) H ex
  | [] => f
  | v :: vs => (Fra.wipe f vs).drop none
end

/-! ### expressions -/
/-- what follows an expression: its value stands for d -/
def Post (K : PySem.W.Frag) (ad : Adr) (H : Hp) (ex : Own) (s : Sh) (Q : VK) (d : D) : Prop :=
  ∀ v H' ex' fp, Le H ex H' ex' → Rep K ad H' ex' s d v fp → fp.Nodup → (∀ a ∈ fp, ¬ ex a) → Q v H'
/-- the wish for refusals -/
abbrev Wi := Ex → L2.St → Hp → Prop
def Exc (w : Wi) (σ : L2.St) (H : Hp) (ex : Own) (e : Ex) : Prop := ∀ H' ex', Le H ex H' ex' → w e σ H'
theorem Exc.mono {w : Wi} {σ : L2.St} {H H1 : Hp} {ex ex1 : Own} {e : Ex} (h : Exc w σ H ex e) (l : Le H ex H1 ex1) : Exc w σ H1 ex1 e := fun H' ex' l' => h H' ex' (l.trans l')
/-- e's value, from slots that stand for ρ, stands for f ρ -/
def DE (X : Cx) (ad : Adr) (w : Wi) (G : Shs) (e : Expr) (s : Sh) (f : Env → R D) : Prop :=
  ∃ t, PE X e t ∧ ∀ ex0 ρ σ H ex Q, Fra X.K ad G ex0 ρ σ H ex → Sat (f ρ) (Post X.K ad H ex s Q) (Exc w σ H ex) → t σ H Q
/-- an argument list (of things that are anybody's) -/
def DA (X : Cx) (ad : Adr) (w : Wi) (G : Shs) (es : List Expr) (f : Env → R (List D)) : Prop :=
  ∃ t, PA X es t ∧ ∀ ex0 ρ σ H ex Q, Fra X.K ad G ex0 ρ σ H ex → Sat (f ρ) (fun ds => ∀ vs H' ex', Le H ex H' ex' → Ats X.K ad (cut H' ex') ds vs → Q vs H') (Exc w σ H ex) → t σ H Q
/-- a test -/
def DT (X : Cx) (ad : Adr) (w : Wi) (G : Shs) (e : Expr) (f : Env → R Bool) : Prop :=
  ∃ t, PT X e t ∧ ∀ ex0 ρ σ H ex Q, Fra X.K ad G ex0 ρ σ H ex → Sat (f ρ) (fun b => ∀ H' ex', Le H ex H' ex' → Q b H') (Exc w σ H ex) → t σ H Q
/-- .. whatever its whole is -/
def DW (X : Cx) (ad : Adr) (w : Wi) (G : Shs) (e : Expr) (f : Env → R Bool) : Prop :=
  ∃ t, PW X e t ∧ ∀ ex0 ρ σ H ex Q, Fra X.K ad G ex0 ρ σ H ex → Sat (f ρ) (fun b => ∀ H' ex', Le H ex H' ex' → Q b H') (Exc w σ H ex) → t σ H Q

section
variable {X : Cx} {ad : Adr} {w : Wi} {G : Shs} {pos : Pos}
theorem post_fz {K : PySem.W.Frag} {H : Hp} {ex : Own} {Q : VK} {d : D} (h : Post K ad H ex .fz Q d) {v : V} {H' : Hp} {ex' : Own} (l : Le H ex H' ex') (a : At K ad (cut H' ex') d v) : Q v H' :=
  h v H' ex' [] l (.fz a) List.nodup_nil fun _ z => by cases z
/-- the thing is given away -/
theorem de_fz {e : Expr} {s : Sh} {f : Env → R D} (h : DE X ad w G e s f) : DE X ad w G e .fz f := by
  obtain ⟨t, p, k⟩ := h
  refine ⟨t, p, fun ex0 ρ σ H ex Q fr q => k ex0 ρ σ H ex Q fr (q.imp (fun d q v H' ex' fp l r _ nw => ?_) fun _ z => z)⟩
  refine post_fz q (ex' := less ex' fp) ⟨l.same, fun b z => ⟨l.keep b z, fun m => nw b m z⟩, fun b z => l.new b z.1⟩ r.freeze

def dV (i : Nat) : Env → R D := fun ρ => match ρ[i]? with
  | some (some d) => .ok d
  | _ => .bad
def dC (d : D) : Env → R D := fun _ => .ok d
theorem de_var (i : Nat) {x : Str} (hN : X.N[i]? = some x := by rfl) (hg : sh G i = .fz := by rfl) (hv : Vis X.env.scope x := by first | exact Or.inl rfl | exact Or.inr (Or.inl rfl) | exact Or.inr (Or.inr rfl)) (hd : (x == ("__debug__" : Str)) = false := by decide)
    (hcd : (x == ("__classdict__" : Str)) = false := by decide) : DE X ad w G (.Name x pos) .fz (dV i) := by
  refine ⟨_, pe_var hN hv hd hcd, fun ex0 ρ σ H ex Q fr q => ?_⟩
  unfold dV at q
  split at q
  · rename_i d e
    obtain ⟨v, e1, a⟩ := fr.fz e hg
    exact ⟨v, e1, post_fz q (Le.refl _ _) a⟩
  · exact q.elim
theorem de_int {i : Int} {j} : DE X ad w G (.Constant (.int i) j pos) .fz (dC (.int i)) := ⟨_, pe_int, fun _ _ _ _ _ _ _ q => post_fz q (Le.refl _ _) (.int i)⟩
theorem de_bl {b : Bool} {j} : DE X ad w G (.Constant (.bool b) j pos) .fz (dC (.bl b)) := ⟨_, pe_bl, fun _ _ _ _ _ _ _ q => post_fz q (Le.refl _ _) (.bl b)⟩
theorem de_non {j} : DE X ad w G (.Constant .none j pos) .fz (dC .non) := ⟨_, pe_non, fun _ _ _ _ _ _ _ q => post_fz q (Le.refl _ _) .non⟩
theorem de_str {x : Str} {j} : DE X ad w G (.Constant (.str x) j pos) .fz (dC (.str x)) := ⟨_, pe_str, fun _ _ _ _ _ _ _ q => post_fz q (Le.refl _ _) (.str x)⟩

/-! ### operators -/
def d2 (o : D → D → R D) (f g : Env → R D) : Env → R D := fun ρ => (f ρ).bind fun x => (g ρ).bind fun y => o x y
def d1 (o : D → R D) (f : Env → R D) : Env → R D := fun ρ => (f ρ).bind o
/-- what is owned stands -/
def Exok (H : Hp) (ex : Own) : Prop := ∀ b, ex b → ∃ o, H b = some o
/-- an operator by data -/
def DOp (X : Cx) (ad : Adr) (fn : Value → Value → Sem Value) (s : Sh) (o : D → D → R D) : Prop :=
  ∃ r, OpR X fn r ∧ ∀ x y d e H ex Q, Exok H ex → At X.K ad (cut H ex) d x → At X.K ad (cut H ex) e y → Sat (o d e) (Post X.K ad H ex s Q) (fun _ => False) → r x y H Q
def DUn (X : Cx) (ad : Adr) (fn : Value → Sem Value) (o : D → R D) : Prop :=
  ∃ r, UnR X fn r ∧ ∀ x d H ex Q, Exok H ex → At X.K ad (cut H ex) d x → Sat (o d) (Post X.K ad H ex .fz Q) (fun _ => False) → r x H Q
theorem two_run {a b : Expr} {f g : Env → R D} {ta tb : TE} {r : R2} {s : Sh} {o : D → D → R D}
    (ka : ∀ ex0 ρ σ H ex Q, Fra X.K ad G ex0 ρ σ H ex → Sat (f ρ) (Post X.K ad H ex .fz Q) (Exc w σ H ex) → ta σ H Q)
    (kb : ∀ ex0 ρ σ H ex Q, Fra X.K ad G ex0 ρ σ H ex → Sat (g ρ) (Post X.K ad H ex .fz Q) (Exc w σ H ex) → tb σ H Q)
    (kr : ∀ x y d e H ex Q, Exok H ex → At X.K ad (cut H ex) d x → At X.K ad (cut H ex) e y → Sat (o d e) (Post X.K ad H ex s Q) (Exc w [] H ex) → r x y H Q)
    (no : ∀ d e c, o d e ≠ .exc c) : ∀ ex0 ρ σ H ex Q, Fra X.K ad G ex0 ρ σ H ex → Sat (d2 o f g ρ) (Post X.K ad H ex s Q) (Exc w σ H ex) → tOp r ta tb σ H Q := by
  intro ex0 ρ σ H ex Q fr q
  refine ka ex0 ρ σ H ex _ fr ?_
  unfold d2 at q
  rw [sat_bind] at q
  refine q.imp (fun d q v H1 ex1 fp l r1 _ _ => ?_) fun _ z => z
  have a1 := rep_fz r1
  refine kb ex0 ρ σ H1 ex1 _ (fr.mono l) ?_
  rw [sat_bind] at q
  refine q.imp (fun e q u H2 ex2 fp l2 r2 _ _ => ?_) fun _ z => z.mono l
  refine kr v u d e H2 ex2 Q ((fr.mono l).mono l2).exok (a1.mono l2.cuts) (rep_fz r2) ?_
  cases hh : o d e with
  | ok y =>
    rw [hh] at q
    exact fun v H' ex' fp l3 r3 nd nw => q v H' ex' fp ((l.trans l2).trans l3) r3 nd fun a z zz => nw a z ((l.trans l2).keep a zz)
  | exc c => exact absurd hh (no d e c)
  | bad => rw [hh] at q; exact q
theorem de_op {op : Operator} {a b : Expr} {f g : Env → R D} {s : Sh} {o : D → D → R D} (ho : DOp X ad (binaryOp op) s o) (ha : DE X ad w G a .fz f) (hb : DE X ad w G b .fz g) (no : ∀ d e c, o d e ≠ .exc c := by intro d e c; cases d <;> cases e <;> intro z <;> first | cases z | (revert z; dsimp only; split <;> intro z <;> cases z) | (revert z; dsimp only; split <;> (try split) <;> intro z <;> cases z)) :
    DE X ad w G (.BinOp a op b pos) s (d2 o f g) := by
  obtain ⟨r, hr, kr⟩ := ho
  obtain ⟨ta, pa, ka⟩ := ha
  obtain ⟨tb, pb, kb⟩ := hb
  refine ⟨_, pe_op hr pa pb, two_run (a := a) (b := b) ka kb (fun x y d e H ex Q h0 h1 h2 q => kr x y d e H ex Q h0 h1 h2 ?_) no⟩
  cases hh : o d e with
  | ok y => rw [hh] at q; exact q
  | exc c => exact absurd hh (no d e c)
  | bad => rw [hh] at q; exact q
theorem de_cmp {op : CmpOp} {a b : Expr} {f g : Env → R D} {s : Sh} {o : D → D → R D} (ho : DOp X ad (compareOp op) s o) (ha : DE X ad w G a .fz f) (hb : DE X ad w G b .fz g) (hm : behindInMarks op b = false) (no : ∀ d e c, o d e ≠ .exc c) :
    DE X ad w G (.Compare a [op] [b] pos) s (d2 o f g) := by
  obtain ⟨r, hr, kr⟩ := ho
  obtain ⟨ta, pa, ka⟩ := ha
  obtain ⟨tb, pb, kb⟩ := hb
  refine ⟨_, pe_cmpR hr pa pb hm, two_run (a := a) (b := b) ka kb (fun x y d e H ex Q h0 h1 h2 q => kr x y d e H ex Q h0 h1 h2 ?_) no⟩
  cases hh : o d e with
  | ok y => rw [hh] at q; exact q
  | exc c => exact absurd hh (no d e c)
  | bad => rw [hh] at q; exact q
/-- a bool as a test -/
def asB : D → R Bool
  | .bl b => .ok b
  | _ => .bad
def dB (f : Env → R D) : Env → R Bool := fun ρ => (f ρ).bind asB
theorem post_b {K : PySem.W.Frag} {H : Hp} {ex : Own} {Q : Bool → Hp → Prop} {d : D} {q : Ex → Prop} (h : Sat (asB d) (fun b => ∀ H' ex', Le H ex H' ex' → Q b H') q) : Post K ad H ex .fz (fun x H' => ∃ k, x = .bl k ∧ Q k H') d := by
  intro v H' ex' fp l r _ _
  have a := rep_fz r
  cases a with
  | bl b => exact ⟨b, rfl, h H' ex' l⟩
  | _ => exact h.elim
theorem dt_cmp {op : CmpOp} {a b : Expr} {f g : Env → R D} {o : D → D → R D} (ho : DOp X ad (compareOp op) .fz o) (ha : DE X ad w G a .fz f) (hb : DE X ad w G b .fz g) (hm : behindInMarks op b = false) (no : ∀ d e c, o d e ≠ .exc c) :
    DT X ad w G (.Compare a [op] [b] pos) (dB (d2 o f g)) := by
  obtain ⟨r, hr, kr⟩ := ho
  obtain ⟨ta, pa, ka⟩ := ha
  obtain ⟨tb, pb, kb⟩ := hb
  refine ⟨_, pt_cmpR hr pa pb hm, fun ex0 ρ σ H ex Q fr q => ?_⟩
  refine two_run (a := a) (b := b) (s := .fz) (o := o) ka kb (fun x y d e H ex Q h0 h1 h2 q => kr x y d e H ex Q h0 h1 h2 ?_) no ex0 ρ σ H ex _ fr ?_
  · cases hh : o d e with
    | ok y => rw [hh] at q; exact q
    | exc c => exact absurd hh (no d e c)
    | bad => rw [hh] at q; exact q
  · unfold dB at q
    rw [sat_bind] at q
    exact q.imp (fun d h => post_b h) fun _ z => z
/-- an expression as a test -/
theorem dt_val {e : Expr} {f : Env → R D} (h : DE X ad w G e .fz f) (he : ∀ whole, isTrue e X.env whole = (do let v ← whole; standAt e.pos; holding [v] (truthy v)) := by intro _; rfl) : DT X ad w G e (dB f) := by
  obtain ⟨t, p, k⟩ := h
  refine ⟨_, pt_val p he, fun ex0 ρ σ H ex Q fr q => ?_⟩
  refine k ex0 ρ σ H ex _ fr ?_
  unfold dB at q
  rw [sat_bind] at q
  exact q.imp (fun d h => post_b h) fun _ z => z
theorem dw_dt {e : Expr} {f : Env → R Bool} (h : DW X ad w G e f) : DT X ad w G e f := by
  obtain ⟨t, p, k⟩ := h
  exact ⟨t, p.pt, k⟩
def bAnd (f g : Env → R Bool) : Env → R Bool := fun ρ => (f ρ).bind fun b => if b = true then g ρ else .ok false
def bOr (f g : Env → R Bool) : Env → R Bool := fun ρ => (f ρ).bind fun b => if b = true then .ok true else g ρ
def bNot (f : Env → R Bool) : Env → R Bool := fun ρ => (f ρ).bind fun b => .ok (!b)
theorem dw_and1 {a : Expr} {f : Env → R Bool} (h : DT X ad w G a f) : DW X ad w G (.BoolOp .And [a] pos) f := by
  obtain ⟨t, p, k⟩ := h
  exact ⟨t, pw_and1 p, k⟩
theorem dw_or1 {a : Expr} {f : Env → R Bool} (h : DT X ad w G a f) : DW X ad w G (.BoolOp .Or [a] pos) f := by
  obtain ⟨t, p, k⟩ := h
  exact ⟨t, pw_or1 p, k⟩
theorem dw_and {a b : Expr} {rest : List Expr} {f g : Env → R Bool} (h : DT X ad w G a f) (h' : DW X ad w G (.BoolOp .And (b :: rest) pos) g) : DW X ad w G (.BoolOp .And (a :: b :: rest) pos) (bAnd f g) := by
  obtain ⟨t, p, k⟩ := h
  obtain ⟨t', p', k'⟩ := h'
  refine ⟨_, pw_and p p', fun ex0 ρ σ H ex Q fr q => ?_⟩
  refine k ex0 ρ σ H ex _ fr ?_
  unfold bAnd at q
  rw [sat_bind] at q
  refine q.imp (fun b q H' ex' l => ?_) fun _ z => z
  cases b with
  | true =>
    rw [if_pos rfl] at q ⊢
    exact k' ex0 ρ σ H' ex' _ (fr.mono l) (q.imp (fun c q H2 ex2 l2 => q H2 ex2 (l.trans l2)) fun _ z => z.mono l)
  | false =>
    rw [if_neg Bool.false_ne_true] at q ⊢
    exact q H' ex' l
theorem dw_or {a b : Expr} {rest : List Expr} {f g : Env → R Bool} (h : DT X ad w G a f) (h' : DW X ad w G (.BoolOp .Or (b :: rest) pos) g) : DW X ad w G (.BoolOp .Or (a :: b :: rest) pos) (bOr f g) := by
  obtain ⟨t, p, k⟩ := h
  obtain ⟨t', p', k'⟩ := h'
  refine ⟨_, pw_or p p', fun ex0 ρ σ H ex Q fr q => ?_⟩
  refine k ex0 ρ σ H ex _ fr ?_
  unfold bOr at q
  rw [sat_bind] at q
  refine q.imp (fun b q H' ex' l => ?_) fun _ z => z
  cases b with
  | false =>
    rw [if_neg Bool.false_ne_true] at q ⊢
    exact k' ex0 ρ σ H' ex' _ (fr.mono l) (q.imp (fun c q H2 ex2 l2 => q H2 ex2 (l.trans l2)) fun _ z => z.mono l)
  | true =>
    rw [if_pos rfl] at q ⊢
    exact q H' ex' l
theorem dt_not {a : Expr} {f : Env → R Bool} (h : DT X ad w G a f) : DT X ad w G (.UnaryOp .Not a pos) (bNot f) := by
  obtain ⟨t, p, k⟩ := h
  refine ⟨_, pt_not p, fun ex0 ρ σ H ex Q fr q => ?_⟩
  refine k ex0 ρ σ H ex _ fr ?_
  unfold bNot at q
  rw [sat_bind] at q
  exact q.imp (fun b q H' ex' l => q H' ex' l) fun _ z => z
/-- .. as values -/
def vAnd (f g : Env → R D) : Env → R D := fun ρ => (f ρ).bind fun x => (asB x).bind fun b => if b = true then g ρ else .ok (.bl false)
def vOr (f g : Env → R D) : Env → R D := fun ρ => (f ρ).bind fun x => (asB x).bind fun b => if b = true then .ok (.bl true) else g ρ
def vNot (f : Env → R D) : Env → R D := fun ρ => (f ρ).bind fun x => (asB x).bind fun b => .ok (.bl (!b))
theorem post_bv {K : PySem.W.Frag} {H : Hp} {ex : Own} {d : D} {q : Ex → Prop} {P : Bool → Prop} {Q : VK} (h : Sat (asB d) P q) (k : ∀ b H' ex', P b → Le H ex H' ex' → Q (.bl b) H') : Post K ad H ex .fz Q d := by
  intro v H' ex' fp l r _ _
  have a := rep_fz r
  cases a with
  | bl b => exact k b H' ex' h l
  | _ => exact h.elim
theorem de_one {op} {a : Expr} {f : Env → R D} {s : Sh} (h : DE X ad w G a s f) : DE X ad w G (.BoolOp op [a] pos) s f := by
  obtain ⟨t, p, k⟩ := h
  exact ⟨t, pe_one p, k⟩
theorem de_and {a b : Expr} {rest : List Expr} {f g : Env → R D} (h : DE X ad w G a .fz f) (h' : DE X ad w G (.BoolOp .And (b :: rest) pos) .fz g) : DE X ad w G (.BoolOp .And (a :: b :: rest) pos) .fz (vAnd f g) := by
  obtain ⟨t, p, k⟩ := h
  obtain ⟨t', p', k'⟩ := h'
  refine ⟨_, pe_and p p', fun ex0 ρ σ H ex Q fr q => ?_⟩
  refine k ex0 ρ σ H ex _ fr ?_
  unfold vAnd at q
  rw [sat_bind] at q
  refine q.imp (fun d q => ?_) fun _ z => z
  rw [sat_bind] at q
  refine post_bv q fun b H' ex' q l => ⟨b, rfl, ?_⟩
  cases b with
  | true =>
    rw [if_pos rfl] at q ⊢
    refine k' ex0 ρ σ H' ex' _ (fr.mono l) (q.imp (fun c q v H2 ex2 fp l2 r nd nw => ?_) fun _ z => z.mono l)
    exact q v H2 ex2 fp (l.trans l2) r nd fun a z zz => nw a z (l.keep a zz)
  | false =>
    rw [if_neg Bool.false_ne_true] at q ⊢
    exact post_fz q l (.bl false)
theorem de_or {a b : Expr} {rest : List Expr} {f g : Env → R D} (h : DE X ad w G a .fz f) (h' : DE X ad w G (.BoolOp .Or (b :: rest) pos) .fz g) : DE X ad w G (.BoolOp .Or (a :: b :: rest) pos) .fz (vOr f g) := by
  obtain ⟨t, p, k⟩ := h
  obtain ⟨t', p', k'⟩ := h'
  refine ⟨_, pe_or p p', fun ex0 ρ σ H ex Q fr q => ?_⟩
  refine k ex0 ρ σ H ex _ fr ?_
  unfold vOr at q
  rw [sat_bind] at q
  refine q.imp (fun d q => ?_) fun _ z => z
  rw [sat_bind] at q
  refine post_bv q fun b H' ex' q l => ⟨b, rfl, ?_⟩
  cases b with
  | false =>
    rw [if_neg Bool.false_ne_true] at q ⊢
    refine k' ex0 ρ σ H' ex' _ (fr.mono l) (q.imp (fun c q v H2 ex2 fp l2 r nd nw => ?_) fun _ z => z.mono l)
    exact q v H2 ex2 fp (l.trans l2) r nd fun a z zz => nw a z (l.keep a zz)
  | true =>
    rw [if_pos rfl] at q ⊢
    exact post_fz q l (.bl true)
theorem de_not {a : Expr} {f : Env → R D} (h : DE X ad w G a .fz f) : DE X ad w G (.UnaryOp .Not a pos) .fz (vNot f) := by
  obtain ⟨t, p, k⟩ := h
  refine ⟨_, pe_not p, fun ex0 ρ σ H ex Q fr q => ?_⟩
  refine k ex0 ρ σ H ex _ fr ?_
  unfold vNot at q
  rw [sat_bind] at q
  refine q.imp (fun d q => ?_) fun _ z => z
  rw [sat_bind] at q
  exact post_bv q fun b H' ex' q l => ⟨b, rfl, post_fz q l (.bl _)⟩
theorem de_un {op : UnaryOp} {a : Expr} {f : Env → R D} {o : D → R D} (ho : DUn X ad (unaryOp op) o) (ha : DE X ad w G a .fz f) (no : ∀ d c, o d ≠ .exc c) : DE X ad w G (.UnaryOp op a pos) .fz (d1 o f) := by
  obtain ⟨r, hr, kr⟩ := ho
  obtain ⟨t, p, k⟩ := ha
  refine ⟨_, pe_un hr p, fun ex0 ρ σ H ex Q fr q => ?_⟩
  refine k ex0 ρ σ H ex _ fr ?_
  unfold d1 at q
  rw [sat_bind] at q
  refine q.imp (fun d q v H1 ex1 fp l r1 _ _ => ?_) fun _ z => z
  refine kr v d H1 ex1 Q (fr.mono l).exok (rep_fz r1) ?_
  cases hh : o d with
  | ok y =>
    rw [hh] at q
    exact fun v H' ex' fp l3 r3 nd nw => q v H' ex' fp (l.trans l3) r3 nd fun a z zz => nw a z (l.keep a zz)
  | exc c => exact absurd hh (no d c)
  | bad => rw [hh] at q; exact q

/-! ### arguments -/
def dNil : Env → R (List D) := fun _ => .ok []
def dCons (f : Env → R D) (g : Env → R (List D)) : Env → R (List D) := fun ρ => (f ρ).bind fun d => (g ρ).bind fun ds => .ok (d :: ds)
theorem da_nil : DA X ad w G [] dNil := ⟨_, pa_nil, fun _ _ _ _ _ _ _ q => q [] _ _ (Le.refl _ _) .nil⟩
theorem da_cons {e : Expr} {es : List Expr} {f : Env → R D} {g : Env → R (List D)} (h : DE X ad w G e .fz f) (h' : DA X ad w G es g) (hs : starEach (e :: es) X.env = (false, eval e X.env) :: starEach es X.env := by rfl) : DA X ad w G (e :: es) (dCons f g) := by
  obtain ⟨t, p, k⟩ := h
  obtain ⟨t', p', k'⟩ := h'
  refine ⟨_, pa_cons p p' hs, fun ex0 ρ σ H ex Q fr q => ?_⟩
  refine k ex0 ρ σ H ex _ fr ?_
  unfold dCons at q
  rw [sat_bind] at q
  refine q.imp (fun d q v H1 ex1 fp l r1 _ _ => ?_) fun _ z => z
  refine k' ex0 ρ σ H1 ex1 _ (fr.mono l) ?_
  rw [sat_bind] at q
  exact q.imp (fun ds q vs H2 ex2 l2 a2 => q (v :: vs) H2 ex2 (l.trans l2) (.cons ((rep_fz r1).mono l2.cuts) a2)) fun _ z => z.mono l
end
end DL

set_option Elab.async false
set_option linter.all false
set_option maxRecDepth 100000
set_option maxHeartbeats 4000000
set_option autoImplicit false
/-! DL2: statements, loops, comprehensions, defs over the data layer. -/
namespace DL
open PySem PySem.Spec PyProof.Rows L2

/-- what a statement comes to -/
inductive Out where
  | nx (ρ : Env) | rt (d : D) (ρ : Env) | xc (e : Ex) (ρ : Env) | bad
def Out.seq (o : Out) (k : Env → Out) : Out := match o with
  | .nx ρ => k ρ
  | .rt d ρ => .rt d ρ
  | .xc e ρ => .xc e ρ
  | .bad => .bad
@[simp] theorem seq_nx (ρ : Env) (k : Env → Out) : (Out.nx ρ).seq k = k ρ := rfl
@[simp] theorem seq_rt (d : D) (ρ : Env) (k : Env → Out) : (Out.rt d ρ).seq k = .rt d ρ := rfl
@[simp] theorem seq_xc (e : Ex) (ρ : Env) (k : Env → Out) : (Out.xc e ρ).seq k = .xc e ρ := rfl
@[simp] theorem seq_bad (k : Env → Out) : (Out.bad).seq k = .bad := rfl
/-- an expression, then -/
def R.then {α : Type} (x : R α) (ρ : Env) (k : α → Out) : Out := match x with
  | .ok a => k a
  | .exc e => .xc e ρ
  | .bad => .bad
@[simp] theorem then_ok {α : Type} (a : α) (ρ : Env) (k : α → Out) : (R.ok a).then ρ k = k a := rfl
@[simp] theorem then_exc {α : Type} (e : Ex) (ρ : Env) (k : α → Out) : (R.exc e : R α).then ρ k = .xc e ρ := rfl
@[simp] theorem then_bad {α : Type} (ρ : Env) (k : α → Out) : (R.bad : R α).then ρ k = .bad := rfl

def Mo (H : Hp) (ex : Own) (H' : Hp) (ex' : Own) : Prop := Same (cut H ex) (cut H' ex')
/-- a slot of a list of ours (that may have been given away) -/
def isO : Sh → Bool
  | .own _ => true
  | .tup _ => true
  | _ => false
/-- .. forgotten -/
def hideR (G : Shs) (ρ : Env) : Env := ρ.mapIdx fun i o => if isO (sh G i) = true then none else o
theorem hide_len {G : Shs} {ρ : Env} : (hideR G ρ).length = ρ.length := by
  unfold hideR
  simp
theorem hide_in {G : Shs} {ρ : Env} {i : Nat} {d : D} (h : (hideR G ρ)[i]? = some (some d)) : ρ[i]? = some (some d) ∧ isO (sh G i) = false := by
  unfold hideR at h
  rw [List.getElem?_mapIdx] at h
  cases e : ρ[i]? with
  | none => rw [e] at h; cases h
  | some o =>
    rw [e] at h
    have h : some (if isO (sh G i) = true then none else o) = some (some d) := h
    split at h
    · cases h
    · rename_i hz
      cases h
      exact ⟨rfl, by simpa using hz⟩
theorem hide_of {G : Shs} {ρ : Env} {i : Nat} {d : D} (h : ρ[i]? = some (some d)) (hz : isO (sh G i) = false) : (hideR G ρ)[i]? = some (some d) := by
  unfold hideR
  rw [List.getElem?_mapIdx, h]
  show some (if isO (sh G i) = true then none else some d) = _
  rw [hz]
  rfl
section
variable {K : PySem.W.Frag} {ad : Adr} {G G2 : Shs} {ex0 ex ex' : Own} {ρ ρ2 : Env} {σ : L2.St} {H H' H0 : Hp}
/-- fewer slots -/
theorem Fra.sub (f : Fra K ad G ex0 ρ σ H ex) (hl : ρ2.length = ρ.length) (h : ∀ i d, ρ2[i]? = some (some d) → ρ[i]? = some (some d) ∧ sh G2 i = sh G i) : Fra K ad G2 ex0 ρ2 σ H ex := by
  obtain ⟨fps, h1, h2, h3, h4⟩ := f.slots
  refine ⟨hl.trans f.len, f.exok, fps, fun i d e => ?_, h2, h3, h4⟩
  obtain ⟨e1, e2⟩ := h i d e
  obtain ⟨v, e3, r⟩ := h1 i d e1
  exact ⟨v, e3, by rw [e2]; exact r⟩
/-- what stands for ρ at the slots that are anybody's, or have a known place -/
abbrev Frz (K : PySem.W.Frag) (ad : Adr) (G : Shs) (ex0 : Own) (ρ : Env) (σ : L2.St) (H : Hp) (ex : Own) : Prop := Fra K ad G ex0 (hideR G ρ) σ H ex
theorem Fra.frz (f : Fra K ad G ex0 ρ σ H ex) : Frz K ad G ex0 ρ σ H ex := f.sub hide_len fun i d e => ⟨(hide_in e).1, rfl⟩
theorem Frz.up {G' : Shs} (f : Frz K ad G' ex0 ρ σ H ex) (h : ∀ i, isO (sh G i) = false → sh G' i = sh G i) : Frz K ad G ex0 ρ σ H ex := Fra.sub f (by rw [hide_len, hide_len]) fun i d e => by
  obtain ⟨e1, e2⟩ := hide_in e
  have e3 := h i e2
  exact ⟨hide_of e1 (by rw [e3]; exact e2), e3.symm⟩
/-- no known place is in fp -/
def NoPin (G : Shs) (ρ : Env) (fp : List Addr) : Prop := ∀ i a d, ρ[i]? = some (some d) → sh G i = .pin a → a ∉ fp
theorem NoPin.up {G' : Shs} {fp : List Addr} (h : NoPin G' ρ fp) (k : ∀ i, isO (sh G i) = false → sh G' i = sh G i) : NoPin G ρ fp := fun i a d e g => h i a d e (by rw [k i (by rw [g]; rfl)]; exact g)
theorem NoPin.nil : NoPin G ρ [] := fun _ _ _ _ _ z => by cases z
theorem Fra.noPin (f : Fra K ad G ex0 ρ σ H ex) {fp : List Addr} (h : ∀ a ∈ fp, ¬ ex a) : NoPin G ρ fp := fun i a d e g z => by
  obtain ⟨fps, h1, h2, h3, h4⟩ := f.slots
  obtain ⟨v, e3, r⟩ := h1 i d e
  rw [g] at r
  generalize hq : fps i = q at r
  cases r with
  | pin hex _ _ _ => exact h a z hex
theorem Mo.refl : Mo H ex H ex := Same.refl _
theorem Mo.trans {H1 H2 : Hp} {ex1 ex2 : Own} (a : Mo H ex H1 ex1) (b : Mo H1 ex1 H2 ex2) : Mo H ex H2 ex2 := Same.trans a b
theorem Le.mo (l : Le H ex H' ex') : Mo H ex H' ex' := l.cuts
end
/-- what is wanted behind a statement -/
def Ok (K : PySem.W.Frag) (ad : Adr) (w : Wi) (rs : Sh) (G G' : Shs) (H0 : Hp) (ex0 : Own) (H : Hp) (ex : Own) (De : Ends) : Out → Prop
  | .nx ρ' => ∀ σ' H' ex', Le H0 ex0 H' ex' → Mo H ex H' ex' → Fra K ad G' ex0 ρ' σ' H' ex' → De.nx σ' H'
  | .rt d ρ' => ∀ v σ' H' ex' fp, Le H0 ex0 H' ex' → Mo H ex H' ex' → Rep K ad H' ex' rs d v fp → fp.Nodup → (∀ a ∈ fp, ¬ ex0 a) → Frz K ad G ex0 ρ' σ' H' ex' → NoPin G ρ' fp → De.rt v H'
  | .xc c ρ' => ∀ σ' H' ex', Le H0 ex0 H' ex' → Mo H ex H' ex' → Frz K ad G ex0 ρ' σ' H' ex' → w c σ' H'
  | .bad => False
def SD (X : Cx) (ad : Adr) (w : Wi) (rs : Sh) (G : Shs) (st : Stmt) (g : Env → Out) : Prop :=
  ∃ t, PS X st t ∧ ∀ H0 ex0 ρ σ H ex De, Le H0 ex0 H ex → Fra X.K ad G ex0 ρ σ H ex → Ok X.K ad w rs G G H0 ex0 H ex De (g ρ) → t De σ H
def SDs (X : Cx) (ad : Adr) (w : Wi) (rs : Sh) (G G' : Shs) (sts : List Stmt) (g : Env → Out) : Prop :=
  ∃ t, PSs X sts t ∧ ∀ H0 ex0 ρ σ H ex De, Le H0 ex0 H ex → Fra X.K ad G ex0 ρ σ H ex → Ok X.K ad w rs G G' H0 ex0 H ex De (g ρ) → t De σ H

section
variable {K : PySem.W.Frag} {ad : Adr} {w : Wi} {rs : Sh} {G G' : Shs} {H0 H H1 : Hp} {ex0 ex ex1 : Own} {De De' : Ends} {o : Out}
/-- the same from a later state -/
theorem Ok.from (h : Ok K ad w rs G G' H0 ex0 H ex De o) (m : Mo H ex H1 ex1) : Ok K ad w rs G G' H0 ex0 H1 ex1 De o := by
  cases o with
  | nx ρ => exact fun σ' H' ex' l m' f => h σ' H' ex' l (m.trans m') f
  | rt d ρ => exact fun v σ' H' ex' fp l m' r => h v σ' H' ex' fp l (m.trans m') r
  | xc c ρ => exact fun σ' H' ex' l m' f => h σ' H' ex' l (m.trans m') f
  | bad => exact h
end

section
variable {X : Cx} {ad : Adr} {w : Wi} {rs : Sh} {G G' : Shs} {pos : Pos}
def oNx : Env → Out := fun ρ => .nx ρ
def oSeq (g h : Env → Out) : Env → Out := fun ρ => (g ρ).seq h
theorem sds_nil : SDs X ad w rs G G [] oNx := ⟨_, pss_nil, fun H0 ex0 ρ σ H ex De l f h => h σ H ex l Mo.refl f⟩
theorem sds_cons {st : Stmt} {rest : List Stmt} {g h : Env → Out} (a : SD X ad w rs G st g) (b : SDs X ad w rs G G' rest h) : SDs X ad w rs G G' (st :: rest) (oSeq g h) := by
  obtain ⟨t, p, k⟩ := a
  obtain ⟨u, p', k'⟩ := b
  refine ⟨_, pss_cons p p', fun H0 ex0 ρ σ H ex De l f q => ?_⟩
  refine k H0 ex0 ρ σ H ex _ l f ?_
  unfold oSeq at q
  cases e : g ρ with
  | nx ρ1 =>
    rw [e] at q
    exact fun σ1 H1 ex1 l1 m1 f1 => k' H0 ex0 ρ1 σ1 H1 ex1 De l1 f1 (q.from m1)
  | rt d ρ1 => rw [e] at q; exact q
  | xc c ρ1 => rw [e] at q; exact q
  | bad => rw [e] at q; exact q
theorem sds_one {st : Stmt} {g : Env → Out} (a : SD X ad w rs G st g) : SDs X ad w rs G G [st] g := by
  obtain ⟨t, p, k⟩ := a
  exact ⟨t, pss_one p, k⟩
theorem sh_filter {i j : Nat} (hj : j ≠ i) : ∀ {G : Shs}, sh (G.filter fun p => p.1 != i) j = sh G j := by
  intro G
  have : List.lookup j (G.filter fun p => p.1 != i) = List.lookup j G := by
    induction G with
    | nil => rfl
    | cons q G ih =>
      obtain ⟨m, s⟩ := q
      by_cases hm : m = i
      · subst hm
        rw [List.filter_cons_of_neg (by simp), ih, List.lookup_cons]
        have : (j == m) = false := by simpa using hj
        rw [this]
      · rw [List.filter_cons_of_pos (by simpa using hm), List.lookup_cons, List.lookup_cons, ih]
  unfold sh
  rw [this]
theorem sh_filter_self {i : Nat} {G : Shs} : sh (G.filter fun p => p.1 != i) i = .fz := by
  have : List.lookup i (G.filter fun p => p.1 != i) = none := by
    rw [List.lookup_eq_none_iff]
    intro p hp
    have := (List.mem_filter.mp hp).2
    simp at this ⊢
    exact fun z => this z.symm
  unfold sh
  rw [this]
/-- a slot's list becomes anybody's -/
theorem sds_frz (i : Nat) {sts : List Stmt} {g : Env → Out} (a : SDs X ad w rs (G.filter fun p => p.1 != i) G' sts g) (hnp : isO (sh G i) = true := by rfl) : SDs X ad w rs G G' sts g := by
  obtain ⟨t, p, k⟩ := a
  have look : ∀ j, j ≠ i → sh (G.filter fun p => p.1 != i) j = sh G j := fun j hj => sh_filter hj
  have at_i : sh (G.filter fun p => p.1 != i) i = .fz := sh_filter_self
  have up : ∀ j, isO (sh G j) = false → sh (G.filter fun p => p.1 != i) j = sh G j := fun j h => by
    by_cases hj : j = i
    · rw [hj, hnp] at h; cases h
    · exact look j hj
  refine ⟨t, p, fun H0 ex0 ρ σ H ex De l f q => ?_⟩
  obtain ⟨fps, h1, h2, h3, h4⟩ := f.slots
  have mo : Same (cut H ex) (cut H (less ex (fps i))) := less_cut
  have l' : Le H0 ex0 H (less ex (fps i)) := by
    refine ⟨l.same, fun b z => ⟨l.keep b z, fun m => (h4 i b m).2 z⟩, fun b z => l.new b z.1⟩
  have f' : Fra X.K ad (G.filter fun p => p.1 != i) ex0 ρ σ H (less ex (fps i)) := by
    refine ⟨f.len, fun b z => f.exok b z.1, fun j => if j = i then [] else fps j, fun j d e => ?_, fun j => ?_, fun j k' a hjk hj hk => ?_, fun j a hj => ?_⟩
    · obtain ⟨v, e1, r⟩ := h1 j d e
      refine ⟨v, e1, ?_⟩
      by_cases hj : j = i
      · subst hj
        dsimp only
        rw [if_pos rfl, at_i]
        exact .fz r.freeze
      · dsimp only
        rw [if_neg hj, look j hj]
        exact r.keep mo fun a z => ⟨⟨(h4 j a z).1, h3 j i a hj z⟩, rfl⟩
    · dsimp only
      split
      · exact List.nodup_nil
      · exact h2 j
    · dsimp only at hj hk
      split at hj
      · cases hj
      · split at hk
        · cases hk
        · exact h3 j k' a hjk hj hk
    · dsimp only at hj
      split at hj
      · cases hj
      · rename_i hji
        exact ⟨⟨(h4 j a hj).1, h3 j i a hji hj⟩, (h4 j a hj).2⟩
  refine k H0 ex0 ρ σ H (less ex (fps i)) De l' f' ?_
  cases e : g ρ with
  | nx ρ1 =>
    rw [e] at q
    exact fun σ1 H1 ex1 l1 m1 f1 => q σ1 H1 ex1 l1 (mo.trans m1) f1
  | rt d ρ1 => rw [e] at q; exact fun v σ1 H1 ex1 fp l1 m1 r nd n0 f1 np => q v σ1 H1 ex1 fp l1 (mo.trans m1) r nd n0 (f1.up up) (np.up up)
  | xc c ρ1 => rw [e] at q; exact fun σ1 H1 ex1 l1 m1 f1 => q σ1 H1 ex1 l1 (mo.trans m1) (f1.up up)
  | bad => rw [e] at q; exact q

/-! ### expressions in statements -/
theorem sat_then {α : Type} {x : R α} {ρ : Env} {k : α → Out} {σ : L2.St} {H0 H : Hp} {ex0 ex : Own} {De : Ends} {p : α → Prop} (l : Le H0 ex0 H ex) (f : Fra X.K ad G ex0 ρ σ H ex) (h : Ok X.K ad w rs G G' H0 ex0 H ex De (x.then ρ k))
    (hp : ∀ a, Ok X.K ad w rs G G' H0 ex0 H ex De (k a) → p a) : Sat x p (Exc w σ H ex) := by
  cases x with
  | ok a => exact hp a h
  | exc c => exact fun H' ex' l' => h σ H' ex' (l.trans l') l'.cuts (f.mono l').frz
  | bad => exact h
theorem noPin_slot {K : PySem.W.Frag} {ad : Adr} {G : Shs} {ρ : Env} {σ : L2.St} {H : Hp} {ex : Own} {fps : Nat → List Addr} (h1 : ∀ i d, ρ[i]? = some (some d) → ∃ v, σ[i]? = some (some v) ∧ Rep K ad H ex (sh G i) d v (fps i)) (h3 : ∀ i j a, i ≠ j → a ∈ fps i → a ∉ fps j) {i : Nat} (hgo : isO (sh G i) = true) : NoPin G ρ (fps i) := fun j a d2 ej gj z => by
  obtain ⟨v2, e2, r2⟩ := h1 j d2 ej
  have hji : j ≠ i := fun q => by rw [← q, gj] at hgo; cases hgo
  rw [gj] at r2
  have ha : a ∈ fps j := by
    generalize hq : fps j = q at r2
    cases r2 with
    | pin _ _ _ _ => simp
  exact h3 j i a hji ha z
theorem NoPin.append {G : Shs} {ρ : Env} {l m : List Addr} (h : NoPin G ρ l) (h' : NoPin G ρ m) : NoPin G ρ (l ++ m) := fun i a d e g z => (List.mem_append.mp z).elim (h i a d e g) (h' i a d e g)
def oRet (f : Env → R D) : Env → Out := fun ρ => (f ρ).then ρ fun d => .rt d ρ
theorem sds_ret {e : Expr} {f : Env → R D} (h : DE X ad w G e rs f) : SDs X ad w rs G G' [.Return (some e) pos] (oRet f) := by
  obtain ⟨t, p, k⟩ := h
  refine ⟨_, pss_one (ps_ret p), fun H0 ex0 ρ σ H ex De l f q => ?_⟩
  refine k ex0 ρ σ H ex _ f (sat_then l f q fun d q => ?_)
  intro v H' ex' fp l' r nd nw
  exact q v σ H' ex' fp (l.trans l') l'.cuts r nd (fun a z zz => nw a z (l.keep a zz)) (f.mono l').frz (f.noPin nw)
/-- a list of one's own is told -/
theorem sds_retO (i : Nat) {x : Str} {p1 : Pos} (hN : X.N[i]? = some x := by rfl) (hg : sh G i = rs := by rfl) (hgo : isO (sh G i) = true := by rfl) (hv : Vis X.env.scope x := by first | exact Or.inl rfl | exact Or.inr (Or.inl rfl) | exact Or.inr (Or.inr rfl)) (hd : (x == ("__debug__" : Str)) = false := by decide)
    (hcd : (x == ("__classdict__" : Str)) = false := by decide) : SDs X ad w rs G G' [.Return (some (.Name x p1)) pos] (oRet (dV i)) := by
  refine ⟨_, pss_one (ps_ret (pe_var hN hv hd hcd)), fun H0 ex0 ρ σ H ex De l f q => ?_⟩
  unfold oRet dV at q
  cases e : ρ[i]? with
  | none => rw [e] at q; exact q.elim
  | some o =>
    cases o with
    | none => rw [e] at q; exact q.elim
    | some d =>
      rw [e] at q
      obtain ⟨fps, h1, h2, h3, h4⟩ := f.slots
      obtain ⟨v, e1, r⟩ := h1 i d e
      rw [hg] at r
      refine ⟨v, e1, q v σ H ex (fps i) l Mo.refl r (h2 i) (fun a z => (h4 i a z).2) f.frz (noPin_slot h1 h3 hgo)⟩
def oRetN : Env → Out := fun ρ => .rt .non ρ
theorem sds_retN : SDs X ad w .fz G G' [.Return none pos] oRetN := ⟨_, pss_one ps_retN, fun H0 ex0 ρ σ H ex De l f q => q .non σ H ex [] l Mo.refl (.fz .non) List.nodup_nil (fun _ z => by cases z) f.frz NoPin.nil⟩
theorem sd_pass : SD X ad w rs G (.Pass pos) oNx := ⟨_, ps_pass, fun H0 ex0 ρ σ H ex De l f q => q σ H ex l Mo.refl f⟩
def oDrop (f : Env → R D) : Env → Out := fun ρ => (f ρ).then ρ fun _ => .nx ρ
theorem sd_drop {e : Expr} {f : Env → R D} {s : Sh} (h : DE X ad w G e s f) (hs : swapsWith e none pos.line X.env = pure false := by rfl) : SD X ad w rs G (.Expr e pos) (oDrop f) := by
  obtain ⟨t, p, k⟩ := h
  refine ⟨_, ps_expr p hs, fun H0 ex0 ρ σ H ex De l f q => ?_⟩
  refine k ex0 ρ σ H ex _ f (sat_then l f q fun d q => ?_)
  intro v H' ex' fp l' r nd nw
  exact q σ H' ex' (l.trans l') l'.cuts (f.mono l')
def oIf (c : Env → R Bool) (g h : Env → Out) : Env → Out := fun ρ => (c ρ).then ρ fun b => if b = true then g ρ else h ρ
theorem sd_if {c : Expr} {a b : List Stmt} {fc : Env → R Bool} {g h : Env → Out} (hc : DT X ad w G c fc) (ha : SDs X ad w rs G G a g) (hb : SDs X ad w rs G G b h) : SD X ad w rs G (.If c a b pos) (oIf fc g h) := by
  obtain ⟨t, p, k⟩ := hc
  obtain ⟨ta, pa, ka⟩ := ha
  obtain ⟨tb, pb, kb⟩ := hb
  refine ⟨_, ps_if p pa pb, fun H0 ex0 ρ σ H ex De l f q => ?_⟩
  refine k ex0 ρ σ H ex _ f (sat_then l f q fun d q => ?_)
  intro H' ex' l'
  cases d with
  | true =>
    rw [if_pos rfl] at q ⊢
    exact ka H0 ex0 ρ σ H' ex' De (l.trans l') (f.mono l') (q.from l'.cuts)
  | false =>
    rw [if_neg Bool.false_ne_true] at q ⊢
    exact kb H0 ex0 ρ σ H' ex' De (l.trans l') (f.mono l') (q.from l'.cuts)
def oSet (i : Nat) (f : Env → R D) : Env → Out := fun ρ => (f ρ).then ρ fun d => .nx (ρ.set i (some d))
/-- x = e -/
theorem sd_set (i : Nat) {x : Str} {e : Expr} {p1 : Pos} {s : Sh} {f : Env → R D} (h : DE X ad w G e s f) (hN : X.N.Nodup) (hi : X.N[i]? = some x := by rfl) (hx : Loc X.env.scope x := by first | exact Or.inl rfl | exact Or.inr rfl) (hg : sh G i = s := by rfl) (hs : swapsWith e (some (.Name x p1)) pos.line X.env = pure false := by rfl)
    (hf : X.fn x = true ∨ X.env.scope.names.lookup x = some .local := by first | exact .inl rfl | exact .inr rfl | assumption) : SD X ad w rs G (.Assign [.Name x p1] e pos) (oSet i f) := by
  obtain ⟨t, p, k⟩ := h
  refine ⟨_, ps_set hN hi hx p hs hf, fun H0 ex0 ρ σ H ex De l f q => ?_⟩
  refine k ex0 ρ σ H ex _ f (sat_then l f q fun d q => ?_)
  intro v H' ex' fp l' r nd nw
  exact q (σ.set i (some v)) H' ex' (l.trans l') l'.cuts (f.setN l' (by rw [hg]; exact r) nd nw fun a z zz => nw a z (l.keep a zz))

/-! ### targets -/
/-- a target takes d -/
def DG (X : Cx) (ad : Adr) (G : Shs) (tg : Expr) (vs : List Nat) (h : D → Env → R Env) : Prop :=
  ∃ g, PG X tg g ∧ ∀ ex0 ρ σ H ex d v Q, Fra X.K ad G ex0 ρ σ H ex → At X.K ad (cut H ex) d v →
    Sat (h d ρ) (fun ρ' => ∀ σ', Fra X.K ad G ex0 ρ' σ' H ex → (∀ us : List Nat, (∀ i ∈ vs, i ∈ us) → L2.wipe σ' us = L2.wipe σ us) → Q σ' H) (fun _ => False) → g v σ H Q
theorem wipe_ext {σ τ : L2.St} (hl : σ.length = τ.length) : ∀ {us : List Nat}, (∀ j, j ∉ us → σ[j]? = τ[j]?) → L2.wipe σ us = L2.wipe τ us := by
  intro us h
  apply List.ext_getElem?
  intro j
  by_cases hj : j ∈ us
  · have a : ∀ (s : L2.St) (vs : List Nat), j ∈ vs → (L2.wipe s vs)[j]? = if j < s.length then some none else none := by
      intro s vs
      induction vs with
      | nil => intro z; cases z
      | cons v vs ih =>
        intro z
        unfold L2.wipe
        by_cases e : v = j
        · subst e
          rw [List.getElem?_set]
          simp only [if_true, wipe_length]
        · rw [List.getElem?_set_ne e]
          exact ih ((List.mem_cons.mp z).resolve_left fun q => e q.symm)
    rw [a σ us hj, a τ us hj, hl]
  · rw [wipe_out hj, wipe_out hj]
    exact h j hj
def tN (i : Nat) : D → Env → R Env := fun d ρ => .ok (ρ.set i (some d))
theorem dg_name (i : Nat) {x : Str} (hN : X.N.Nodup) (hi : X.N[i]? = some x := by rfl) (hx : Loc X.env.scope x := by first | exact Or.inl rfl | exact Or.inr rfl) (hg : sh G i = .fz := by rfl)
    (hf : X.fn x = true ∨ X.env.scope.names.lookup x = some .local := by first | exact .inl rfl | exact .inr rfl | assumption) : DG X ad G (.Name x pos) [i] (tN i) := by
  refine ⟨_, pg_name hN hi hx hf, fun ex0 ρ σ H ex d v Q f a q => q (σ.set i (some v)) (f.setF hg a) fun us hu => ?_⟩
  refine wipe_ext (by simp) fun j hj => ?_
  rw [List.getElem?_set_ne]
  intro e
  exact hj (e ▸ hu i (by simp))
/-- several targets -/
def DGs (X : Cx) (ad : Adr) (G : Shs) (ts : List Expr) (vs : List Nat) (h : List D → Env → R Env) : Prop :=
  ∃ g, PGs X ts g ∧ ∀ ex0 ρ σ H ex ds us Q, Fra X.K ad G ex0 ρ σ H ex → Ats X.K ad (cut H ex) ds us →
    Sat (h ds ρ) (fun ρ' => ∀ σ', Fra X.K ad G ex0 ρ' σ' H ex → (∀ us : List Nat, (∀ i ∈ vs, i ∈ us) → L2.wipe σ' us = L2.wipe σ us) → Q σ' H) (fun _ => False) → g us σ H Q
def tNil' : List D → Env → R Env := fun ds ρ => match ds with
  | [] => .ok ρ
  | _ => .bad
def tCons' (h : D → Env → R Env) (k : List D → Env → R Env) : List D → Env → R Env := fun ds ρ => match ds with
  | d :: ds => (h d ρ).bind (k ds)
  | [] => .bad
theorem dgs_nil : DGs X ad G [] [] tNil' := by
  refine ⟨_, pgs_nil, fun ex0 ρ σ H ex ds us Q f a q => ?_⟩
  cases a with
  | nil => exact ⟨rfl, q σ f fun _ _ => rfl⟩
  | cons _ _ => exact q.elim
theorem dgs_cons {e : Expr} {es : List Expr} {vs vs' : List Nat} {h : D → Env → R Env} {k : List D → Env → R Env} (a : DG X ad G e vs h) (b : DGs X ad G es vs' k)
    (hs : (assignEach (e :: es) X.env).map (·.2) = assign e X.env :: (assignEach es X.env).map (·.2) := by rfl) : DGs X ad G (e :: es) (vs ++ vs') (tCons' h k) := by
  obtain ⟨g, p, kg⟩ := a
  obtain ⟨g', p', kg'⟩ := b
  refine ⟨_, pgs_cons p p' hs, fun ex0 ρ σ H ex ds us Q f a q => ?_⟩
  cases a with
  | nil => exact q.elim
  | cons a as =>
    refine ⟨_, _, rfl, kg ex0 ρ σ H ex _ _ _ f a ?_⟩
    unfold tCons' at q
    rw [sat_bind] at q
    refine q.imp (fun ρ1 q σ1 f1 w1 => ?_) fun _ z => z
    refine kg' ex0 ρ1 σ1 H ex _ _ Q f1 as (q.imp (fun ρ2 q σ2 f2 w2 => q σ2 f2 fun us hu => ?_) fun _ z => z)
    rw [w2 us fun i z => hu i (List.mem_append_right _ z), w1 us fun i z => hu i (List.mem_append_left _ z)]
def tT (k : List D → Env → R Env) : D → Env → R Env := fun d ρ => match d with
  | .tup ds => k ds ρ
  | _ => .bad
theorem tNil_len {ds : List D} {ρ ρ' : Env} (h : tNil' ds ρ = .ok ρ') : ds.length = 0 := by
  cases ds with
  | nil => rfl
  | cons _ _ => cases h
/-- how many targets -/
def Cnt (k : List D → Env → R Env) (n : Nat) : Prop := ∀ ds ρ ρ', k ds ρ = .ok ρ' → ds.length = n
theorem cnt_nil : Cnt tNil' 0 := fun _ _ _ h => tNil_len h
theorem cnt_cons {h : D → Env → R Env} {k : List D → Env → R Env} {n : Nat} (c : Cnt k n) : Cnt (tCons' h k) (n + 1) := fun ds ρ ρ' e => by
  cases ds with
  | nil => cases e
  | cons d ds =>
    unfold tCons' at e
    dsimp only at e
    cases q : h d ρ with
    | ok ρ1 =>
      rw [q] at e
      rw [List.length_cons, c ds ρ1 ρ' e]
    | exc c => rw [q] at e; cases e
    | bad => rw [q] at e; cases e
theorem dg_tup {es : List Expr} {kk : Nat} {vs : List Nat} {k : List D → Env → R Env} {n : Nat} (hc : X.calm = true) (c : Cnt k n) (a : DGs X ad G es vs k)
    (hn : (assignEach es X.env).length = n := by rfl) (hst : (assignEach es X.env).findIdx? (·.1) = none := by rfl) : DG X ad G (.Tuple es kk pos) vs (tT k) := by
  obtain ⟨g, p, kg⟩ := a
  refine ⟨_, pg_tup hc p hn hst, fun ex0 ρ σ H ex d v Q f a q => ?_⟩
  cases a with
  | @tup a' us ds h _ hs =>
    refine ⟨a', us, rfl, seqT cut_same h, ?_, kg ex0 ρ σ H ex _ _ Q f hs q⟩
    unfold tT at q
    dsimp only at q
    rw [← hs.length]
    cases e : k ds ρ with
    | ok ρ' => exact c ds ρ ρ' e
    | exc c => rw [e] at q; exact q.elim
    | bad => rw [e] at q; exact q.elim
  | _ => exact q.elim
def outOf : R Env → Out
  | .ok ρ => .nx ρ
  | _ => .bad
def oAsg (h : D → Env → R Env) (f : Env → R D) : Env → Out := fun ρ => (f ρ).then ρ fun d => outOf (h d ρ)
/-- target = e -/
theorem sd_asg {tg e : Expr} {vs : List Nat} {h : D → Env → R Env} {f : Env → R D} (he : DE X ad w G e .fz f) (hg : DG X ad G tg vs h) (hs : swapsWithSole [tg] e pos.line X.env = pure false := by rfl) (hw : swappedStores [tg] e X.env = pure none := by rfl)
    (h1 : (assignEach [tg] X.env).map (·.2) = [assign tg X.env] := by rfl) : SD X ad w rs G (.Assign [tg] e pos) (oAsg h f) := by
  obtain ⟨t, p, k⟩ := he
  obtain ⟨g, pg, kg⟩ := hg
  refine ⟨_, ps_asg p pg hs hw h1, fun H0 ex0 ρ σ H ex De l f q => ?_⟩
  refine k ex0 ρ σ H ex _ f (sat_then l f q fun d q => ?_)
  intro v H' ex' fp l' r nd nw
  refine kg ex0 ρ σ H' ex' d v _ (f.mono l') (rep_fz r) ?_
  cases e : h d ρ with
  | ok ρ' => rw [e] at q; exact fun σ' f' _ => q σ' H' ex' (l.trans l') l'.cuts f'
  | exc c => rw [e] at q; exact q
  | bad => rw [e] at q; exact q
end
end DL

set_option Elab.async false
set_option linter.all false
set_option maxRecDepth 100000
set_option maxHeartbeats 4000000
set_option autoImplicit false
/-! DL3: what is walked, for, comprehensions, lists of one's own that change, calls, defs. -/
namespace DL
open PySem PySem.Spec PyProof.Rows L2

/-- what a loop walks: the data of its items -/
def DI (X : Cx) (ad : Adr) (w : Wi) (G : Shs) (tg iter : Expr) (f : Env → R (List D)) : Prop :=
  ∃ wi, PI X tg iter wi ∧ ∀ ex0 ρ σ H ex Rr, Fra X.K ad G ex0 ρ σ H ex →
    Sat (f ρ) (fun ds => ∀ J H1 ex1 n Gd Y, Le H ex H1 ex1 → n = ds.length → n ≤ sizeLine → Walk J n Gd Y → (∀ H' ex', Mo H1 ex1 H' ex' → Gd H') →
      (∀ i H' ex' x H'', i < n → Mo H1 ex1 H' ex' → (∀ b, ex' b → ∃ o, H' b = some o) → Y i H' x H'' → ∃ d, ds[i]? = some d ∧ Le H' ex' H'' ex' ∧ At X.K ad (cut H'' ex') d x) → Rr J H1) (Exc w σ H ex) → wi σ H Rr

/-- .. of a comprehension: nothing that stands is changed meanwhile -/
def DJ (X : Cx) (ad : Adr) (w : Wi) (G : Shs) (tg iter : Expr) (f : Env → R (List D)) : Prop :=
  ∃ wi, PI X tg iter wi ∧ ∀ ex0 ρ σ H ex Rr, Fra X.K ad G ex0 ρ σ H ex →
    Sat (f ρ) (fun ds => ∀ J H1 ex1 n Gd Y, Le H ex H1 ex1 → n = ds.length → n ≤ sizeLine → Walk J n Gd Y → (∀ H' ex', Mo H1 ex1 H' ex' ∧ Same H1 H' → Gd H') →
      (∀ i H' ex' x H'', i < n → Mo H1 ex1 H' ex' ∧ Same H1 H' → (∀ b, ex' b → ∃ o, H' b = some o) → Y i H' x H'' → ∃ d, ds[i]? = some d ∧ Le H' ex' H'' ex' ∧ At X.K ad (cut H'' ex') d x) → Rr J H1) (Exc w σ H ex) → wi σ H Rr
theorem dj_of {X : Cx} {ad : Adr} {w : Wi} {G : Shs} {tg iter : Expr} {f : Env → R (List D)} (h : DI X ad w G tg iter f) : DJ X ad w G tg iter f := by
  obtain ⟨wi, p, k⟩ := h
  refine ⟨wi, p, fun ex0 ρ σ H ex Rr fr q => k ex0 ρ σ H ex Rr fr (q.imp (fun ds q J H1 ex1 n Gd Y l hn hz wk hG hY => ?_) fun _ z => z)⟩
  exact q J H1 ex1 n Gd Y l hn hz wk (fun H' ex' m => hG H' ex' m.1) fun i H' ex' x H'' hi m hx y => hY i H' ex' x H'' hi m.1 hx y
section
variable {X : Cx} {ad : Adr} {w : Wi} {rs : Sh} {G G' : Shs} {pos : Pos} {tg : Expr}
def itL : D → R (List D)
  | .lst ds => .ok ds
  | _ => .bad
def itT : D → R (List D)
  | .tup ds => .ok ds
  | _ => .bad
def iL (f : Env → R D) : Env → R (List D) := fun ρ => (f ρ).bind itL
def iT (f : Env → R D) : Env → R (List D) := fun ρ => (f ρ).bind itT
theorem di_list {e : Expr} {f : Env → R D} (h : DE X ad w G e .fz f) : DI X ad w G tg e (iL f) := by
  obtain ⟨t, p, k⟩ := h
  refine ⟨_, pi_list p, fun ex0 ρ σ H ex Rr fr q => ?_⟩
  refine k ex0 ρ σ H ex _ fr ?_
  unfold iL at q
  rw [sat_bind] at q
  refine q.imp (fun d q v H1 ex1 fp l r _ _ => ?_) fun _ z => z
  have a := rep_fz r
  cases a with
  | @lst a vs ds h hz hs =>
    refine ⟨a, rfl, ⟨vs, cut_same.seq h⟩, q (Itl X.K a) H1 ex1 vs.length _ _ l hs.length.symm hz walk_list (fun H' ex' m => (Same.trans m cut_same).seq h) fun i H' ex' x H'' hi m _ y => ?_⟩
    obtain ⟨e1, e2⟩ := y
    subst e1
    obtain ⟨d, hd, ha⟩ := hs.getV e2
    exact ⟨d, hd, Le.refl _ _, ha.mono m⟩
  | _ => exact q.elim
theorem di_tup {e : Expr} {f : Env → R D} (h : DE X ad w G e .fz f) : DI X ad w G tg e (iT f) := by
  obtain ⟨t, p, k⟩ := h
  refine ⟨_, pi_tup p, fun ex0 ρ σ H ex Rr fr q => ?_⟩
  refine k ex0 ρ σ H ex _ fr ?_
  unfold iT at q
  rw [sat_bind] at q
  refine q.imp (fun d q v H1 ex1 fp l r _ _ => ?_) fun _ z => z
  have a := rep_fz r
  cases a with
  | @tup a vs ds h hz hs =>
    refine ⟨a, rfl, ⟨vs, seqT cut_same h⟩, q (Itt X.K a) H1 ex1 vs.length _ _ l hs.length.symm hz walk_tup (fun H' ex' m => seqT (Same.trans m cut_same) h) fun i H' ex' x H'' hi m _ y => ?_⟩
    obtain ⟨e1, e2⟩ := y
    subst e1
    obtain ⟨d, hd, ha⟩ := hs.getV e2
    exact ⟨d, hd, Le.refl _ _, ha.mono m⟩
  | _ => exact q.elim
def upTo (lo : Int) (n : Nat) : List D := (List.range n).map fun i => .int (lo + (i : Nat))
def itR1 : List D → R (List D)
  | [.int j] => if -(2 ^ 62) ≤ j ∧ j ≤ 16777216 then .ok (upTo 0 j.toNat) else .bad
  | _ => .bad
def itR2 : List D → R (List D)
  | [.int i, .int j] => if 0 ≤ i ∧ i ≤ 16777216 ∧ -(2 ^ 62) ≤ j ∧ j ≤ 16777216 then .ok (upTo i (j - i).toNat) else .bad
  | _ => .bad
def iA (o : List D → R (List D)) (f : Env → R (List D)) : Env → R (List D) := fun ρ => (f ρ).bind o
theorem range_turn {K : PySem.W.Frag} {lo : Int} {n : Nat} : ∀ i (H' : Hp) (ex' : Own) x H'', i < n → YFn (fun i => V.int (lo + i)) i H' x H'' → ∃ d, (upTo lo n)[i]? = some d ∧ Le H' ex' H'' ex' ∧ At K ad (cut H'' ex') d x := by
  intro i H' ex' x H'' hi y
  obtain ⟨e1, e2⟩ := y
  subst e1 e2
  refine ⟨.int (lo + i), ?_, Le.refl _ _, .int _⟩
  unfold upTo
  rw [List.getElem?_map, List.getElem?_range hi]
  rfl
theorem di_range1 {a : Expr} {f : Env → R (List D)} {p : Pos} (h : DA X ad w G [a] f) (hg : Gl X "range" := by rfl) (hm : X.mg "range" = none := by assumption) (hs : starEach [a] X.env = [(false, eval a X.env)] := by rfl) : DI X ad w G tg (.Call (.Name "range" p) [a] [] pos) (iA itR1 f) := by
  obtain ⟨t, pa, k⟩ := h
  refine ⟨_, pi_range1 hg hm pa hs, fun ex0 ρ σ H ex Rr fr q => ?_⟩
  refine k ex0 ρ σ H ex _ fr ?_
  unfold iA at q
  rw [sat_bind] at q
  refine q.imp (fun ds q vs H1 ex1 l a => ?_) fun _ z => z
  unfold itR1 at q
  split at q
  · rename_i j
    obtain ⟨v, rfl, a1⟩ := a.one
    cases a1
    split at q
    · rename_i hj
      refine ⟨j, rfl, hj.1, by omega, q (Itr 0 j.toNat) H1 ex1 j.toNat _ _ l ?_ (by rw [sizeLine_eq]; omega) walk_range (fun _ _ _ => trivial) fun i H' ex' x H'' hi _ _ y => range_turn i H' ex' x H'' hi y⟩
      unfold upTo
      rw [List.length_map, List.length_range]
    · exact q.elim
  · exact q.elim
theorem di_range2 {a b : Expr} {f : Env → R (List D)} {p : Pos} (h : DA X ad w G [a, b] f) (hg : Gl X "range" := by rfl) (hm : X.mg "range" = none := by assumption) (hs : starEach [a, b] X.env = [(false, eval a X.env), (false, eval b X.env)] := by rfl)
    (hs2 : starEach [b] X.env = [(false, eval b X.env)] := by rfl) : DI X ad w G tg (.Call (.Name "range" p) [a, b] [] pos) (iA itR2 f) := by
  obtain ⟨t, pa, k⟩ := h
  refine ⟨_, pi_range2 hg hm pa hs hs2, fun ex0 ρ σ H ex Rr fr q => ?_⟩
  refine k ex0 ρ σ H ex _ fr ?_
  unfold iA at q
  rw [sat_bind] at q
  refine q.imp (fun ds q vs H1 ex1 l a => ?_) fun _ z => z
  unfold itR2 at q
  split at q
  · rename_i i j
    obtain ⟨v, u, rfl, a1, a2⟩ := a.two
    cases a1
    cases a2
    split at q
    · rename_i hj
      refine ⟨i, j, rfl, by omega, q (Itr i (j - i).toNat) H1 ex1 (j - i).toNat _ _ l ?_ (by rw [sizeLine_eq]; omega) walk_range (fun _ _ _ => trivial) fun i H' ex' x H'' hi _ _ y => range_turn i H' ex' x H'' hi y⟩
      unfold upTo
      rw [List.length_map, List.length_range]
    · exact q.elim
  · exact q.elim
/-- enumerate(list), zip(list, list): pairs -/
def enumF : Nat → List D → List D
  | _, [] => []
  | n, d :: ds => .tup [.int n, d] :: enumF (n + 1) ds
theorem enumF_get : ∀ {ds : List D} {n i : Nat} {d : D}, ds[i]? = some d → (enumF n ds)[i]? = some (.tup [.int ((n + i : Nat)), d])
  | [], _, _, _, h => by simp at h
  | e :: ds, n, 0, d, h => by simp at h; subst h; rfl
  | e :: ds, n, i + 1, d, h => by
    show (enumF (n + 1) ds)[i]? = _
    rw [enumF_get (n := n + 1) (i := i) (d := d) (by simpa using h), show n + 1 + i = n + (i + 1) by omega]
theorem enumF_length : ∀ {ds : List D} {n : Nat}, (enumF n ds).length = ds.length
  | [], _ => rfl
  | _ :: ds, n => by
    show (enumF (n + 1) ds).length + 1 = ds.length + 1
    rw [enumF_length]
def itE : List D → R (List D)
  | [.lst ds] => .ok (enumF 0 ds)
  | _ => .bad
def itZ : List D → R (List D)
  | [.lst ds, .lst es] => .ok ((ds.zip es).map fun p => .tup [p.1, p.2])
  | _ => .bad
theorem pair_turn {K : PySem.W.Frag} {xs ys : Nat → Option V} {H' H'' : Hp} {ex' : Own} {i : Nat} {x : V} {d e : D} (y : YPair xs ys i H' x H'') (hexok : ∀ b, ex' b → ∃ o, H' b = some o) (h1 : ∀ v, xs i = some v → At K ad (cut H' ex') d v) (h2 : ∀ v, ys i = some v → At K ad (cut H' ex') e v) :
    Le H' ex' H'' ex' ∧ At K ad (cut H'' ex') (.tup [d, e]) x := by
  obtain ⟨T, x1, x2, rfl, hT, rfl, e1, e2⟩ := y
  have l : Le H' ex' (upd H' T (.tup [x1, x2])) ex' := Le.lay hT
  refine ⟨l, .tup (SqT.of (cut_of (fun z => ?_) upd_same)) (by show 2 ≤ sizeLine; rw [sizeLine_eq]; omega) (.cons ((h1 _ e1).mono l.cuts) (.cons ((h2 _ e2).mono l.cuts) .nil))⟩
  obtain ⟨o, q⟩ := hexok T z
  rw [hT] at q
  cases q
theorem di_enum {e : Expr} {f : Env → R (List D)} {p tpos : Pos} {elts : List Expr} {kk : Nat} (h : DA X ad w G [e] f) (hg : Gl X "enumerate" := by rfl) (hm : X.mg "enumerate" = none := by assumption) (hs : starEach [e] X.env = [(false, eval e X.env)] := by rfl) :
    DI X ad w G (.Tuple elts kk tpos) (.Call (.Name "enumerate" p) [e] [] pos) (iA itE f) := by
  obtain ⟨t, pa, k⟩ := h
  refine ⟨_, pi_enum hg hm pa hs, fun ex0 ρ σ H ex Rr fr q => ?_⟩
  refine k ex0 ρ σ H ex _ fr ?_
  unfold iA at q
  rw [sat_bind] at q
  refine q.imp (fun ds q vs H1 ex1 l a => ?_) fun _ z => z
  unfold itE at q
  split at q
  · rename_i ds
    obtain ⟨v, rfl, a1⟩ := a.one
    cases a1 with
    | @lst a3 vs _ h hz hs =>
      refine ⟨a3, vs, rfl, cut_same.seq h, q (Ite X.K a3) H1 ex1 vs.length _ _ l (by rw [enumF_length, hs.length]) hz walk_enum (fun H' ex' m => (Same.trans m cut_same).seq h) fun i H' ex' x H'' hi m hex y => ?_⟩
      have hi' : i < ds.length := by rw [hs.length]; exact hi
      refine ⟨_, enumF_get (d := ds[i]) (List.getElem?_eq_getElem hi'), ?_⟩
      refine pair_turn y hex (fun v e => ?_) fun v e => ?_
      · cases e
        rw [Nat.zero_add]
        exact .int _
      · obtain ⟨d', e1, a1⟩ := hs.getV e
        rw [List.getElem?_eq_getElem hi'] at e1
        cases e1
        exact a1.mono m
  · exact q.elim
theorem di_zip {e e2 : Expr} {f : Env → R (List D)} {p tpos : Pos} {elts : List Expr} {kk : Nat} (h : DA X ad w G [e, e2] f) (hg : Gl X "zip" := by rfl) (hm : X.mg "zip" = none := by assumption)
    (hs : starEach [e, e2] X.env = (false, eval e X.env) :: starEach [e2] X.env := by rfl) (hpl : (backTo pos (starEach [e2] X.env)).any (·.1) = false := by rfl) :
    DI X ad w G (.Tuple elts kk tpos) (.Call (.Name "zip" p) [e, e2] [] pos) (iA itZ f) := by
  obtain ⟨t, pa, k⟩ := h
  refine ⟨_, pi_zip hg hm pa hs hpl, fun ex0 ρ σ H ex Rr fr q => ?_⟩
  refine k ex0 ρ σ H ex _ fr ?_
  unfold iA at q
  rw [sat_bind] at q
  refine q.imp (fun ds q vs H1 ex1 l a => ?_) fun _ z => z
  unfold itZ at q
  split at q
  · rename_i ds es
    obtain ⟨v, u, rfl, a1, a2⟩ := a.two
    cases a1 with
    | @lst a3 vs _ h hz hs =>
      cases a2 with
      | @lst b us _ h' hz' hs' =>
        refine ⟨a3, b, vs, us, rfl, cut_same.seq h, cut_same.seq h', q (Itz X.K a3 b) H1 ex1 (min vs.length us.length) _ _ l (by rw [List.length_map, List.length_zip, hs.length, hs'.length]) (Nat.le_trans (Nat.min_le_left _ _) hz) (walk_zip rfl)
          (fun H' ex' m => ⟨(Same.trans m cut_same).seq h, (Same.trans m cut_same).seq h'⟩) fun i H' ex' x H'' hi m hex y => ?_⟩
        have hi1 : i < ds.length := by rw [hs.length]; omega
        have hi2 : i < es.length := by rw [hs'.length]; omega
        refine ⟨.tup [ds[i], es[i]], ?_, ?_⟩
        · have hz2 : (ds.zip es)[i]? = some (ds[i], es[i]) := List.getElem?_zip_eq_some.mpr ⟨List.getElem?_eq_getElem hi1, List.getElem?_eq_getElem hi2⟩
          rw [List.getElem?_map, hz2]
          rfl
        · refine pair_turn y hex (fun v e => ?_) fun v e => ?_
          · obtain ⟨d', e1, a1⟩ := hs.getV e
            rw [List.getElem?_eq_getElem hi1] at e1
            cases e1
            exact a1.mono m
          · obtain ⟨d', e1, a1⟩ := hs'.getV e
            rw [List.getElem?_eq_getElem hi2] at e1
            cases e1
            exact a1.mono m
  · exact q.elim
end

section
variable {X : Cx} {ad : Adr} {w : Wi} {rs : Sh} {G G' : Shs} {pos : Pos} {tg : Expr}
/-! ### for -/
def loop (h : D → Env → R Env) (g : Env → Out) : List D → Env → Out
  | [], ρ => .nx ρ
  | d :: ds, ρ => match h d ρ with
    | .ok ρ1 => (g ρ1).seq (loop h g ds)
    | _ => .bad
def oFor (f : Env → R (List D)) (h : D → Env → R Env) (g : Env → Out) : Env → Out := fun ρ => (f ρ).then ρ fun ds => loop h g ds ρ
theorem sd_for {iter : Expr} {body : List Stmt} {vs : List Nat} {f : Env → R (List D)} {h : D → Env → R Env} {g : Env → Out} (hp : PassesOwn (model X.prog X.w) X.A X.env X.xe) (hc : X.calm = true) (hi : DI X ad w G tg iter f) (hg : DG X ad G tg vs h) (hb : SDs X ad w rs G G body g)
    (hs : ∀ x, foldedSetIterable iter X.env x = pure x := by intro _; rfl) : SD X ad w rs G (.For tg iter body [] pos) (oFor f h g) := by
  obtain ⟨wi, pi, ki⟩ := hi
  obtain ⟨gt, pg, kg⟩ := hg
  obtain ⟨tb, pb, kb⟩ := hb
  refine ⟨_, ps_for hp hc pi pg pb hs, fun H0 ex0 ρ σ H ex De l f q => ?_⟩
  refine ki ex0 ρ σ H ex _ f (sat_then l f q fun ds q => ?_)
  intro J H1 ex1 n Gd Y l1 hn hz wk hG hY
  subst hn
  refine for_it wk (fun i σ' H' => ∃ ρ' ex', Le H0 ex0 H' ex' ∧ Mo H1 ex1 H' ex' ∧ Fra X.K ad G ex0 ρ' σ' H' ex' ∧ Ok X.K ad w rs G G H0 ex0 H' ex' De (loop h g (ds.drop i) ρ'))
    ⟨ρ, ex1, l.trans l1, Mo.refl, f.mono l1, q.from l1.cuts⟩ (fun i σ' H' _ ⟨_, ex', _, m, _⟩ => hG H' ex' m) ?_ ?_
  · rintro i x σ' H' H'' hi ⟨ρ', ex', l', m', f', q'⟩ y
    obtain ⟨d, hd, l2, a⟩ := hY i H' ex' x H'' hi m' f'.exok y
    have e : ds.drop i = d :: ds.drop (i + 1) := by
      have h1 := List.drop_eq_getElem_cons hi
      rw [h1]
      rw [List.getElem?_eq_getElem hi] at hd
      cases hd
      rfl
    rw [e] at q'
    unfold loop at q'
    refine kg ex0 ρ' σ' H'' ex' d x _ (f'.mono l2) a ?_
    cases hh : h d ρ' with
    | exc c => rw [hh] at q'; exact q'
    | bad => rw [hh] at q'; exact q'
    | ok ρ2 =>
      rw [hh] at q'
      intro σ2 f2 _
      have q2 := q'.from l2.cuts
      dsimp only at q2
      refine kb H0 ex0 ρ2 σ2 H'' ex' _ (l'.trans l2) f2 ?_
      cases hg' : g ρ2 with
      | nx ρ3 =>
        rw [hg'] at q2
        exact fun σ3 H3 ex3 l3 m3 f3 => ⟨ρ3, ex3, l3, (m'.trans l2.cuts).trans m3, f3, q2.from m3⟩
      | rt d => rw [hg'] at q2; exact q2
      | xc c ρ3 => rw [hg'] at q2; exact q2
      | bad => rw [hg'] at q2; exact q2
  · rintro σ' H' ⟨ρ', ex', l', m', f', q'⟩
    rw [List.drop_length] at q'
    exact q' σ' H' ex' l' Mo.refl f'

/-! ### while -/
def wloop (c : Env → R Bool) (g : Env → Out) : Nat → Env → Out
  | 0, _ => .bad
  | n + 1, ρ => (c ρ).then ρ fun b => if b = true then (g ρ).seq (wloop c g n) else .nx ρ
/-- with so many turns as fuel tells -/
def oWhile (fuel : Env → Nat) (c : Env → R Bool) (g : Env → Out) : Env → Out := fun ρ => wloop c g (fuel ρ) ρ
theorem sd_while {c : Expr} {body : List Stmt} {fc : Env → R Bool} {g : Env → Out} (fuel : Env → Nat) (hp : PassesOwn (model X.prog X.w) X.A X.env X.xe) (hc : DT X ad w G c fc) (hb : SDs X ad w rs G G body g) : SD X ad w rs G (.While c body [] pos) (oWhile fuel fc g) := by
  obtain ⟨tc, pc, kc⟩ := hc
  obtain ⟨tb, pb, kb⟩ := hb
  refine ⟨_, ps_while hp pc pb, fun H0 ex0 ρ σ H ex De l f q => ?_⟩
  refine ⟨fun m σ' H' => ∃ ρ' ex', Le H0 ex0 H' ex' ∧ Fra X.K ad G ex0 ρ' σ' H' ex' ∧ Ok X.K ad w rs G G H0 ex0 H' ex' De (wloop fc g m ρ'), ⟨fuel ρ, ρ, ex, l, f, q⟩, ?_⟩
  rintro m σ' H' ⟨ρ', ex', l', f', q'⟩
  cases m with
  | zero => exact q'.elim
  | succ m =>
    unfold wloop at q'
    refine kc ex0 ρ' σ' H' ex' _ f' (sat_then l' f' q' fun b q2 => ?_)
    intro H2 ex2 l2
    cases b with
    | false =>
      rw [if_neg Bool.false_ne_true] at q2 ⊢
      exact q2 σ' H2 ex2 (l'.trans l2) l2.cuts (f'.mono l2)
    | true =>
      rw [if_pos rfl] at q2 ⊢
      refine ⟨fun σ3 H3 => ∃ ρ3 ex3, Le H0 ex0 H3 ex3 ∧ Fra X.K ad G ex0 ρ3 σ3 H3 ex3 ∧ Ok X.K ad w rs G G H0 ex0 H3 ex3 De (wloop fc g m ρ3), fun σ3 H3 z => ⟨m, Nat.lt_succ_self m, z⟩, ?_⟩
      refine kb H0 ex0 ρ' σ' H2 ex2 _ (l'.trans l2) (f'.mono l2) ?_
      have q3 := q2.from l2.cuts
      cases hg' : g ρ' with
      | nx ρ3 =>
        rw [hg'] at q3
        exact fun σ3 H3 ex3 l3 m3 f3 => ⟨ρ3, ex3, l3, f3, q3.from m3⟩
      | rt d => rw [hg'] at q3; exact q3
      | xc c ρ3 => rw [hg'] at q3; exact q3
      | bad => rw [hg'] at q3; exact q3
end
end DL

set_option Elab.async false
set_option linter.all false
set_option maxRecDepth 100000
set_option maxHeartbeats 4000000
set_option autoImplicit false
/-! DL4: comprehensions, displays, lists of one's own that change, calls, defs. -/
namespace DL
open PySem PySem.Spec PyProof.Rows L2

section
variable {X : Cx}
theorem pe_up {e : Expr} {t t' : TE} (h : PE X e t) (k : ∀ σ H Q, t' σ H Q → t σ H Q) : PE X e t' := ⟨fun pins s σ H Q I q => h.run pins s σ H Q I (k σ H Q q)⟩
theorem pg_up {e : Expr} {t t' : TG} (h : PG X e t) (k : ∀ v σ H Q, t' v σ H Q → t v σ H Q) : PG X e t' := ⟨fun pins s σ H v u Q I r q => h.run pins s σ H v u Q I r (k v σ H Q q)⟩
theorem pt_up {e : Expr} {t t' : TT} (h : PT X e t) (k : ∀ σ H Q, t' σ H Q → t σ H Q) : PT X e t' := ⟨fun pins s σ H Q I q => h.run pins s σ H Q I (k σ H Q q)⟩
theorem pts_up {es : List Expr} {t t' : TT} (h : PTs X es t) (k : ∀ σ H Q, t' σ H Q → t σ H Q) : PTs X es t' := ⟨fun pins s σ H Q I q => h.run pins s σ H Q I (k σ H Q q)⟩
end
/-- the tests of a comprehension -/
def DTs (X : Cx) (ad : Adr) (w : Wi) (G : Shs) (es : List Expr) (f : Env → R Bool) : Prop :=
  ∃ t, PTs X es t ∧ ∀ ex0 ρ σ H ex Q, Fra X.K ad G ex0 ρ σ H ex → Sat (f ρ) (fun b => ∀ H' ex', Le H ex H' ex' → Q b H') (Exc w σ H ex) → t σ H Q
def bYes : Env → R Bool := fun _ => .ok true
section
variable {X : Cx} {ad : Adr} {w : Wi} {G : Shs}
theorem dts_nil : DTs X ad w G [] bYes := ⟨_, pts_nil, fun _ _ _ _ _ _ _ q => q _ _ (Le.refl _ _)⟩
theorem dts_one {c : Expr} {f : Env → R Bool} (h : DT X ad w G c f) : DTs X ad w G [c] f := by
  obtain ⟨t, p, k⟩ := h
  exact ⟨t, pts_one p, k⟩
end
/-- nothing is refused here -/
abbrev w0 : Wi := fun _ _ _ => False
/-- in every block of X -/
abbrev InBlk (X : Cx) (scope : Scope) (P : Cx → Prop) : Prop := ∀ (s : Shared) (H : Hp) (C : Addr) (cl : List (Str × Addr)) (fp : List Addr), P (X.blk s H scope (compEnvC scope cl C X.env) fp)
/-- the readings that hang on the data alone -/
def cE (K : PySem.W.Frag) (ad : Adr) (G : Shs) (s : Sh) (f : Env → R D) : TE := fun σ H Q => ∃ ex0 ρ ex, Fra K ad G ex0 ρ σ H ex ∧ Sat (f ρ) (Post K ad H ex s Q) (fun _ => False)
def cT (K : PySem.W.Frag) (ad : Adr) (G : Shs) (f : Env → R Bool) : TT := fun σ H Q => ∃ ex0 ρ ex, Fra K ad G ex0 ρ σ H ex ∧ Sat (f ρ) (fun b => ∀ H' ex', Le H ex H' ex' → Q b H') (fun _ => False)
def cG (K : PySem.W.Frag) (ad : Adr) (G : Shs) (vs : List Nat) (h : D → Env → R Env) : TG := fun v σ H Q => ∃ ex0 ρ ex d, Fra K ad G ex0 ρ σ H ex ∧ At K ad (cut H ex) d v ∧
  Sat (h d ρ) (fun ρ' => ∀ σ', Fra K ad G ex0 ρ' σ' H ex → (∀ us : List Nat, (∀ i ∈ vs, i ∈ us) → L2.wipe σ' us = L2.wipe σ us) → Q σ' H) (fun _ => False)
theorem sat_f {α : Type} {x : R α} {p : α → Prop} {q : Ex → Prop} (h : Sat x p (fun _ => False)) : Sat x p q := h.imp (fun _ z => z) fun _ z => z.elim

section
variable {X : Cx} {ad : Adr} {w : Wi} {rs : Sh} {G G' : Shs} {pos : Pos} {tg : Expr}
def lcF (vs : List Nat) (h : D → Env → R Env) (tst : Env → R Bool) (fe : Env → R D) (ρ : Env) : List D → R (List D)
  | [] => .ok []
  | d :: ds => match h d (wipeR ρ vs) with
    | .ok ρ1 => match tst ρ1 with
      | .ok b => if b = true then (match fe ρ1 with
          | .ok e => match lcF vs h tst fe ρ ds with
            | .ok es => .ok (e :: es)
            | _ => .bad
          | _ => .bad) else (match lcF vs h tst fe ρ ds with
            | .ok es => .ok es
            | _ => .bad)
      | _ => .bad
    | _ => .bad
def dLc (vs : List Nat) (fi : Env → R (List D)) (h : D → Env → R Env) (tst : Env → R Bool) (fe : Env → R D) : Env → R D := fun ρ => (fi ρ).bind fun ds => match lcF vs h tst fe ρ ds with
  | .ok es => .ok (.lst es)
  | _ => .bad
theorem wipe_idem {σ : L2.St} {vs : List Nat} : L2.wipe (L2.wipe σ vs) vs = L2.wipe σ vs := by
  refine wipe_ext (by rw [wipe_length]) fun j hj => ?_
  rw [wipe_out hj]
/-- what a comprehension's run comes to -/
theorem lc_run {wi : TI} {vs own : List Nat} {fi : Env → R (List D)} {h : D → Env → R Env} {tst : Env → R Bool} {fe : Env → R D} {ex0 : L2.St → Prop} (hv : ∀ i ∈ vs, i ∈ own)
    (ki : ∀ ex0 ρ σ H ex Rr, Fra X.K ad G ex0 ρ σ H ex → Sat (fi ρ) (fun ds => ∀ J H1 ex1 n Gd Y, Le H ex H1 ex1 → n = ds.length → n ≤ sizeLine → Walk J n Gd Y → (∀ H' ex', Mo H1 ex1 H' ex' ∧ Same H1 H' → Gd H') →
      (∀ i H' ex' x H'', i < n → Mo H1 ex1 H' ex' ∧ Same H1 H' → (∀ b, ex' b → ∃ o, H' b = some o) → Y i H' x H'' → ∃ d, ds[i]? = some d ∧ Le H' ex' H'' ex' ∧ At X.K ad (cut H'' ex') d x) → Rr J H1) (Exc w σ H ex) → wi σ H Rr) :
    ∀ ex0 ρ σ H ex Q, Fra X.K ad G ex0 ρ σ H ex → Sat (dLc own fi h tst fe ρ) (Post X.K ad H ex (.own .fz) Q) (Exc w σ H ex) → tLc wi (cG X.K ad G vs h) (cT X.K ad G tst) (cE X.K ad G .fz fe) own σ H Q := by
  intro ex0 ρ σ H ex Q fr q
  refine ki ex0 ρ σ H ex _ fr ?_
  unfold dLc at q
  rw [sat_bind] at q
  refine q.imp (fun ds q => ?_) fun _ z => z
  intro J H1 ex1 n Gd Y l1 hn hz wk hG hY Dl hD
  subst hn
  cases hes : lcF own h tst fe ρ ds with
  | exc c => rw [hes] at q; exact q.elim
  | bad => rw [hes] at q; exact q.elim
  | ok es =>
  rw [hes] at q
  have q : Post X.K ad H ex (.own .fz) Q (.lst es) := q
  have fr1 := fr.mono l1
  have nD : ¬ ex1 Dl := fun z => by
    obtain ⟨o, e⟩ := fr1.exok Dl z
    rw [hD] at e
    cases e
  have back : ∀ {H' : Hp} {ex' : Own}, Le (upd H1 Dl (.lst [])) (plus ex1 Dl) (upd H' Dl (.lst [])) ex' → Same H1 H' := fun {H' ex'} l' b o e => by
    have hb : b ≠ Dl := fun z => by rw [z, hD] at e; cases e
    have e2 := l'.same b o (by rw [upd_ne hb]; exact e)
    rw [upd_ne hb] at e2
    exact e2
  have len_le : ∀ (ds : List D) es, lcF own h tst fe ρ ds = .ok es → es.length ≤ ds.length := by
    intro ds
    induction ds with
    | nil => intro es e; cases e; exact Nat.le_refl _
    | cons d ds ih =>
      intro es e
      unfold lcF at e
      split at e
      · split at e
        · split at e
          · split at e
            · split at e
              · cases e
                rename_i es' e'
                have := ih es' e'
                simp only [List.length_cons]
                omega
              · cases e
            · cases e
          · split at e
            · cases e
              rename_i es' e'
              have := ih _ e'
              simp only [List.length_cons]
              omega
            · cases e
        · cases e
      · cases e
  refine lc_it wk (fun i H' => ∃ (ex' : Own) (done : List D) (rest : List D) (acc : List V), Le (upd H1 Dl (.lst [])) (plus ex1 Dl) (upd H' Dl (.lst [])) ex' ∧ ex' Dl ∧ H' Dl = some (.lst acc) ∧ Ats X.K ad (cut H' ex') done acc ∧
      done.length ≤ i ∧ lcF own h tst fe ρ (ds.drop i) = .ok rest ∧ es = done ++ rest) ?_ ?_ ?_ ?_
  · refine ⟨plus ex1 Dl, [], es, [], ?_, .inr rfl, upd_same, .nil, Nat.le_refl _, hes, rfl⟩
    rw [upd_upd]
    exact Le.refl _ _
  · rintro i H' _ ⟨ex', done, rest, acc, l', exD, hDl, ha, _, _, _⟩
    have m : Mo H1 ex1 H' ex' := by
      have m1 : Mo H1 ex1 (upd H1 Dl (.lst [])) (plus ex1 Dl) := (Le.own hD).cuts
      have m2 := l'.cuts
      intro b o hb
      have z := m2 b o (m1 b o hb)
      obtain ⟨n1, e1⟩ := of_cut z
      have : b ≠ Dl := fun e => n1 (e ▸ exD)
      rw [upd_ne this] at e1
      exact cut_of n1 e1
    exact hG H' ex' ⟨m, back l'⟩
  · rintro i x H' H'' hi ⟨ex', done, rest, acc, l', exD, hDl, ha, hdl, hrest, hsum⟩ y
    have m : Mo H1 ex1 H' ex' := by
      have m1 : Mo H1 ex1 (upd H1 Dl (.lst [])) (plus ex1 Dl) := (Le.own hD).cuts
      intro b o hb
      have z := l'.cuts b o (m1 b o hb)
      obtain ⟨n1, e1⟩ := of_cut z
      have : b ≠ Dl := fun e => n1 (e ▸ exD)
      rw [upd_ne this] at e1
      exact cut_of n1 e1
    have lH : Le (upd H1 Dl (.lst [])) (plus ex1 Dl) (upd H' Dl (.lst [])) ex' := l'
    have frH : Fra X.K ad G ex0 ρ σ H' ex' := by
      -- from H1 to H': the new list at Dl is owned, all else grows
      obtain ⟨fps, f1, f2, f3, f4⟩ := fr1.slots
      have bk : ∀ b, b ≠ Dl → ∀ o, (upd H' Dl (.lst [])) b = some o → H' b = some o := fun b hb o e => by rw [upd_ne hb] at e; exact e
      refine ⟨fr.len, fun b z => ?_, fps, fun j d e => ?_, f2, f3, fun j a z => ?_⟩
      · by_cases hb : b = Dl
        · subst hb
          exact ⟨_, hDl⟩
        · rcases l'.new b z with z1 | ⟨_, o, e⟩
          · rcases z1 with z1 | z1
            · obtain ⟨o, e⟩ := fr1.exok b z1
              have e2 := l'.same b o (by rw [upd_ne hb]; exact e)
              exact ⟨o, bk b hb o e2⟩
            · exact absurd z1 hb
          · exact ⟨o, bk b hb o e⟩
      · obtain ⟨v, e1, r⟩ := f1 j d e
        refine ⟨v, e1, r.keep m fun a z => ?_⟩
        obtain ⟨z1, o, z2⟩ := r.in a z
        have hb : a ≠ Dl := fun e => nD (e ▸ z1)
        exact ⟨l'.keep a (.inl z1), (bk a hb o (l'.same a o (by rw [upd_ne hb]; exact z2))).trans z2.symm⟩
      · exact ⟨l'.keep a (.inl (f4 j a z).1), (f4 j a z).2⟩
    obtain ⟨d, hd, l2, a⟩ := hY i H' ex' x H'' hi ⟨m, back l'⟩ frH.exok y
    have e : ds.drop i = d :: ds.drop (i + 1) := by
      rw [List.drop_eq_getElem_cons hi]
      rw [List.getElem?_eq_getElem hi] at hd
      cases hd
      rfl
    rw [e] at hrest
    unfold lcF at hrest
    have frW := (frH.mono l2).wipe own
    refine ⟨ex0, _, ex', d, frW, a, ?_⟩
    -- steps on from a state (H3, ex3) behind the turn's work
    have on : ∀ {Ha Hb : Hp} {exa exb : Own}, Le Ha exa Hb exb → Ha Dl = some (.lst acc) → exa Dl → Hb Dl = some (.lst acc) ∧ exb Dl := fun {Ha Hb exa exb} l hA xA => ⟨l.same _ _ hA, l.keep _ xA⟩
    have lay : ∀ {Hb : Hp} {exb : Own}, Le H' ex' Hb exb → Le (upd H1 Dl (.lst [])) (plus ex1 Dl) (upd Hb Dl (.lst [])) exb := fun {Hb exb} l => by
      refine l'.trans ⟨fun b o e => ?_, l.keep, fun b z => ?_⟩
      · by_cases hb : b = Dl
        · subst hb
          rw [upd_same] at e ⊢
          exact e
        · rw [upd_ne hb] at e ⊢
          exact l.same b o e
      · rcases l.new b z with z1 | ⟨z1, o, z2⟩
        · exact .inl z1
        · have hb : b ≠ Dl := fun e => by rw [e, hDl] at z1; cases z1
          exact .inr ⟨by rw [upd_ne hb]; exact z1, o, by rw [upd_ne hb]; exact z2⟩
    cases hh : h d (wipeR ρ own) with
    | exc c => rw [hh] at hrest; cases hrest
    | bad => rw [hh] at hrest; cases hrest
    | ok ρ1 =>
    rw [hh] at hrest
    dsimp only at hrest
    intro σ1 fr1' w1
    refine ⟨(w1 own hv).trans wipe_idem, ex0, ρ1, ex', fr1', ?_⟩
    cases ht : tst ρ1 with
    | exc c => rw [ht] at hrest; cases hrest
    | bad => rw [ht] at hrest; cases hrest
    | ok b =>
    rw [ht] at hrest
    dsimp only at hrest
    intro H3 ex3 l3
    cases b with
    | false =>
      rw [if_neg Bool.false_ne_true] at hrest ⊢
      have lt := l2.trans l3
      have k := on lt hDl exD
      refine ⟨ex3, done, rest, acc, lay lt, k.2, k.1, ha.mono lt.cuts, by omega, ?_, hsum⟩
      split at hrest
      · rename_i es' e'
        cases hrest
        exact e'
      · cases hrest
    | true =>
      rw [if_pos rfl] at hrest ⊢
      refine ⟨ex0, ρ1, ex3, fr1'.mono l3, ?_⟩
      cases hf : fe ρ1 with
      | exc c => rw [hf] at hrest; cases hrest
      | bad => rw [hf] at hrest; cases hrest
      | ok e1 =>
      rw [hf] at hrest
      dsimp only at hrest
      intro v H4 ex4 fp l4 r4 _ _
      have lt := (l2.trans l3).trans l4
      have k := on lt hDl exD
      split at hrest
      · rename_i es' e'
        cases hrest
        have hlen : acc.length < sizeLine := by
          have h1 := ha.length
          omega
        refine ⟨acc, k.1, hlen, ex4, done ++ [e1], es', acc ++ [v], ?_, k.2, upd_same, ?_, by rw [List.length_append, List.length_singleton]; omega, e', by rw [hsum, List.append_assoc]; rfl⟩
        · rw [upd_upd]
          exact lay lt
        · have mm : Same (cut H4 ex4) (cut (upd H4 Dl (.lst (acc ++ [v]))) ex4) := fun b o e => by
            obtain ⟨n1, e1⟩ := of_cut e
            have hb : b ≠ Dl := fun z => n1 (z ▸ k.2)
            exact cut_of n1 (by rw [upd_ne hb]; exact e1)
          exact ((ha.mono lt.cuts).append (.cons (rep_fz r4) .nil)).mono mm
      · cases hrest
  · rintro H' ⟨ex', done, rest, acc, l', exD, hDl, ha, hdl, hrest, hsum⟩
    rw [List.drop_length] at hrest
    cases hrest
    rw [List.append_nil] at hsum
    subst hsum
    have hza : acc.length ≤ sizeLine := by
      have h1 := ha.length
      omega
    have n1 : ∀ b o, H1 b = some o → b ≠ Dl := fun b o e z => by rw [z, hD] at e; cases e
    refine q (.ref Dl) H' ex' [Dl] ⟨fun b o e => ?_, fun b z => l'.keep b (.inl (l1.keep b z)), fun b z => ?_⟩ (.own exD hDl hza ?_) (by simp) fun a z => ?_
    · have e1 := l1.same b o e
      have hb := n1 b o e1
      have e2 := l'.same b o (by rw [upd_ne hb]; exact e1)
      rw [upd_ne hb] at e2
      exact e2
    · by_cases hb : b = Dl
      · subst hb
        exact .inr ⟨l1.same.free hD, _, hDl⟩
      · rcases l'.new b z with (z1 | z1) | ⟨z1, o, z2⟩
        · rcases l1.new b z1 with z3 | ⟨z3, o, z4⟩
          · exact .inl z3
          · have e2 := l'.same b o (by rw [upd_ne hb]; exact z4)
            rw [upd_ne hb] at e2
            exact .inr ⟨z3, o, e2⟩
        · exact absurd z1 hb
        · rw [upd_ne hb] at z1 z2
          exact .inr ⟨l1.same.free z1, o, z2⟩
    · exact ha.reps
    · have z : a = Dl := by simpa using z
      subst z
      exact fun x => nD (l1.keep _ x)
/-- a comprehension -/
theorem de_lc {elt iter : Expr} {ifs : List Expr} {scope : Scope} (own : List (Str × Nat)) {vs : List Nat} {fi : Env → R (List D)} {h : D → Env → R Env} {tst : Env → R Bool} {fe : Env → R D} (hc : X.calm = true) (hN : X.N.Nodup) (ok : blkC X.N X.env.scope scope own = true)
    (hi : DJ X ad w G tg iter fi) (hg : InBlk X scope fun Y => DG Y ad G tg vs h) (ht : InBlk X scope fun Y => DTs Y ad w0 G ifs tst) (he : InBlk X scope fun Y => DE Y ad w0 G elt .fz fe) (hv : ∀ i ∈ vs, i ∈ own.map (·.2) := by decide) (hs : ∀ x, foldedSetIterable iter X.env x = pure x := by intro _; rfl) :
    DE X ad w G (.ListComp elt [⟨tg, iter, ifs, 0⟩] scope pos) (.own .fz) (dLc (own.map (·.2)) fi h tst fe) := by
  obtain ⟨wi, pi, ki⟩ := hi
  refine ⟨_, pe_lc (own := own) (g := cG X.K ad G vs h) (tt := cT X.K ad G tst) (te := cE X.K ad G .fz fe) hc hN pi (blkOk_by ok) (fun s H C cl fp => ?_) (fun s H C cl fp => ?_) (fun s H C cl fp => ?_) hs, lc_run (ex0 := fun _ => True) hv ki⟩
  · obtain ⟨t, p, k⟩ := hg s H C cl fp
    exact pg_up p fun v σ H Q ⟨ex0, ρ, ex, d, f, a, q⟩ => k ex0 ρ σ H ex d v Q f a q
  · obtain ⟨t, p, k⟩ := ht s H C cl fp
    exact pts_up p fun σ H Q ⟨ex0, ρ, ex, f, q⟩ => k ex0 ρ σ H ex Q f (sat_f q)
  · obtain ⟨t, p, k⟩ := he s H C cl fp
    exact pe_up p fun σ H Q ⟨ex0, ρ, ex, f, q⟩ => k ex0 ρ σ H ex Q f (sat_f q)
/-- y = a comprehension, on one line -/
theorem sd_setLc (i : Nat) {y : Str} {py : Pos} {spos : Pos} {elt iter : Expr} {ifs : List Expr} {scope : Scope} (own : List (Str × Nat)) {vs : List Nat} {fi : Env → R (List D)} {h : D → Env → R Env} {tst : Env → R Bool} {fe : Env → R D} (hc : X.calm = true) (hN : X.N.Nodup) (ok : blkC X.N X.env.scope scope own = true)
    (hi : DJ X ad w G tg iter fi) (hg : InBlk X scope fun Y => DG Y ad G tg vs h) (ht : InBlk X scope fun Y => DTs Y ad w0 G ifs tst) (he : InBlk X scope fun Y => DE Y ad w0 G elt .fz fe) (hsw : swapsWith (.ListComp elt [⟨tg, iter, ifs, 0⟩] scope pos) (some (.Name y py)) spos.line X.env = pure true)
    (hy : X.N[i]? = some y := by rfl) (hyl : X.env.scope.names.lookup y = some .local := by rfl) (hsh : sh G i = .own .fz := by rfl) (hv : ∀ i ∈ vs, i ∈ own.map (·.2) := by decide) (hs : ∀ x, foldedSetIterable iter X.env x = pure x := by intro _; rfl) :
    SD X ad w rs G (.Assign [.Name y py] (.ListComp elt [⟨tg, iter, ifs, 0⟩] scope pos) spos) (oSet i (dLc (own.map (·.2)) fi h tst fe)) := by
  obtain ⟨wi, pi, ki⟩ := hi
  refine ⟨_, ps_setLc (own := own) (g := cG X.K ad G vs h) (tt := cT X.K ad G tst) (te := cE X.K ad G .fz fe) hc hN hy hyl hsw pi (blkOk_by ok) (fun s H C cl fp => ?_) (fun s H C cl fp => ?_) (fun s H C cl fp => ?_) hs, fun H0 ex0 ρ σ H ex De l f q => ?_⟩
  · obtain ⟨t, p, k⟩ := hg s H C cl fp
    exact pg_up p fun v σ H Q ⟨ex0, ρ, ex, d, f, a, q⟩ => k ex0 ρ σ H ex d v Q f a q
  · obtain ⟨t, p, k⟩ := ht s H C cl fp
    exact pts_up p fun σ H Q ⟨ex0, ρ, ex, f, q⟩ => k ex0 ρ σ H ex Q f (sat_f q)
  · obtain ⟨t, p, k⟩ := he s H C cl fp
    exact pe_up p fun σ H Q ⟨ex0, ρ, ex, f, q⟩ => k ex0 ρ σ H ex Q f (sat_f q)
  · refine lc_run (ex0 := fun _ => True) hv ki ex0 ρ σ H ex _ f (sat_then l f q fun d q => ?_)
    intro v H' ex' fp l' r nd nw
    exact q (σ.set i (some v)) H' ex' (l.trans l') l'.cuts (f.setN l' (by rw [hsh]; exact r) nd nw fun a z zz => nw a z (l.keep a zz))
/-- .. given away -/
theorem sd_setLcF (i : Nat) {y : Str} {py : Pos} {spos : Pos} {elt iter : Expr} {ifs : List Expr} {scope : Scope} (own : List (Str × Nat)) {vs : List Nat} {fi : Env → R (List D)} {h : D → Env → R Env} {tst : Env → R Bool} {fe : Env → R D} (hc : X.calm = true) (hN : X.N.Nodup) (ok : blkC X.N X.env.scope scope own = true)
    (hi : DJ X ad w G tg iter fi) (hg : InBlk X scope fun Y => DG Y ad G tg vs h) (ht : InBlk X scope fun Y => DTs Y ad w0 G ifs tst) (he : InBlk X scope fun Y => DE Y ad w0 G elt .fz fe) (hsw : swapsWith (.ListComp elt [⟨tg, iter, ifs, 0⟩] scope pos) (some (.Name y py)) spos.line X.env = pure true)
    (hy : X.N[i]? = some y := by rfl) (hyl : X.env.scope.names.lookup y = some .local := by rfl) (hsh : sh G i = .fz := by rfl) (hv : ∀ i ∈ vs, i ∈ own.map (·.2) := by decide) (hs : ∀ x, foldedSetIterable iter X.env x = pure x := by intro _; rfl) :
    SD X ad w rs G (.Assign [.Name y py] (.ListComp elt [⟨tg, iter, ifs, 0⟩] scope pos) spos) (oSet i (dLc (own.map (·.2)) fi h tst fe)) := by
  obtain ⟨wi, pi, ki⟩ := hi
  refine ⟨_, ps_setLc (own := own) (g := cG X.K ad G vs h) (tt := cT X.K ad G tst) (te := cE X.K ad G .fz fe) hc hN hy hyl hsw pi (blkOk_by ok) (fun s H C cl fp => ?_) (fun s H C cl fp => ?_) (fun s H C cl fp => ?_) hs, fun H0 ex0 ρ σ H ex De l f q => ?_⟩
  · obtain ⟨t, p, k⟩ := hg s H C cl fp
    exact pg_up p fun v σ H Q ⟨ex0, ρ, ex, d, f, a, q⟩ => k ex0 ρ σ H ex d v Q f a q
  · obtain ⟨t, p, k⟩ := ht s H C cl fp
    exact pts_up p fun σ H Q ⟨ex0, ρ, ex, f, q⟩ => k ex0 ρ σ H ex Q f (sat_f q)
  · obtain ⟨t, p, k⟩ := he s H C cl fp
    exact pe_up p fun σ H Q ⟨ex0, ρ, ex, f, q⟩ => k ex0 ρ σ H ex Q f (sat_f q)
  · refine lc_run (ex0 := fun _ => True) hv ki ex0 ρ σ H ex _ f (sat_then l f q fun d q => ?_)
    intro v H' ex' fp l' r nd nw
    have l2 : Le H ex H' (less ex' fp) := ⟨l'.same, fun b z => ⟨l'.keep b z, fun m => nw b m z⟩, fun b z => l'.new b z.1⟩
    exact q (σ.set i (some v)) H' (less ex' fp) (l.trans l2) l2.cuts ((f.mono l2).setF hsh r.freeze)
end
end DL

set_option Elab.async false
set_option linter.all false
set_option maxRecDepth 100000
set_option maxHeartbeats 4000000
set_option autoImplicit false
/-! DL5: lists of one's own that change; calls; defs. -/
namespace DL
open PySem PySem.Spec PyProof.Rows L2

section
variable {K : PySem.W.Frag} {ad : Adr} {G : Shs} {ex0 ex : Own} {ρ : Env} {σ : L2.St} {H H0 : Hp}
/-- a list of ours, of things that are anybody's -/
def ownL : Sh → Bool
  | .own .fz => true
  | .pin _ => true
  | _ => false
/-- a list of one's own: where it stands, and how it is written -/
theorem Fra.own (f : Fra K ad G ex0 ρ σ H ex) {i : Nat} {d : D} (e : ρ[i]? = some (some d)) (g : ownL (sh G i) = true) (nf : flat d = false := by rfl) :
    ∃ a vs ds, d = .lst ds ∧ σ[i]? = some (some (.ref a)) ∧ ex a ∧ ¬ ex0 a ∧ H a = some (.lst vs) ∧ vs.length ≤ sizeLine ∧ Ats K ad (cut H ex) ds vs ∧
      ∀ ds' vs', vs'.length ≤ sizeLine → Ats K ad (cut H ex) ds' vs' → Fra K ad G ex0 (ρ.set i (some (.lst ds'))) σ (upd H a (.lst vs')) ex := by
  obtain ⟨fps, h1, h2, h3, h4⟩ := f.slots
  obtain ⟨v, e1, r⟩ := h1 i d e
  have key : ∃ a vs ds, d = .lst ds ∧ v = .ref a ∧ fps i = [a] ∧ ex a ∧ H a = some (.lst vs) ∧ vs.length ≤ sizeLine ∧ Ats K ad (cut H ex) ds vs ∧
      ∀ H' ds' vs', H' a = some (.lst vs') → vs'.length ≤ sizeLine → Ats K ad (cut H' ex) ds' vs' → Rep K ad H' ex (sh G i) (.lst ds') (.ref a) (fps i) := by
    generalize hs : sh G i = s at r g
    generalize hfp : fps i = fp at r
    cases r with
    | flt z _ => rw [nf] at z; cases z
    | @own s ds a vs fp' hex hH hz hs' =>
      cases s <;> first | cases g | skip
      obtain ⟨e2, hA⟩ := hs'.fzs
      subst e2
      exact ⟨a, vs, ds, rfl, rfl, rfl, hex, hH, hz, hA, fun H' ds' vs' h1 h2 h3 => .own hex h1 h2 h3.reps⟩
    | @pin ds a vs hex hH hz hA => exact ⟨a, vs, ds, rfl, rfl, rfl, hex, hH, hz, hA, fun H' ds' vs' h1 h2 h3 => .pin hex h1 h2 h3⟩
    | fz _ => cases g
    | tup _ _ _ => cases g
  obtain ⟨a, vs, ds, rfl, rfl, hfp, hex, hH, hz, hA, mk⟩ := key
  have ha : a ∈ fps i := by rw [hfp]; exact List.mem_cons_self
  refine ⟨a, vs, ds, rfl, e1, hex, (h4 i a ha).2, hH, hz, hA, fun ds' vs' hz' hA' => ?_⟩
  have m : Same (cut H ex) (cut (upd H a (.lst vs')) ex) := fun b o q => by
    obtain ⟨n, q⟩ := of_cut q
    exact cut_of n (by rw [upd_ne (fun (z : b = a) => n (by rw [z]; exact hex))]; exact q)
  have hi : i < ρ.length := (List.getElem?_eq_some_iff.mp e).1
  refine ⟨by rw [List.length_set, f.len], fun b z => ?_, fps, fun j d' ej => ?_, h2, h3, h4⟩
  · by_cases hb : b = a
    · subst hb
      exact ⟨_, upd_same⟩
    · rw [upd_ne hb]
      exact f.exok b z
  · by_cases hj : j = i
    · subst hj
      rw [List.getElem?_set_self hi] at ej
      cases ej
      exact ⟨_, e1, mk _ ds' vs' upd_same hz' (hA'.mono m)⟩
    · rw [List.getElem?_set_ne (Ne.symm hj)] at ej
      obtain ⟨v', e2, r'⟩ := h1 j d' ej
      refine ⟨v', e2, r'.keep m fun b z => ⟨(h4 j b z).1, upd_ne fun q => ?_⟩⟩
      subst q
      exact h3 j i b hj z ha
theorem own_le {a : Addr} {o : HO} (l : Le H0 ex0 H ex) (h : ex a) (n : ¬ ex0 a) : Le H0 ex0 (upd H a o) ex := by
  have h0 : H0 a = none := by
    rcases l.new a h with z | z
    · exact absurd z n
    · exact z.1
  refine ⟨fun b u e => ?_, l.keep, fun b z => ?_⟩
  · rw [upd_ne (ne_of_none e h0)]
    exact l.same b u e
  · rcases l.new b z with z | ⟨z1, u, z2⟩
    · exact .inl z
    · by_cases hb : b = a
      · subst hb
        exact .inr ⟨z1, _, upd_same⟩
      · exact .inr ⟨z1, u, by rw [upd_ne hb]; exact z2⟩
theorem own_mo {a : Addr} {o : HO} (h : ex a) : Mo H ex (upd H a o) ex := fun b u q => by
  obtain ⟨n, q⟩ := of_cut q
  exact cut_of n (by rw [upd_ne (fun (z : b = a) => n (by rw [z]; exact h))]; exact q)
end

section
variable {X : Cx} {ad : Adr} {w : Wi} {rs : Sh} {G G' : Shs} {pos : Pos} {tg : Expr}
def isL : D → R (List D)
  | .lst ds => .ok ds
  | _ => .bad
/-- a method of the list at slot i, called for what it changes: by the list ahead and the argument's data the list behind -/
def oMut (i : Nat) (o : List D → List D → R (List D)) (f : Env → R (List D)) : Env → Out := fun ρ => match (dV i ρ).bind isL with
  | .ok xs => (f ρ).then ρ fun ds => match o xs ds with
    | .ok ys => .nx (ρ.set i (some (.lst ys)))
    | _ => .bad
  | _ => .bad
/-- such a method by values -/
def DMt (X : Cx) (ad : Adr) (id : String) (o : List D → List D → R (List D)) : Prop :=
  ∃ r, MtR X id r ∧ ∀ a vs us xs ds H ex Q, H a = some (.lst vs) → ex a → vs.length ≤ sizeLine → Ats X.K ad (cut H ex) xs vs → Ats X.K ad (cut H ex) ds us → Sat (o xs ds) (fun ys => ∀ vs' v, vs'.length ≤ sizeLine → Ats X.K ad (cut H ex) ys vs' → Q v (upd H a (.lst vs'))) (fun _ => False) → r (.ref a) us H Q
theorem slot_own {i : Nat} {ρ : Env} {xs : List D} (h : (dV i ρ).bind isL = .ok xs) : ρ[i]? = some (some (.lst xs)) := by
  unfold dV at h
  split at h
  · rename_i d e
    rw [e]
    cases d <;> first | (cases h; rfl) | cases h
  · cases h
theorem sd_mut (i : Nat) {x : Str} {p1 apos cpos : Pos} {name : Str} {id : String} {e : Expr} {es : List Expr} {f : Env → R (List D)} {o : List D → List D → R (List D)} (hm : DMt X ad id o) (slot : Slot "list" name id) (hty : typeOf (.builtin id) = pure (.type "method_descriptor")) (ha : DA X ad w G (e :: es) f)
    (hN : X.N[i]? = some x := by rfl) (hg : ownL (sh G i) = true := by rfl) (hv : Vis X.env.scope x := by first | exact Or.inl rfl | exact Or.inr (Or.inl rfl) | exact Or.inr (Or.inr rfl)) (hd : (x == ("__debug__" : Str)) = false := by decide) (hcd : (x == ("__classdict__" : Str)) = false := by decide)
    (hbase : attributeBase (.Name x p1) name X.env (eval (.Name x p1) X.env) = eval (.Name x p1) X.env := by rfl)
    (hfew : ((backTo cpos (starEach (e :: es) X.env)).all (fun x => !x.1) && (backToKw cpos (keywordEach [] X.env)).all (fun x => x.1.isSome)
      && decide ((e :: es).length + ([] : List Keyword).length + (if ([] : List Keyword).isEmpty then 0 else 1) < 30)) = true := by rfl)
    (hline : (apos.endLine == cpos.line) = true := by rfl) (hs : starEach (e :: es) X.env = (false, eval e X.env) :: starEach es X.env := by rfl) (hplain : (backTo cpos (starEach es X.env)).any (·.1) = false := by rfl)
    (hsw : swapsWith (.Call (.Attribute (.Name x p1) name apos) (e :: es) [] cpos) none pos.line X.env = pure false := by rfl) :
    SD X ad w rs G (.Expr (.Call (.Attribute (.Name x p1) name apos) (e :: es) [] cpos) pos) (oMut i o f) := by
  obtain ⟨r, mr, kr⟩ := hm
  obtain ⟨t, pa, k⟩ := ha
  refine ⟨_, ps_expr (pe_bm PySem.F.plainAttrs_list slot hty mr (pe_var hN hv hd hcd) pa hbase hfew hline hs hplain) hsw, fun H0 ex0 ρ σ H ex De l f q => ?_⟩
  unfold oMut at q
  cases e1 : (dV i ρ).bind isL with
  | exc c => rw [e1] at q; exact q.elim
  | bad => rw [e1] at q; exact q.elim
  | ok xs =>
  rw [e1] at q
  have er := slot_own e1
  obtain ⟨a, vs, ds, ed, eσ, hex, hn, hH, hz, hA, _⟩ := f.own er hg
  cases ed
  refine ⟨_, eσ, .inl ⟨rfl, _, SqL.of hH⟩, ?_⟩
  refine k ex0 ρ σ H ex _ f (sat_then l f q fun ds q => ?_)
  intro us H2 ex2 l2 hA2
  have f2 := f.mono l2
  obtain ⟨a', vs', ds', ed, eσ', hex', hn', hH', hz', hA', wr⟩ := f2.own er hg
  cases ed
  rw [eσ] at eσ'
  cases eσ'
  refine kr a vs' us xs ds H2 ex2 _ hH' hex' hz' hA' hA2 ?_
  cases ho : o xs ds with
  | exc c => rw [ho] at q; exact q
  | bad => rw [ho] at q; exact q
  | ok ys =>
    rw [ho] at q
    intro vs2 v hz2 hA3
    exact q σ _ ex2 (own_le (l.trans l2) hex' hn') (l2.cuts.trans (own_mo hex')) (wr ys vs2 hz2 hA3)
/-- .. without arguments -/
theorem sd_mut0 (i : Nat) {x : Str} {p1 apos cpos : Pos} {name : Str} {id : String} {o : List D → List D → R (List D)} (hm : DMt X ad id o) (slot : Slot "list" name id) (hty : typeOf (.builtin id) = pure (.type "method_descriptor"))
    (hN : X.N[i]? = some x := by rfl) (hg : ownL (sh G i) = true := by rfl) (hv : Vis X.env.scope x := by first | exact Or.inl rfl | exact Or.inr (Or.inl rfl) | exact Or.inr (Or.inr rfl)) (hd : (x == ("__debug__" : Str)) = false := by decide) (hcd : (x == ("__classdict__" : Str)) = false := by decide)
    (hbase : attributeBase (.Name x p1) name X.env (eval (.Name x p1) X.env) = eval (.Name x p1) X.env := by rfl) (hline : (apos.endLine == cpos.line) = true := by rfl)
    (hsw : swapsWith (.Call (.Attribute (.Name x p1) name apos) [] [] cpos) none pos.line X.env = pure false := by rfl) :
    SD X ad w rs G (.Expr (.Call (.Attribute (.Name x p1) name apos) [] [] cpos) pos) (oMut i o dNil) := by
  obtain ⟨r, mr, kr⟩ := hm
  refine ⟨_, ps_expr (pe_bm0 PySem.F.plainAttrs_list slot hty mr (pe_var hN hv hd hcd) hbase hline) hsw, fun H0 ex0 ρ σ H ex De l f q => ?_⟩
  unfold oMut at q
  cases e1 : (dV i ρ).bind isL with
  | exc c => rw [e1] at q; exact q.elim
  | bad => rw [e1] at q; exact q.elim
  | ok xs =>
  rw [e1] at q
  have er := slot_own e1
  obtain ⟨a, vs, ds, ed, eσ, hex, hn, hH, hz, hA, wr⟩ := f.own er hg
  cases ed
  refine ⟨_, eσ, .inl ⟨rfl, _, SqL.of hH⟩, ?_⟩
  refine kr a vs [] xs [] H ex _ hH hex hz hA .nil ?_
  dsimp only [dNil, then_ok] at q
  cases ho : o xs [] with
  | exc c => rw [ho] at q; exact q
  | bad => rw [ho] at q; exact q
  | ok ys =>
    rw [ho] at q
    intro vs2 v hz2 hA3
    exact q σ _ ex (own_le l hex hn) (own_mo hex) (wr ys vs2 hz2 hA3)
def mAppend (xs ds : List D) : R (List D) := match ds with
  | [d] => if xs.length < 16777216 then .ok (xs ++ [d]) else .bad
  | _ => .bad
theorem dmt_append : DMt X ad "list.append" mAppend := by
  refine ⟨_, mt_append, fun a vs us xs ds H ex Q hH hex hz hA hB q => ?_⟩
  unfold mAppend at q
  split at q
  · rename_i d
    obtain ⟨v, rfl, a1⟩ := hB.one
    split at q
    · rename_i hl
      rw [hA.length] at hl
      refine ⟨a, vs, v, rfl, rfl, hH, by rw [sizeLine_eq]; exact hl, q _ _ ?_ (hA.append (.cons a1 .nil))⟩
      rw [List.length_append, List.length_singleton, sizeLine_eq]
      exact hl
    · exact q.elim
  · exact q.elim
def mPop (xs ds : List D) : R (List D) := match ds with
  | [] => if xs.length = 0 then .bad else .ok xs.dropLast
  | _ => .bad
theorem Ats.dropLast {K : PySem.W.Frag} {H : Hp} {ds : List D} {vs : List V} (h : Ats K ad H ds vs) : Ats K ad H ds.dropLast vs.dropLast := by
  rw [List.dropLast_eq_take, List.dropLast_eq_take, h.length]
  exact h.take _
theorem dmt_pop : DMt X ad "list.pop" mPop := by
  refine ⟨_, mt_pop, fun a vs us xs ds H ex Q hH hex hz hA hB q => ?_⟩
  unfold mPop at q
  split at q
  · cases hB
    split at q
    · exact q.elim
    · rename_i hl
      have hl' : vs.length - 1 < vs.length := by
        have := hA.length
        omega
      exact ⟨a, vs, vs[vs.length - 1], rfl, rfl, hH, List.getElem?_eq_getElem hl', q _ _ (by rw [List.length_dropLast]; omega) hA.dropLast⟩
  · exact q.elim
def mClear (_ : List D) (ds : List D) : R (List D) := match ds with
  | [] => .ok []
  | _ => .bad
theorem dmt_clear : DMt X ad "list.clear" mClear := by
  refine ⟨_, mt_clear, fun a vs us xs ds H ex Q hH hex hz hA hB q => ?_⟩
  unfold mClear at q
  split at q
  · cases hB
    exact ⟨a, vs, rfl, rfl, hH, q [] _ (Nat.zero_le _) .nil⟩
  · exact q.elim
def mInsert (xs ds : List D) : R (List D) := match ds with
  | [.int i, d] => if xs.length < 16777216 ∧ 0 ≤ i ∧ i ≤ 16777216 then .ok (xs.take i.toNat ++ [d] ++ xs.drop i.toNat) else .bad
  | _ => .bad
theorem dmt_insert : DMt X ad "list.insert" mInsert := by
  refine ⟨_, mt_insert, fun a vs us xs ds H ex Q hH hex hz hA hB q => ?_⟩
  unfold mInsert at q
  split at q
  · rename_i i d
    obtain ⟨u, v, rfl, a1, a2⟩ := hB.two
    cases a1
    split at q
    · rename_i hl
      rw [hA.length] at hl
      have h3 : (i : Int) < 2 ^ 63 := by have := hl.2.2; omega
      refine ⟨a, vs, i, v, rfl, rfl, hH, by rw [sizeLine_eq]; exact hl.1, hl.2.1, h3, q _ _ ?_ (((hA.take _).append (.cons a2 .nil)).append (hA.drop _))⟩
      rw [List.length_append, List.length_append, List.length_take, List.length_drop, List.length_singleton, sizeLine_eq]
      have := hl.1
      omega
    · exact q.elim
  · exact q.elim
theorem ixN_nat {n : Nat} {k : Int} (h0 : 0 ≤ k) (h : k < n) : ixN n k = some k.toNat := by
  unfold ixN
  rw [if_pos h0, if_pos (by omega)]
def mPopAt (xs ds : List D) : R (List D) := match ds with
  | [.int i] => if 0 ≤ i ∧ i < xs.length then .ok (xs.eraseIdx i.toNat) else .bad
  | _ => .bad
theorem Ats.eraseIdx {K : PySem.W.Frag} {H : Hp} : ∀ {ds : List D} {vs : List V} (n : Nat), Ats K ad H ds vs → Ats K ad H (ds.eraseIdx n) (vs.eraseIdx n)
  | _, _, _, .nil => .nil
  | _, _, 0, .cons _ hs => hs
  | _, _, n + 1, .cons h hs => .cons h (Ats.eraseIdx n hs)
theorem dmt_popAt : DMt X ad "list.pop" mPopAt := by
  refine ⟨_, mt_popAt, fun a vs us xs ds H ex Q hH hex hz hA hB q => ?_⟩
  unfold mPopAt at q
  split at q
  · rename_i i
    obtain ⟨u, rfl, a1⟩ := hB.one
    cases a1
    split at q
    · rename_i hl
      rw [hA.length] at hl
      have hi : i.toNat < vs.length := by omega
      have hz' : vs.length ≤ 16777216 := by rw [← sizeLine_eq]; exact hz
      have h1 := (ixN_seq (ixN_nat hl.1 hl.2)).1
      refine ⟨a, vs, i, i.toNat, vs[i.toNat], rfl, rfl, hH, by omega, by omega, h1, List.getElem?_eq_getElem hi, ?_⟩
      exact q _ _ (by rw [List.length_eraseIdx]; split <;> omega) (hA.eraseIdx _)
    · exact q.elim
  · exact q.elim
def mExtend (xs ds : List D) : R (List D) := match ds with
  | [.lst es] => if xs.length + es.length ≤ 16777216 then .ok (xs ++ es) else .bad
  | _ => .bad
/-! ### x[i] = e -/
def oSetItem (i : Nat) (fk : Env → R D) (f : Env → R D) : Env → Out := fun ρ => (f ρ).then ρ fun d => match (dV i ρ).bind isL with
  | .ok xs => (fk ρ).then ρ fun k => match k with
    | .int k => if 0 ≤ k ∧ k < xs.length then .nx (ρ.set i (some (.lst (xs.set k.toNat d)))) else .bad
    | _ => .bad
  | _ => .bad
theorem sd_setItem (i : Nat) {x : Str} {p1 p2 : Pos} {ke e : Expr} {fk f : Env → R D} (he : DE X ad w G e .fz f) (hk : DE X ad w G ke .fz fk) (hN : X.N[i]? = some x := by rfl) (hg : ownL (sh G i) = true := by rfl) (hv : Vis X.env.scope x := by first | exact Or.inl rfl | exact Or.inr (Or.inl rfl) | exact Or.inr (Or.inr rfl)) (hd : (x == ("__debug__" : Str)) = false := by decide) (hcd : (x == ("__classdict__" : Str)) = false := by decide)
    (ha : ∀ v, assign (.Subscript (.Name x p1) ke p2) X.env v = (do
      let ov ← holding [v] (eval (.Name x p1) X.env)
      let iv ← holding [v, ov] (eval ke X.env)
      standAt p2
      holding [v, ov, iv] (setItem ov iv v)
      release [v, ov, iv] []) := by intro _; rfl)
    (hs : swapsWithSole [.Subscript (.Name x p1) ke p2] e pos.line X.env = pure false := by rfl) (hw : swappedStores [.Subscript (.Name x p1) ke p2] e X.env = pure none := by rfl)
    (h1 : (assignEach [.Subscript (.Name x p1) ke p2] X.env).map (·.2) = [assign (.Subscript (.Name x p1) ke p2) X.env] := by rfl) :
    SD X ad w rs G (.Assign [.Subscript (.Name x p1) ke p2] e pos) (oSetItem i fk f) := by
  obtain ⟨t, p, k⟩ := he
  obtain ⟨tk, pk, kk⟩ := hk
  refine ⟨_, ps_asg p (pg_sub (pe_var hN hv hd hcd) pk set_list ha) hs hw h1, fun H0 ex0 ρ σ H ex De l f q => ?_⟩
  refine k ex0 ρ σ H ex _ f (sat_then l f q fun d q => ?_)
  intro v H1 ex1 fp l1 r nd nw
  have a1 := rep_fz r
  have f1 := f.mono l1
  have lt1 := l.trans l1
  have q := q.from l1.cuts
  cases e1 : (dV i ρ).bind isL with
  | exc c => rw [e1] at q; exact q.elim
  | bad => rw [e1] at q; exact q.elim
  | ok xs =>
  rw [e1] at q
  have er := slot_own e1
  obtain ⟨a, vs, ds, ed, eσ, hex, hn, hH, hz, hA, _⟩ := f1.own er hg
  cases ed
  refine ⟨_, eσ, ?_⟩
  refine kk ex0 ρ σ H1 ex1 _ f1 (sat_then lt1 f1 q fun kd q => ?_)
  intro kv H2 ex2 fp2 l2 r2 _ _
  have a2 := rep_fz r2
  cases a2 with
  | int kz =>
    dsimp only at q
    split at q
    · rename_i hk
      have f2 := f1.mono l2
      obtain ⟨a', vs', ds', ed, eσ', hex', hn', hH', hz', hA', wr⟩ := f2.own er hg
      cases ed
      rw [eσ] at eσ'
      cases eσ'
      rw [hA'.length] at hk
      refine ⟨a, vs', kz, kz.toNat, rfl, rfl, hH', ixN_nat hk.1 hk.2, ?_⟩
      exact q σ _ ex2 (own_le (lt1.trans l2) hex' hn') (l2.cuts.trans (own_mo hex')) (wr _ _ (by rw [List.length_set]; exact hz') (hA'.set (a1.mono l2.cuts) _))
    · exact q.elim
  | _ => exact q.elim

/-! ### calls of defs -/
/-- a def over data -/
def spD (K : PySem.W.Frag) (ad : Adr) (n : Nat) (rs : Sh) (F : List D → R D) : Sp := fun vs H Q E => vs.length = n ∧ ∃ ex ds, (∀ b, ex b → ∃ o, H b = some o) ∧ Ats K ad (cut H ex) ds vs ∧
  Sat (F ds) (Post K ad H ex rs Q) (fun c => ∀ H', Same H H' → E (.ref (ad c)) none H')
/-- the def x of the module computes F -/
structure Cal (P : Program) (wd : World) (K : PySem.W.Frag) (mg : Str → Option Value) (base : Heap) (ad : Adr) (k : Nat) (x : Str) (n : Nat) (rs : Sh) (F : List D → R D) : Prop where
  ex : ∃ f fd ps, FnOk P wd K mg base (L2.CX P wd) k f fd ps (spD K ad n rs F) ∧ mg x = some (.ref f) ∧ PySem.W.keepIn K (.ref f) = true ∧ Binds K fd ps []
/-- refusals are taken -/
def Tk (X : Cx) (ad : Adr) (w : Wi) : Prop := ∃ W, Takes X W ∧ ∀ c σ H, w c σ H → W (.ref (ad c)) none σ H
theorem tk0 : Tk X ad w0 := ⟨_, takes0, fun _ _ _ z => z⟩
def dCall (F : List D → R D) (f : Env → R (List D)) : Env → R D := fun ρ => (f ρ).bind F
theorem de_call {k j n : Nat} {x : Str} {p : Pos} {F : List D → R D} {e : Expr} {es : List Expr} {f : Env → R (List D)} {s : Sh} (c : Cal X.prog X.w X.K X.mg X.base ad k x n s F) (hr : Room j X.A) (hk : k ≤ j) (tk : Tk X ad w) (ha : DA X ad w G (e :: es) f) (hl : (e :: es).length = n := by rfl) (hg : Gl X x := by rfl)
    (hdb : (x == ("__debug__" : Str)) = false := by decide) (he : starEach (e :: es) X.env = (false, eval e X.env) :: starEach es X.env := by rfl) (hpl : (backTo pos (starEach es X.env)).any (·.1) = false := by rfl) (hn : ∀ ρ ds, f ρ = .ok ds → ds.length = n) :
    DE X ad w G (.Call (.Name x p) (e :: es) [] pos) s (dCall F f) := by
  obtain ⟨fa, fd, ps, F1, hm, hkp, hb⟩ := c.ex
  obtain ⟨W, hW, lk⟩ := tk
  obtain ⟨t, pa, ka⟩ := ha
  refine ⟨_, pe_callS F1 (hr.mono hk) hg hm hkp hb (fun σ => passAt hW σ) pa hdb he hpl, fun ex0 ρ σ H ex Q fr q => ?_⟩
  refine ka ex0 ρ σ H ex _ fr ?_
  unfold dCall at q
  rw [sat_bind] at q
  cases e1 : f ρ with
  | exc c => rw [e1] at q; exact q
  | bad => rw [e1] at q; exact q
  | ok ds =>
    rw [e1] at q
    intro vs H1 ex1 l a
    refine ⟨by rw [← a.length]; exact hn ρ ds e1, ex1, ds, (fr.mono l).exok, a, ?_⟩
    refine Sat.imp (show Sat (F ds) (Post X.K ad H ex s Q) (Exc w σ H ex) from q) (fun d q v H2 ex2 fp l2 r nd nw => ?_) fun c q H2 sm => ?_
    · exact q v H2 ex2 fp (l.trans l2) r nd fun a z zz => nw a z (l.keep a zz)
    · exact lk c σ H2 (q H2 ex1 (l.trans ⟨sm, fun _ z => z, fun _ z => .inl z⟩))
end
end DL

set_option Elab.async false
set_option linter.all false
set_option maxRecDepth 100000
set_option maxHeartbeats 4000000
set_option autoImplicit false
/-! DL6: a def over data; operators; built-in functions. -/
namespace DL
open PySem PySem.Spec PyProof.Rows L2

/-- a def's run: by its arguments' data; m more slots; z where it falls through -/
def runD (m : Nat) (z : R D) (g : Env → Out) : List D → R D := fun ds => match g (ds.map some ++ List.replicate m none) with
  | .nx _ => z
  | .rt d _ => .ok d
  | .xc e _ => .exc e
  | .bad => .bad
/-- the wish of a def's frame -/
abbrev wOf (ad : Adr) (E : XK) : Wi := fun c _ H => E (.ref (ad c)) none H
section
variable {P : Program} {wd : World} {K : PySem.W.Frag} {mg : Str → Option Value} {base : Heap} {ad : Adr}
theorem Ats.some_get {H : Hp} {ds : List D} {vs : List V} {m m' : Nat} (a : Ats K ad H ds vs) {i : Nat} {d : D} (e : (ds.map some ++ List.replicate m none)[i]? = some (some d)) : ∃ v, (vs.map some ++ List.replicate m' none)[i]? = some (some v) ∧ At K ad H d v := by
  have hi : i < ds.length := by
    by_cases hi : i < ds.length
    · exact hi
    · rw [List.getElem?_append_right (by simpa using hi), List.getElem?_replicate] at e
      split at e <;> cases e
  rw [List.getElem?_append_left (by simpa using hi), List.getElem?_map] at e
  obtain ⟨d', e1, e2⟩ := Option.map_eq_some_iff.mp e
  cases e2
  obtain ⟨v, e3, h⟩ := a.get e1
  refine ⟨v, ?_, h⟩
  rw [List.getElem?_append_left (by rw [List.length_map, ← a.length]; exact hi), List.getElem?_map, e3]
  rfl
theorem fn_mk {x : Str} {st : Stmt} {f : Addr} {fd : FuncData} {N ps : List Str} {k n : Nat} (m : Nat) {rs : Sh} (G : Shs) {G' : Shs} {z : R D} {g : Env → Out} (F : Fun K x x st f fd) (S : FnScope N ps (defScope st)) (hn : ps.length = n) (hN : N.length = n + m)
    (hz : z = .bad ∨ (z = .ok .non ∧ rs = .fz))
    (body : ∀ (cdv : Value) (A : Around) (outer : List PySem.Env) (s : Shared) (H : Hp) (E : XK), Room k (A.deeper (envOfC x (defScope st) s.heap.objs.size f cdv)) →
      Tk (cxOf (L2.CX P wd) P wd K mg base N x (defScope st) f cdv A outer s H E) ad (wOf ad E) → PassesOwn (model P wd) (A.deeper (envOfC x (defScope st) s.heap.objs.size f cdv)) (envOfC x (defScope st) s.heap.objs.size f cdv) (cxOf (L2.CX P wd) P wd K mg base N x (defScope st) f cdv A outer s H E).xe →
      SDs (cxOf (L2.CX P wd) P wd K mg base N x (defScope st) f cdv A outer s H E) ad (wOf ad E) rs G G' (defBody st) g)
    (hG : ((List.range n).all fun i => (G.lookup i).isNone) = true := by rfl) :
    FnOk P wd K mg base (L2.CX P wd) (k + 1) f fd ps (spD K ad n rs (runD m z g)) := by
  refine F.okX S (fun vs H Q E h => h.1.trans hn.symm) (fun cdv A outer s H vs Q E hr h => ?_)
  obtain ⟨hl, ex, ds, hex, ha, q⟩ := h
  obtain ⟨t, p, kk⟩ := body cdv A outer s H E hr ⟨fun cls d _ H => E cls d H, takes_of rfl rfl rfl rfl, fun c σ H h => h⟩ (passes_of rfl)
  refine ⟨t, p, ?_⟩
  have hpl : N.length - vs.length = m := by omega
  unfold L2.start
  rw [hpl]
  refine kk H ex (ds.map some ++ List.replicate m none) (vs.map some ++ List.replicate m none) H ex _ (Le.refl _ _) ⟨by simp [ha.length], hex, fun _ => [], fun i d e => ?_, fun _ => List.nodup_nil, fun _ _ _ _ z => absurd z (by simp), fun _ _ z => absurd z (by simp)⟩ ?_
  · obtain ⟨v, e1, h⟩ := ha.some_get (m' := m) e
    refine ⟨v, e1, ?_⟩
    have hi : i < n := by
      by_cases hi : i < ds.length
      · rw [← hl, ← ha.length]; exact hi
      · rw [List.getElem?_append_right (by simpa using hi), List.getElem?_replicate] at e
        split at e <;> cases e
    have hs : sh G i = .fz := by
      have := List.all_eq_true.mp hG i (List.mem_range.mpr hi)
      unfold sh
      cases e2 : G.lookup i with
      | none => rfl
      | some s => rw [e2] at this; cases this
    rw [hs]
    exact .fz h
  · unfold runD at q
    cases e : g (ds.map some ++ List.replicate m none) with
    | nx ρ1 =>
      rw [e] at q
      intro σ' H' ex' l _ _
      rcases hz with hz | ⟨hz, hr⟩
      · rw [hz] at q; exact q.elim
      · rw [hz] at q
        subst hr
        exact post_fz (d := .non) q l .non
    | rt d ρ1 => rw [e] at q; exact fun v σ' H' ex' fp l _ r nd nw _ _ => q v H' ex' fp l r nd nw
    | xc c ρ1 => rw [e] at q; exact fun σ' H' ex' l _ _ => q H' l.same
    | bad => rw [e] at q; exact q
theorem cal_mk {x : Str} {st : Stmt} {f : Addr} {fd : FuncData} {N ps : List Str} {k n : Nat} (m : Nat) {rs : Sh} (G : Shs) {G' : Shs} {z : R D} {g : Env → Out} (F : Fun K x x st f fd) (hm : mg x = some (.ref f)) (hb : Binds K fd ps []) (S : FnScope N ps (defScope st)) (hn : ps.length = n) (hN : N.length = n + m)
    (hz : z = .bad ∨ (z = .ok .non ∧ rs = .fz))
    (body : ∀ (cdv : Value) (A : Around) (outer : List PySem.Env) (s : Shared) (H : Hp) (E : XK), Room k (A.deeper (envOfC x (defScope st) s.heap.objs.size f cdv)) →
      Tk (cxOf (L2.CX P wd) P wd K mg base N x (defScope st) f cdv A outer s H E) ad (wOf ad E) → PassesOwn (model P wd) (A.deeper (envOfC x (defScope st) s.heap.objs.size f cdv)) (envOfC x (defScope st) s.heap.objs.size f cdv) (cxOf (L2.CX P wd) P wd K mg base N x (defScope st) f cdv A outer s H E).xe →
      SDs (cxOf (L2.CX P wd) P wd K mg base N x (defScope st) f cdv A outer s H E) ad (wOf ad E) rs G G' (defBody st) g)
    (hG : ((List.range n).all fun i => (G.lookup i).isNone) = true := by rfl) :
    Cal P wd K mg base ad (k + 1) x n rs (runD m z g) := ⟨f, fd, ps, fn_mk m G F S hn hN hz body hG, hm, F.kp, hb⟩
/-- .. with another function, where it tells something -/
theorem Cal.to {k n : Nat} {x : Str} {rs : Sh} {F F' : List D → R D} (c : Cal P wd K mg base ad k x n rs F) (h : ∀ ds, F' ds ≠ .bad → F ds = F' ds) : Cal P wd K mg base ad k x n rs F' := by
  obtain ⟨f, fd, ps, Fk, h1, h2, h3⟩ := c.ex
  refine ⟨f, fd, ps, Fk.imp fun vs H Q E ⟨hl, ex, ds, hex, ha, q⟩ => ⟨hl, ex, ds, hex, ha, ?_⟩, h1, h2, h3⟩
  rw [h ds]
  · exact q
  · intro z
    rw [z] at q
    exact q
theorem Cal.up {k k' n : Nat} {x : Str} {rs : Sh} {F : List D → R D} (c : Cal P wd K mg base ad k x n rs F) (h : k ≤ k') : Cal P wd K mg base ad k' x n rs F := by
  obtain ⟨f, fd, ps, Fk, h1, h2, h3⟩ := c.ex
  exact ⟨f, fd, ps, Fk.mono h, h1, h2, h3⟩
end

/-! ### operators -/
section
variable {X : Cx} {ad : Adr} {w : Wi} {G : Shs} {pos : Pos}
/-- ints by a rule -/
theorem dop_int {fn : Value → Value → Sem Value} {C : Int → Int → Prop} {g : Int → Int → Int} {c : Int → Int → Bool} (h : OpR X fn (rI C fun i j => .int (g i j))) (hc : ∀ i j, c i j = true → C i j) :
    DOp X ad fn .fz (fun d e => match d, e with | .int i, .int j => if c i j = true then .ok (.int (g i j)) else .bad | _, _ => .bad) := by
  refine ⟨_, h, fun x y d e H ex Q hx a b q => ?_⟩
  cases a <;> cases b <;> first | exact q.elim | skip
  rename_i i j
  dsimp only at q
  split at q
  · rename_i hh
    exact ⟨i, j, rfl, rfl, hc i j hh, post_fz q (Le.refl _ _) (.int _)⟩
  · exact q.elim
def oSub : D → D → R D
  | .int i, .int j => .ok (.int (i - j))
  | _, _ => .bad
theorem dop_sub : DOp X ad (binaryOp .Sub) .fz oSub := by
  refine ⟨_, op_sub, fun x y d e H ex Q hx a b q => ?_⟩
  cases a <;> cases b <;> first | exact q.elim | skip
  exact ⟨_, _, rfl, rfl, post_fz q (Le.refl _ _) (.int _)⟩
def oMod : D → D → R D
  | .int i, .int j => if 0 < j then .ok (.int (i % j)) else .bad
  | _, _ => .bad
theorem dop_mod : DOp X ad (binaryOp .Mod) .fz oMod := by
  refine ⟨_, op_mod, fun x y d e H ex Q hx a b q => ?_⟩
  cases a <;> cases b <;> first | exact q.elim | skip
  unfold oMod at q
  dsimp only at q
  split at q
  · rename_i hh
    exact ⟨_, _, rfl, rfl, hh, post_fz q (Le.refl _ _) (.int _)⟩
  · exact q.elim
def oDiv : D → D → R D
  | .int i, .int j => if 0 < j ∧ j.natAbs.log2 < 9000 then .ok (.int (i / j)) else .bad
  | _, _ => .bad
theorem dop_div : DOp X ad (binaryOp .FloorDiv) .fz oDiv := by
  refine ⟨_, op_fdivW, fun x y d e H ex Q hx a b q => ?_⟩
  cases a <;> cases b <;> first | exact q.elim | skip
  unfold oDiv at q
  dsimp only at q
  split at q
  · rename_i hh
    exact ⟨_, _, rfl, rfl, hh, post_fz q (Le.refl _ _) (.int _)⟩
  · exact q.elim
/-- an int by a def of the library: great powers -/
theorem op_powW : OpR X (binaryOp .Pow) (rI (fun i j => 0 ≤ j ∧ (Builtin.Int.intBits i : Int) * j ≤ 2 ^ 27) fun i j => .int (i ^ j.toNat)) := opI fun _ _ _ _ _ _ _ hc q => pow_int hc.1 hc.2 q
def oPow : D → D → R D
  | .int i, .int j => if 0 ≤ j ∧ (Builtin.Int.intBits i : Int) * j ≤ 2 ^ 27 then .ok (.int (i ^ j.toNat)) else .bad
  | _, _ => .bad
theorem dop_pow : DOp X ad (binaryOp .Pow) .fz oPow := by
  refine ⟨_, op_powW, fun x y d e H ex Q hx a b q => ?_⟩
  cases a <;> cases b <;> first | exact q.elim | skip
  unfold oPow at q
  dsimp only at q
  split at q
  · rename_i hh
    exact ⟨_, _, rfl, rfl, hh, post_fz q (Le.refl _ _) (.int _)⟩
  · exact q.elim
/-- list + list, wherever they stand -/
theorem op_catL : OpR X (binaryOp .Add) (fun x y H Q => ∃ l b xs zs, x = .ref l ∧ y = .ref b ∧ SqL X.K H l xs ∧ SqL X.K H b zs ∧ xs.length + zs.length ≤ sizeLine ∧ ∀ p, H p = none → Q (.ref p) (upd H p (.lst (xs ++ zs)))) := by
  intro pins s σ H x y v u Q I rx ry h
  obtain ⟨l, b, xs, zs, rfl, rfl, hH, hB, hz, q⟩ := h
  cases rx
  cases ry
  obtain ⟨its, r, ⟨⟨cls, dd, data, sl⟩, n, e, hc, hd, hs⟩, _⟩ := I.list hH
  obtain ⟨its2, r2, ⟨⟨cls2, dd2, data2, sl2⟩, n2, e2, hc2, hd2, hs2⟩, _⟩ := I.list hB
  simp only at hc hd hs hc2 hd2 hs2
  subst hc hd hs hc2 hd2 hs2
  have ez : its.toArray ++ its2.toArray = (its ++ its2).toArray := by simp
  refine concat_meets ⟨_, e, rfl⟩ ⟨_, e2, rfl⟩ noFill_list_add seq_list_add PySem.F.slot_list_add PySem.F.entry_list_add (PySem.F.args_list_add_2 _ _) (list_addW l b its.toArray its2.toArray n n2 none none sl sl2 (by rw [List.size_toArray, List.size_toArray, ← r.length, ← r2.length]; exact hz)) ⟨e, e2, ?_⟩
  rw [ez]
  refine ⟨.ref s.heap.objs.size, _, I.laid (t' := s.toks) (o := .lst (xs ++ zs)) (fun b o q => Heap.get?_push_of_some _ q) (Nat.le_refl _) ?_, rfl, q _ (I.hok.fresh (Nat.le_refl _))⟩
  exact ⟨by rw [List.length_append]; exact hz, _, 0, r.append r2, Heap.get?_push_size _ rfl⟩
def oAdd : D → D → R D
  | .int i, .int j => .ok (.int (i + j))
  | .str i, .str j => if i.length + j.length ≤ 16777216 then .ok (.str (i ++ j)) else .bad
  | .lst xs, .lst ys => if xs.length + ys.length ≤ 16777216 then .ok (.lst (xs ++ ys)) else .bad
  | .tup xs, .tup ys => if xs.length + ys.length ≤ 16777216 then .ok (.tup (xs ++ ys)) else .bad
  | _, _ => .bad
/-- a new list of things that are anybody's -/
theorem post_lst {K : PySem.W.Frag} {H : Hp} {ex : Own} {Q : VK} {ds : List D} {vs : List V} (q : Post K ad H ex (.own .fz) Q (.lst ds)) (h : Ats K ad (cut H ex) ds vs) (hz : vs.length ≤ sizeLine) (hex : ∀ b, ex b → ∃ o, H b = some o) {p : Addr} (hp : H p = none) : Q (.ref p) (upd H p (.lst vs)) := by
  have l : Le H ex (upd H p (.lst vs)) (plus ex p) := Le.own hp
  refine q _ _ (plus ex p) [p] l (.own (.inr rfl) upd_same hz (h.mono l.cuts).reps) (by simp) fun a z => ?_
  have z : a = p := by simpa using z
  subst z
  intro hx
  obtain ⟨o, e⟩ := hex a hx
  rw [hp] at e
  cases e
theorem post_lstF {K : PySem.W.Frag} {H : Hp} {ex : Own} {Q : VK} {ds : List D} {vs : List V} (q : Post K ad H ex .fz Q (.lst ds)) (h : Ats K ad (cut H ex) ds vs) (hz : vs.length ≤ sizeLine) (hex : ∀ b, ex b → ∃ o, H b = some o) {p : Addr} (hp : H p = none) : Q (.ref p) (upd H p (.lst vs)) := by
  have l : Le H ex (upd H p (.lst vs)) ex := Le.lay hp
  refine post_fz q l (.lst (SqL.of (cut_of (fun hx => ?_) upd_same)) hz (h.mono l.cuts))
  obtain ⟨o, e⟩ := hex p hx
  rw [hp] at e
  cases e
theorem post_tup {K : PySem.W.Frag} {H : Hp} {ex : Own} {Q : VK} {ds : List D} {vs : List V} (q : Post K ad H ex .fz Q (.tup ds)) (h : Ats K ad (cut H ex) ds vs) (hz : vs.length ≤ sizeLine) (hex : ∀ b, ex b → ∃ o, H b = some o) {p : Addr} (hp : H p = none) : Q (.ref p) (upd H p (.tup vs)) := by
  have l : Le H ex (upd H p (.tup vs)) ex := Le.lay hp
  refine post_fz q l (.tup (SqT.of (cut_of (fun hx => ?_) upd_same)) hz (h.mono l.cuts))
  obtain ⟨o, e⟩ := hex p hx
  rw [hp] at e
  cases e
end
end DL

set_option Elab.async false
set_option linter.all false
set_option maxRecDepth 100000
set_option maxHeartbeats 4000000
set_option autoImplicit false
/-! DL7: more operators, comparisons, displays, subscripts, built-in functions. -/
namespace DL
open PySem PySem.Spec PyProof.Rows L2
section
variable {X : Cx} {ad : Adr} {w : Wi} {G : Shs} {pos : Pos}
theorem sq16 {n : Nat} (h : n ≤ 16777216) : n ≤ sizeLine := by rw [sizeLine_eq]; exact h
theorem dop_add : DOp X ad (binaryOp .Add) .fz oAdd := by
  refine ⟨_, op_add.or (op_add_str.or (op_catL.or op_catA)), fun x y d e H ex Q hx a b q => ?_⟩
  cases a with
  | int i =>
    cases b <;> first | exact q.elim | exact .inl ⟨_, _, rfl, rfl, post_fz q (Le.refl _ _) (.int _)⟩
  | str i =>
    cases b <;> first | exact q.elim | skip
    unfold oAdd at q
    dsimp only at q
    split at q
    · rename_i hh
      exact .inr (.inl ⟨_, _, rfl, rfl, sq16 hh, post_fz q (Le.refl _ _) (.str _)⟩)
    · exact q.elim
  | lst h1 hz1 hs1 =>
    cases b <;> first | exact q.elim | skip
    rename_i h2 hz2 hs2
    unfold oAdd at q
    dsimp only at q
    split at q
    · rename_i hh
      rw [hs1.length, hs2.length] at hh
      refine .inr (.inr (.inl ⟨_, _, _, _, rfl, rfl, cut_same.seq h1, cut_same.seq h2, sq16 hh, fun p hp => ?_⟩))
      exact post_lstF q (hs1.append hs2) (by rw [List.length_append]; exact sq16 hh) hx hp
    · exact q.elim
  | tup h1 hz1 hs1 =>
    cases b <;> first | exact q.elim | skip
    rename_i h2 hz2 hs2
    unfold oAdd at q
    dsimp only at q
    split at q
    · rename_i hh
      have hh' := hh
      rw [hs1.length, hs2.length] at hh
      refine .inr (.inr (.inr ⟨_, _, _, _, rfl, rfl, seqT cut_same h1, seqT cut_same h2, sq16 hh, fun e => ?_, fun _ e => ?_, fun _ _ p hp => ?_⟩))
      · subst e
        cases hs1
        exact post_fz q (Le.refl _ _) (.tup h2 hz2 hs2)
      · subst e
        cases hs2
        rw [List.append_nil] at q
        exact post_fz q (Le.refl _ _) (.tup h1 hz1 hs1)
      · exact post_tup q (hs1.append hs2) (by rw [List.length_append]; exact sq16 hh) hx hp
    · exact q.elim
  | non => exact q.elim
  | bl b => exact q.elim
  | exc e h => exact q.elim
def oMul : D → D → R D
  | .int i, .int j => if i.natAbs.log2 + j.natAbs.log2 < 1000000 then .ok (.int (i * j)) else .bad
  | _, _ => .bad
theorem dop_mul : DOp X ad (binaryOp .Mult) .fz oMul := by
  refine ⟨_, op_mulW, fun x y d e H ex Q hx a b q => ?_⟩
  cases a <;> cases b <;> first | exact q.elim | skip
  unfold oMul at q
  dsimp only at q
  split at q
  · rename_i hh
    exact ⟨_, _, rfl, rfl, hh, post_fz q (Le.refl _ _) (.int _)⟩
  · exact q.elim
/-! comparisons -/
def oCmp (p : Int → Int → Bool) : D → D → R D
  | .int i, .int j => .ok (.bl (p i j))
  | _, _ => .bad
theorem dop_cmp {op : CmpOp} {p : Int → Int → Bool} (h : OpR X (compareOp op) (rI0 fun i j => .bl (p i j))) : DOp X ad (compareOp op) .fz (oCmp p) := by
  refine ⟨_, h, fun x y d e H ex Q hx a b q => ?_⟩
  cases a <;> cases b <;> first | exact q.elim | skip
  exact ⟨_, _, rfl, rfl, post_fz q (Le.refl _ _) (.bl _)⟩
abbrev oLt := oCmp fun i j => decide (i < j)
abbrev oLe := oCmp fun i j => decide (i ≤ j)
abbrev oGt := oCmp fun i j => decide (j < i)
abbrev oGe := oCmp fun i j => decide (j ≤ i)
theorem dop_lt : DOp X ad (compareOp .Lt) .fz oLt := dop_cmp op_lt
theorem dop_le : DOp X ad (compareOp .LtE) .fz oLe := dop_cmp op_le
theorem dop_gt : DOp X ad (compareOp .Gt) .fz oGt := dop_cmp op_gt
theorem dop_ge : DOp X ad (compareOp .GtE) .fz oGe := dop_cmp op_ge
theorem no_cmp {p : Int → Int → Bool} : ∀ d e c, oCmp p d e ≠ .exc c := by
  intro d e c z
  cases d <;> cases e <;> cases z
/-- rows of intL -/
def intL : List D → Option (List Int)
  | [] => some []
  | .int i :: ds => (intL ds).map (i :: ·)
  | _ => none
theorem ints_map (l : List Int) : intL (l.map .int) = some l := by
  induction l with
  | nil => rfl
  | cons i l ih =>
    show (intL (l.map .int)).map (i :: ·) = _
    rw [ih]
    rfl
theorem ints_of : ∀ {ds : List D} {ns : List Int}, intL ds = some ns → ds = ns.map .int
  | [], ns, h => by cases h; rfl
  | .int i :: ds, ns, h => by
    unfold intL at h
    cases e : intL ds with
    | none => rw [e] at h; cases h
    | some ms =>
      rw [e] at h
      cases h
      rw [ints_of e]
      rfl
  | .non :: _, _, h => by cases h
  | .bl _ :: _, _, h => by cases h
  | .str _ :: _, _, h => by cases h
  | .lst _ :: _, _, h => by cases h
  | .tup _ :: _, _, h => by cases h
  | .exc _ :: _, _, h => by cases h
theorem ats_ints {K : PySem.W.Frag} {H : Hp} : ∀ {ns : List Int} {vs : List V}, Ats K ad H (ns.map .int) vs → vs = ns.map .int
  | [], _, h => by cases h; rfl
  | n :: ns, _, h => by
    cases h with
    | cons h hs =>
      cases h
      rw [ats_ints hs]
      rfl
theorem ints_ats {K : PySem.W.Frag} {H : Hp} : ∀ (ns : List Int), Ats K ad H (ns.map .int) (ns.map .int)
  | [] => .nil
  | n :: ns => .cons (.int n) (ints_ats ns)
-- == of data
mutual
def toP : D → PyData
  | .non => .none
  | .bl b => .bool b
  | .int i => .int i
  | .str x => .str x
  | .lst xs => .list (toPs xs)
  | .tup xs => .tuple (toPs xs)
  | .exc _ => .dict []
def toPs : List D → List PyData
  | [] => []
  | d :: ds => toP d :: toPs ds
end
mutual
def noE : D → Bool
  | .lst xs => noEs xs
  | .tup xs => noEs xs
  | .exc _ => false
  | _ => true
def noEs : List D → Bool
  | [] => true
  | d :: ds => noE d && noEs ds
end
mutual
theorem At.dp {K : PySem.W.Frag} {H : Hp} : ∀ {d : D} {v : V}, At K ad H d v → noE d = true → Dp K H v (toP d)
  | _, _, .non, _ => .non
  | _, _, .bl b, _ => .bl b
  | _, _, .int i, _ => .int i
  | _, _, .str x, _ => .str x
  | _, _, .lst h _ hs, n => .lst h (Ats.dp hs n)
  | _, _, .tup h _ hs, n => .tup h (Ats.dp hs n)
  | _, _, .exc _ _, n => by cases n
theorem Ats.dp {K : PySem.W.Frag} {H : Hp} : ∀ {ds : List D} {vs : List V}, Ats K ad H ds vs → noEs ds = true → DpAll K H vs (toPs ds)
  | _, _, .nil, _ => .nil
  | _, _, .cons h hs, n => by
    unfold noEs at n
    rw [Bool.and_eq_true] at n
    exact .cons (At.dp h n.1) (Ats.dp hs n.2)
end
mutual
theorem Dp.mono {K : PySem.W.Frag} {H H' : Hp} (s : Same H H') : ∀ {v : V} {d : PyData}, Dp K H v d → Dp K H' v d
  | _, _, .non => .non
  | _, _, .bl b => .bl b
  | _, _, .int i => .int i
  | _, _, .str x => .str x
  | _, _, .lst h hs => .lst (s.seq h) (DpAll.mono s hs)
  | _, _, .tup h hs => .tup (seqT s h) (DpAll.mono s hs)
theorem DpAll.mono {K : PySem.W.Frag} {H H' : Hp} (s : Same H H') : ∀ {vs : List V} {ds : List PyData}, DpAll K H vs ds → DpAll K H' vs ds
  | _, _, .nil => .nil
  | _, _, .cons h hs => .cons (Dp.mono s h) (DpAll.mono s hs)
end
/-- may be compared -/
def okP (d : D) : Bool := noE d && SeqAt.shaped (toP d)
def deq (d e : D) : Bool := PyData.eqv (toP d) (toP e)
def oEq (d e : D) : R D := if okP d = true ∧ okP e = true then .ok (.bl (deq d e)) else .bad
def oNe (d e : D) : R D := if okP d = true ∧ okP e = true then .ok (.bl (!deq d e)) else .bad
theorem okP_dp {d : D} {K : PySem.W.Frag} {H : Hp} {ex : Own} {v : V} (h : okP d = true) (a : At K ad (cut H ex) d v) : Dp K H v (toP d) ∧ SeqAt.shaped (toP d) = true := by
  unfold okP at h
  rw [Bool.and_eq_true] at h
  exact ⟨Dp.mono cut_same (a.dp h.1), h.2⟩
theorem dop_eq (hu : X.A.units + 64 < cLine) : DOp X ad (compareOp .Eq) .fz oEq := by
  refine ⟨_, op_eqD hu, fun x y d e H ex Q hx a b q => ?_⟩
  unfold oEq at q
  split at q
  · rename_i hh
    have h1 := okP_dp hh.1 a
    have h2 := okP_dp hh.2 b
    exact ⟨_, _, h1.1, h2.1, h1.2, h2.2, post_fz q (Le.refl _ _) (.bl _)⟩
  · exact q.elim
theorem dop_ne (hu : X.A.units + 64 < cLine) : DOp X ad (compareOp .NotEq) .fz oNe := by
  refine ⟨_, op_neD hu, fun x y d e H ex Q hx a b q => ?_⟩
  unfold oNe at q
  split at q
  · rename_i hh
    have h1 := okP_dp hh.1 a
    have h2 := okP_dp hh.2 b
    exact ⟨_, _, h1.1, h2.1, h1.2, h2.2, post_fz q (Le.refl _ _) (.bl _)⟩
  · exact q.elim
theorem no_eq : ∀ d e c, oEq d e ≠ .exc c := by
  intro d e c z
  unfold oEq at z
  split at z <;> cases z
theorem no_ne : ∀ d e c, oNe d e ≠ .exc c := by
  intro d e c z
  unfold oNe at z
  split at z <;> cases z
/-- x in a list -/
def oIn (neg : Bool) (d e : D) : R D := match e with
  | .lst es => if okP d = true ∧ okP (.lst es) = true then .ok (.bl (if neg then !es.any (fun z => deq z d) else es.any (fun z => deq z d))) else .bad
  | _ => .bad
theorem toPs_map : ∀ es : List D, toPs es = es.map toP
  | [] => rfl
  | e :: es => by
    unfold toPs
    rw [toPs_map es]
    rfl
theorem dop_in (hu : X.A.units + 65 < cLine) : DOp X ad (compareOp .In) .fz (oIn false) := by
  refine ⟨_, op_inD hu, fun x y d e H ex Q hx a b q => ?_⟩
  unfold oIn at q
  split at q
  · rename_i es
    split at q
    · rename_i hh
      have h1 := okP_dp hh.1 a
      have h2 := okP_dp hh.2 b
      refine ⟨_, _, h1.1, h2.1, h1.2, h2.2, ?_⟩
      rw [toPs_map, List.any_map]
      exact post_fz q (Le.refl _ _) (.bl _)
    · exact q.elim
  · exact q.elim
theorem dop_notIn (hu : X.A.units + 65 < cLine) : DOp X ad (compareOp .NotIn) .fz (oIn true) := by
  refine ⟨_, op_notInD hu, fun x y d e H ex Q hx a b q => ?_⟩
  unfold oIn at q
  split at q
  · rename_i es
    split at q
    · rename_i hh
      have h1 := okP_dp hh.1 a
      have h2 := okP_dp hh.2 b
      refine ⟨_, _, h1.1, h2.1, h1.2, h2.2, ?_⟩
      rw [toPs_map, List.any_map]
      exact post_fz q (Le.refl _ _) (.bl _)
    · exact q.elim
  · exact q.elim
theorem no_in {neg : Bool} : ∀ d e c, oIn neg d e ≠ .exc c := by
  intro d e c z
  unfold oIn at z
  split at z
  · split at z <;> cases z
  · cases z
/-- is None -/
def isN : D → Bool
  | .non => true
  | _ => false
def oIs (d e : D) : R D := match e with
  | .non => .ok (.bl (isN d))
  | _ => .bad
def oIsNot (d e : D) : R D := match e with
  | .non => .ok (.bl (!isN d))
  | _ => .bad
theorem at_non {K : PySem.W.Frag} {H : Hp} {d : D} {v : V} (a : At K ad H d v) : decide (v = .non) = isN d := by
  cases a <;> rfl
theorem dop_is : DOp X ad (compareOp .Is) .fz oIs := by
  refine ⟨_, op_isN, fun x y d e H ex Q hx a b q => ?_⟩
  unfold oIs at q
  split at q
  · cases b
    refine ⟨rfl, ?_⟩
    rw [at_non a]
    exact post_fz q (Le.refl _ _) (.bl _)
  · exact q.elim
theorem dop_isNot : DOp X ad (compareOp .IsNot) .fz oIsNot := by
  refine ⟨_, op_notN, fun x y d e H ex Q hx a b q => ?_⟩
  unfold oIsNot at q
  split at q
  · cases b
    refine ⟨rfl, ?_⟩
    rw [at_non a]
    exact post_fz q (Le.refl _ _) (.bl _)
  · exact q.elim
theorem no_is : ∀ d e c, oIs d e ≠ .exc c := by
  intro d e c z
  unfold oIs at z
  split at z <;> cases z
theorem no_isNot : ∀ d e c, oIsNot d e ≠ .exc c := by
  intro d e c z
  unfold oIsNot at z
  split at z <;> cases z
def oNeg : D → R D
  | .int i => .ok (.int (-i))
  | _ => .bad
theorem dun_neg : DUn X ad (unaryOp .USub) oNeg := by
  refine ⟨_, un_neg, fun x d H ex Q hx a q => ?_⟩
  cases a <;> first | exact q.elim | exact ⟨_, rfl, post_fz q (Le.refl _ _) (.int _)⟩
theorem no_neg : ∀ d c, oNeg d ≠ .exc c := by
  intro d c z
  cases d <;> cases z
/-- a chain of two -/
def dChain (o o' : D → D → R D) (f g h : Env → R D) : Env → R D := fun ρ => (f ρ).bind fun x => (g ρ).bind fun y => (o x y).bind fun z => (asB z).bind fun b => if b = true then (h ρ).bind fun u => o' y u else .ok (.bl false)
theorem de_chain {op op' : CmpOp} {a b c : Expr} {f g h : Env → R D} {o o' : D → D → R D} (ho : DOp X ad (compareOp op) .fz o) (ho' : DOp X ad (compareOp op') .fz o') (ha : DE X ad w G a .fz f) (hb : DE X ad w G b .fz g) (hc : DE X ad w G c .fz h) (no : ∀ d e c, o d e ≠ .exc c) (no' : ∀ d e c, o' d e ≠ .exc c)
    (hm : lastMarks [op, op'] [b, c] = false := by with_unfolding_all rfl) : DE X ad w G (.Compare a [op, op'] [b, c] pos) .fz (dChain o o' f g h) := by
  obtain ⟨r, hr, kr⟩ := ho
  obtain ⟨r', hr', kr'⟩ := ho'
  obtain ⟨ta, pa, ka⟩ := ha
  obtain ⟨tb, pb, kb⟩ := hb
  obtain ⟨tc, pc, kc⟩ := hc
  refine ⟨_, pe_chain hr hr' pa pb pc hm, fun ex0 ρ σ H ex Q fr q => ?_⟩
  refine ka ex0 ρ σ H ex _ fr ?_
  unfold dChain at q
  rw [sat_bind] at q
  refine q.imp (fun d q v H1 ex1 fp l r1 _ _ => ?_) fun _ z => z
  have a1 := rep_fz r1
  refine kb ex0 ρ σ H1 ex1 _ (fr.mono l) ?_
  rw [sat_bind] at q
  refine q.imp (fun e q u H2 ex2 fp l2 r2 _ _ => ?_) fun _ z => z.mono l
  have a2 := rep_fz r2
  have f2 := (fr.mono l).mono l2
  refine kr v u d e H2 ex2 _ f2.exok (a1.mono l2.cuts) a2 ?_
  rw [sat_bind] at q
  cases hh : o d e with
  | exc c => exact absurd hh (no d e c)
  | bad => rw [hh] at q; exact q
  | ok y =>
    rw [hh] at q
    have q : Sat ((asB y).bind _) _ _ := q
    rw [sat_bind] at q
    show Post X.K ad H2 ex2 .fz _ y
    refine post_bv q fun bb H3 ex3 q l3 => ⟨bb, rfl, ?_⟩
    have lt := (l.trans l2).trans l3
    cases bb with
    | false =>
      rw [if_neg Bool.false_ne_true] at q ⊢
      exact post_fz q lt (.bl false)
    | true =>
      rw [if_pos rfl] at q ⊢
      refine kc ex0 ρ σ H3 ex3 _ (f2.mono l3) ?_
      rw [sat_bind] at q
      refine q.imp (fun z q v4 H4 ex4 fp4 l4 r4 _ _ => ?_) fun _ z => z.mono lt
      refine kr' u v4 e z H4 ex4 Q ((f2.mono l3).mono l4).exok (a2.mono (l3.trans l4).cuts) (rep_fz r4) ?_
      cases hh' : o' e z with
      | exc c => exact absurd hh' (no' e z c)
      | bad => rw [hh'] at q; exact q
      | ok y' =>
        rw [hh'] at q
        exact fun v H' ex' fp l5 r5 nd nw => q v H' ex' fp ((lt.trans l4).trans l5) r5 nd fun a z zz => nw a z ((lt.trans l4).keep a zz)

/-! ### displays -/
def dTup (f : Env → R (List D)) : Env → R D := fun ρ => (f ρ).bind fun ds => .ok (.tup ds)
def dLst (f : Env → R (List D)) : Env → R D := fun ρ => (f ρ).bind fun ds => .ok (.lst ds)
theorem de_tup {es : List Expr} {x1} {f : Env → R (List D)} {n : Nat} (h : DA X ad w G es f) (hn : ∀ ρ ds, f ρ = .ok ds → ds.length = n) (hz : n ≤ 16777216 := by decide) : DE X ad w G (.Tuple es x1 pos) .fz (dTup f) := by
  obtain ⟨t, p, k⟩ := h
  refine ⟨_, pe_tup p, fun ex0 ρ σ H ex Q fr q => ?_⟩
  refine k ex0 ρ σ H ex _ fr ?_
  unfold dTup at q
  rw [sat_bind] at q
  cases e : f ρ with
  | exc c => rw [e] at q; exact q
  | bad => rw [e] at q; exact q
  | ok ds =>
    rw [e] at q
    intro vs H1 ex1 l a
    have hl : vs.length ≤ sizeLine := by
      rw [← a.length, hn ρ ds e]
      exact sq16 hz
    refine ⟨hl, fun pp hp => ?_⟩
    have q : Post X.K ad H ex .fz Q (.tup ds) := q
    refine post_tup (ex := ex1) (fun v H' ex' fp l' r nd nw => q v H' ex' fp (l.trans l') r nd fun a z zz => nw a z (l.keep a zz)) a hl (fr.mono l).exok hp
theorem de_lst {es : List Expr} {f : Env → R (List D)} {n : Nat} (h : DA X ad w G es f) (hn : ∀ ρ ds, f ρ = .ok ds → ds.length = n) (hz : n ≤ 16777216 := by decide) : DE X ad w G (.List es pos) (.own .fz) (dLst f) := by
  obtain ⟨t, p, k⟩ := h
  refine ⟨_, pe_lst p, fun ex0 ρ σ H ex Q fr q => ?_⟩
  refine k ex0 ρ σ H ex _ fr ?_
  unfold dLst at q
  rw [sat_bind] at q
  cases e : f ρ with
  | exc c => rw [e] at q; exact q
  | bad => rw [e] at q; exact q
  | ok ds =>
    rw [e] at q
    intro vs H1 ex1 l a
    have hl : vs.length ≤ sizeLine := by
      rw [← a.length, hn ρ ds e]
      exact sq16 hz
    refine ⟨hl, fun pp hp => ?_⟩
    have q : Post X.K ad H ex (.own .fz) Q (.lst ds) := q
    refine post_lst (ex := ex1) (fun v H' ex' fp l' r nd nw => q v H' ex' fp (l.trans l') r nd fun a z zz => nw a z (l.keep a zz)) a hl (fr.mono l).exok hp
theorem cnt0 : ∀ (ρ : Env) ds, dNil ρ = .ok ds → ds.length = 0 := fun ρ ds h => by cases h; rfl
theorem cntS {f : Env → R D} {g : Env → R (List D)} {n : Nat} (h : ∀ ρ ds, g ρ = .ok ds → ds.length = n) : ∀ ρ ds, dCons f g ρ = .ok ds → ds.length = n + 1 := fun ρ ds e => by
  unfold dCons at e
  cases e1 : f ρ with
  | exc c => rw [e1] at e; cases e
  | bad => rw [e1] at e; cases e
  | ok d =>
    rw [e1, R.bind_ok] at e
    cases e2 : g ρ with
    | exc c => rw [e2] at e; cases e
    | bad => rw [e2] at e; cases e
    | ok ds' =>
      rw [e2] at e
      cases e
      rw [List.length_cons, h ρ ds' e2]

/-! ### subscripts -/
def getI (ds : List D) (k : Int) : R D := match atI ds k with
  | some d => .ok d
  | none => .bad
def oIx : D → D → R D
  | .lst ds, .int k => getI ds k
  | .tup ds, .int k => getI ds k
  | .str z, .int k => if 0 ≤ k ∧ k < z.length ∧ z.length ≤ 16777216 then (match z.cps.toList[k.toNat]? with | some c => .ok (.str ⟨#[c]⟩) | none => .bad) else .bad
  | _, _ => .bad
theorem atI_at {K : PySem.W.Frag} {H : Hp} {ds : List D} {vs : List V} (a : Ats K ad H ds vs) {k : Int} {d : D} (h : atI ds k = some d) : ∃ v, atI vs k = some v ∧ At K ad H d v := by
  unfold atI at h ⊢
  rw [a.length] at h
  cases e : ixN vs.length k with
  | none => rw [e] at h; cases h
  | some j =>
    rw [e] at h
    exact a.get h
theorem de_ix {a b : Expr} {f g : Env → R D} (ha : DE X ad w G a .fz f) (hb : DE X ad w G b .fz g) (hs : PlainIx b := by exact fun _ _ => rfl) : DE X ad w G (.Subscript a b pos) .fz (d2 oIx f g) := by
  obtain ⟨ta, pa, ka⟩ := ha
  obtain ⟨tb, pb, kb⟩ := hb
  refine ⟨_, pe_ix ix_seq pa pb hs, two_run (a := a) (b := b) ka kb (fun x y d e H ex Q hx h1 h2 q => ?_) ?_⟩
  · cases h1 with
    | lst h hz hs =>
      cases h2 <;> first | exact q.elim | skip
      unfold oIx getI at q
      dsimp only at q
      split at q
      · rename_i z e
        obtain ⟨v, e1, a1⟩ := atI_at hs e
        exact .inl ⟨_, _, _, v, rfl, rfl, cut_same.seq h, e1, post_fz q (Le.refl _ _) a1⟩
      · exact q.elim
    | tup h hz hs =>
      cases h2 <;> first | exact q.elim | skip
      unfold oIx getI at q
      dsimp only at q
      split at q
      · rename_i z e
        obtain ⟨v, e1, a1⟩ := atI_at hs e
        exact .inr (.inl ⟨_, _, _, v, rfl, rfl, seqT cut_same h, e1, post_fz q (Le.refl _ _) a1⟩)
      · exact q.elim
    | str z =>
      cases h2 <;> first | exact q.elim | skip
      unfold oIx at q
      dsimp only at q
      split at q
      · rename_i kk hk
        split at q
        · rename_i c e
          have e2 := atI_nat e
          rw [show ((kk.toNat : Nat) : Int) = kk by omega] at e2
          exact .inr (.inr ⟨z, _, c, rfl, rfl, sq16 hk.2.2, e2, post_fz q (Le.refl _ _) (.str _)⟩)
        · exact q.elim
      · exact q.elim
    | non => exact q.elim
    | bl b => exact q.elim
    | int i => exact q.elim
    | exc e h => exact q.elim
  · intro d e c z
    unfold oIx getI at z
    split at z <;> (try split at z) <;> (try split at z) <;> cases z
end
end DL

set_option Elab.async false
set_option linter.all false
set_option maxRecDepth 100000
set_option maxHeartbeats 4000000
set_option autoImplicit false
/-! DL8: things that are looked at where they stand (DU), lists with their items (DK); built-in functions over them. -/
namespace DL
open PySem PySem.Spec PyProof.Rows L2
/-- what follows: the value stands for d in the whole heap -/
def PostU (K : PySem.W.Frag) (ad : Adr) (H : Hp) (ex : Own) (Q : VK) (d : D) : Prop := ∀ v H' ex', Le H ex H' ex' → At K ad H' d v → Q v H'
def DU (X : Cx) (ad : Adr) (w : Wi) (G : Shs) (e : Expr) (f : Env → R D) : Prop :=
  ∃ t, PE X e t ∧ ∀ ex0 ρ σ H ex Q, Fra X.K ad G ex0 ρ σ H ex → Sat (f ρ) (PostU X.K ad H ex Q) (Exc w σ H ex) → t σ H Q
def DUA (X : Cx) (ad : Adr) (w : Wi) (G : Shs) (es : List Expr) (f : Env → R (List D)) : Prop :=
  ∃ t, PA X es t ∧ ∀ ex0 ρ σ H ex Q, Fra X.K ad G ex0 ρ σ H ex → Sat (f ρ) (fun ds => ∀ vs H' ex', Le H ex H' ex' → Ats X.K ad H' ds vs → Q vs H') (Exc w σ H ex) → t σ H Q
/-- a list whose items are anybody's -/
structure LsAt (K : PySem.W.Frag) (ad : Adr) (H : Hp) (ex : Own) (ds : List D) (v : V) : Prop where
  ex : ∃ a vs, v = .ref a ∧ SqL K H a vs ∧ vs.length ≤ sizeLine ∧ Ats K ad (cut H ex) ds vs
def DK (X : Cx) (ad : Adr) (w : Wi) (G : Shs) (e : Expr) (f : Env → R (List D)) : Prop :=
  ∃ t, PE X e t ∧ ∀ ex0 ρ σ H ex Q, Fra X.K ad G ex0 ρ σ H ex → Sat (f ρ) (fun ds => ∀ v H' ex', Le H ex H' ex' → LsAt X.K ad H' ex' ds v → Q v H') (Exc w σ H ex) → t σ H Q
section
variable {X : Cx} {ad : Adr} {w : Wi} {G : Shs} {pos : Pos}
theorem Rep.here {K : PySem.W.Frag} {H : Hp} {ex : Own} {s : Sh} {d : D} {v : V} {fp : List Addr} (r : Rep K ad H ex s d v fp) : At K ad H d v := r.at cut_same fun _ _ => rfl
theorem du_of {e : Expr} {s : Sh} {f : Env → R D} (h : DE X ad w G e s f) : DU X ad w G e f := by
  obtain ⟨t, p, k⟩ := h
  exact ⟨t, p, fun ex0 ρ σ H ex Q fr q => k ex0 ρ σ H ex Q fr (q.imp (fun d q v H' ex' fp l r _ _ => q v H' ex' l r.here) fun _ z => z)⟩
/-- the thing at a slot, whoever owns it -/
theorem du_var (i : Nat) {x : Str} (hN : X.N[i]? = some x := by rfl) (hv : Vis X.env.scope x := by first | exact Or.inl rfl | exact Or.inr (Or.inl rfl) | exact Or.inr (Or.inr rfl)) (hd : (x == ("__debug__" : Str)) = false := by decide)
    (hcd : (x == ("__classdict__" : Str)) = false := by decide) : DU X ad w G (.Name x pos) (dV i) := by
  refine ⟨_, pe_var hN hv hd hcd, fun ex0 ρ σ H ex Q fr q => ?_⟩
  unfold dV at q
  split at q
  · rename_i d e
    obtain ⟨fps, h1, _⟩ := fr.slots
    obtain ⟨v, e1, r⟩ := h1 i d e
    exact ⟨v, e1, q v H ex (Le.refl _ _) r.here⟩
  · exact q.elim
theorem dua_nil : DUA X ad w G [] dNil := ⟨_, pa_nil, fun _ _ _ _ _ _ _ q => q [] _ _ (Le.refl _ _) .nil⟩
theorem dua_cons {e : Expr} {es : List Expr} {f : Env → R D} {g : Env → R (List D)} (h : DU X ad w G e f) (h' : DUA X ad w G es g) (hs : starEach (e :: es) X.env = (false, eval e X.env) :: starEach es X.env := by rfl) : DUA X ad w G (e :: es) (dCons f g) := by
  obtain ⟨t, p, k⟩ := h
  obtain ⟨t', p', k'⟩ := h'
  refine ⟨_, pa_cons p p' hs, fun ex0 ρ σ H ex Q fr q => ?_⟩
  refine k ex0 ρ σ H ex _ fr ?_
  unfold dCons at q
  rw [sat_bind] at q
  refine q.imp (fun d q v H1 ex1 l a => ?_) fun _ z => z
  refine k' ex0 ρ σ H1 ex1 _ (fr.mono l) ?_
  rw [sat_bind] at q
  exact q.imp (fun ds q vs H2 ex2 l2 a2 => q (v :: vs) H2 ex2 (l.trans l2) (.cons (a.mono l2.same) a2)) fun _ z => z.mono l
def kL (f : Env → R D) : Env → R (List D) := fun ρ => (f ρ).bind isL
theorem dk_of {e : Expr} {s : Sh} {f : Env → R D} (h : DE X ad w G e s f) (hs : s = .fz ∨ s = .own .fz := by first | exact .inl rfl | exact .inr rfl) : DK X ad w G e (kL f) := by
  obtain ⟨t, p, k⟩ := h
  refine ⟨t, p, fun ex0 ρ σ H ex Q fr q => k ex0 ρ σ H ex Q fr ?_⟩
  unfold kL at q
  rw [sat_bind] at q
  refine q.imp (fun d q v H' ex' fp l r _ _ => ?_) fun _ z => z
  rcases hs with e | e
  · subst e
    have a := rep_fz r
    cases a with
    | lst h hz hs => exact q _ H' ex' l ⟨_, _, rfl, cut_same.seq h, hz, hs⟩
    | _ => exact q.elim
  · subst e
    cases r with
    | flt z _ => cases d <;> first | exact q.elim | cases z
    | own h1 h2 hz hs => exact q _ H' ex' l ⟨_, _, rfl, SqL.of h2, hz, hs.fzs.2⟩
theorem dk_own (i : Nat) {x : Str} (hN : X.N[i]? = some x := by rfl) (hg : ownL (sh G i) = true := by rfl) (hv : Vis X.env.scope x := by first | exact Or.inl rfl | exact Or.inr (Or.inl rfl) | exact Or.inr (Or.inr rfl)) (hd : (x == ("__debug__" : Str)) = false := by decide)
    (hcd : (x == ("__classdict__" : Str)) = false := by decide) : DK X ad w G (.Name x pos) (kL (dV i)) := by
  refine ⟨_, pe_var hN hv hd hcd, fun ex0 ρ σ H ex Q fr q => ?_⟩
  unfold kL at q
  cases e1 : (dV i ρ).bind isL with
  | exc c =>
    rw [e1] at q
    unfold dV at e1
    split at e1
    · rename_i d _
      cases d <;> cases e1
    · cases e1
  | bad => rw [e1] at q; exact q.elim
  | ok xs =>
    rw [e1] at q
    obtain ⟨a, vs, ds, ed, eσ, hex, hn, hH, hz, hA, _⟩ := fr.own (slot_own e1) hg
    cases ed
    exact ⟨_, eσ, q _ H ex (Le.refl _ _) ⟨a, vs, rfl, SqL.of hH, hz, hA⟩⟩

/-! ### flat results -/
/-- d stands by itself -/
def Fl (ad : Adr) (d : D) (v : V) : Prop := ∀ (K : PySem.W.Frag) (H : Hp), At K ad H d v
theorem fl_int {i : Int} : Fl ad (.int i) (.int i) := fun _ _ => .int i
theorem fl_bl {b : Bool} : Fl ad (.bl b) (.bl b) := fun _ _ => .bl b
theorem fl_str {x : Str} : Fl ad (.str x) (.str x) := fun _ _ => .str x
theorem fl_non : Fl ad .non .non := fun _ _ => .non
/-- a built-in by values, its answer flat -/
def DCu (X : Cx) (ad : Adr) (fv : Value) (o : List D → R D) : Prop :=
  ∃ r, CallR X fv r ∧ ∀ vs ds H Q, Ats X.K ad H ds vs → Sat (o ds) (fun d => ∀ v, Fl ad d v → Q v H) (fun _ => False) → r vs H Q
def NoX (o : List D → R D) : Prop := ∀ ds c, o ds ≠ .exc c
theorem de_callBu {x : Str} {p : Pos} {id : String} {o : List D → R D} {e : Expr} {es : List Expr} {f : Env → R (List D)} (c : DCu X ad (.builtin id) o) (no : NoX o) (hv : bootBuiltins x = some (.builtin id)) (ha : DUA X ad w G (e :: es) f) (hm : X.mg x = none := by assumption) (hg : Gl X x := by rfl)
    (hn : x ≠ "__name__" := by decide) (hdb : (x == ("__debug__" : Str)) = false := by decide)
    (he : starEach (e :: es) X.env = (false, eval e X.env) :: starEach es X.env := by rfl) (hpl : (backTo pos (starEach es X.env)).any (·.1) = false := by rfl) : DE X ad w G (.Call (.Name x p) (e :: es) [] pos) .fz (dCall o f) := by
  obtain ⟨r, hr, kr⟩ := c
  obtain ⟨t, pa, ka⟩ := ha
  refine ⟨_, pe_callB hr hg hm hv pa hn hdb he hpl, fun ex0 ρ σ H ex Q fr q => ?_⟩
  refine ka ex0 ρ σ H ex _ fr ?_
  unfold dCall at q
  rw [sat_bind] at q
  refine q.imp (fun ds q vs H1 ex1 l a => kr vs ds H1 Q a ?_) fun _ z => z
  cases hh : o ds with
  | exc c => exact absurd hh (no ds c)
  | bad => rw [hh] at q; exact q
  | ok d => rw [hh] at q; exact fun v fl => post_fz q l (fl _ _)
theorem de_callTu {x : Str} {p : Pos} {T : String} {o : List D → R D} {e : Expr} {es : List Expr} {f : Env → R (List D)} (c : DCu X ad (.type T) o) (no : NoX o) (hv : bootBuiltins x = some (.type T)) (ha : DUA X ad w G (e :: es) f) (hm : X.mg x = none := by assumption) (hg : Gl X x := by rfl)
    (hn : x ≠ "__name__" := by decide) (hdb : (x == ("__debug__" : Str)) = false := by decide)
    (he : starEach (e :: es) X.env = (false, eval e X.env) :: starEach es X.env := by rfl) (hpl : (backTo pos (starEach es X.env)).any (·.1) = false := by rfl) : DE X ad w G (.Call (.Name x p) (e :: es) [] pos) .fz (dCall o f) := by
  obtain ⟨r, hr, kr⟩ := c
  obtain ⟨t, pa, ka⟩ := ha
  refine ⟨_, pe_callTy hr hg hm hv pa hn hdb he hpl, fun ex0 ρ σ H ex Q fr q => ?_⟩
  refine ka ex0 ρ σ H ex _ fr ?_
  unfold dCall at q
  rw [sat_bind] at q
  refine q.imp (fun ds q vs H1 ex1 l a => kr vs ds H1 Q a ?_) fun _ z => z
  cases hh : o ds with
  | exc c => exact absurd hh (no ds c)
  | bad => rw [hh] at q; exact q
  | ok d => rw [hh] at q; exact fun v fl => post_fz q l (fl _ _)
def oLen : List D → R D
  | [.lst ds] => .ok (.int ds.length)
  | [.tup ds] => .ok (.int ds.length)
  | [.str z] => if z.length ≤ 16777216 then .ok (.int z.length) else .bad
  | _ => .bad
theorem dcu_len : DCu X ad (.builtin "len") oLen := by
  refine ⟨_, call_len, fun vs ds H Q a q => ?_⟩
  unfold oLen at q
  split at q
  · obtain ⟨v, rfl, a1⟩ := a.one
    cases a1 with
    | lst h hz hs => exact ⟨_, _, rfl, .inl ⟨_, h, rfl⟩, by rw [← hs.length]; exact q _ fl_int⟩
  · obtain ⟨v, rfl, a1⟩ := a.one
    cases a1 with
    | tup h hz hs => exact ⟨_, _, rfl, .inr ⟨_, h, rfl⟩, by rw [← hs.length]; exact q _ fl_int⟩
  · obtain ⟨v, rfl, a1⟩ := a.one
    cases a1
    split at q
    · rename_i hh
      exact ⟨_, _, rfl, ⟨sq16 hh, rfl⟩, q _ fl_int⟩
    · exact q.elim
  · exact q.elim
theorem nox_len : NoX oLen := by
  intro ds c z
  unfold oLen at z
  split at z <;> (try split at z) <;> cases z
/-- lists of ints, of bools -/
def bools : List D → Option (List Bool)
  | [] => some []
  | .bl b :: ds => (bools ds).map (b :: ·)
  | _ => none
theorem bools_of : ∀ {ds : List D} {bs : List Bool}, bools ds = some bs → ds = bs.map .bl
  | [], bs, h => by cases h; rfl
  | .bl i :: ds, bs, h => by
    unfold bools at h
    cases e : bools ds with
    | none => rw [e] at h; cases h
    | some ms =>
      rw [e] at h
      cases h
      rw [bools_of e]
      rfl
  | .non :: _, _, h => by cases h
  | .int _ :: _, _, h => by cases h
  | .str _ :: _, _, h => by cases h
  | .lst _ :: _, _, h => by cases h
  | .tup _ :: _, _, h => by cases h
  | .exc _ :: _, _, h => by cases h
theorem bools_map (l : List Bool) : bools (l.map .bl) = some l := by
  induction l with
  | nil => rfl
  | cons i l ih =>
    show (bools (l.map .bl)).map (i :: ·) = _
    rw [ih]
    rfl
theorem ats_bools {K : PySem.W.Frag} {H : Hp} : ∀ {bs : List Bool} {vs : List V}, Ats K ad H (bs.map .bl) vs → vs = bs.map .bl
  | [], _, h => by cases h; rfl
  | n :: ns, _, h => by
    cases h with
    | cons h hs =>
      cases h
      rw [ats_bools hs]
      rfl
def oAll : List D → R D
  | [.lst ds] => match bools ds with | some bs => .ok (.bl (bs.all id)) | none => .bad
  | _ => .bad
def oAny : List D → R D
  | [.lst ds] => match bools ds with | some bs => .ok (.bl (bs.any id)) | none => .bad
  | _ => .bad
theorem dcu_all (hc : X.calm = true) : DCu X ad (.builtin "all") oAll := by
  refine ⟨_, cr_all hc, fun vs ds H Q a q => ?_⟩
  unfold oAll at q
  split at q
  · obtain ⟨v, rfl, a1⟩ := a.one
    cases a1 with
    | lst h hz hs =>
      split at q
      · rename_i bs e
        have e2 := bools_of e
        subst e2
        rw [ats_bools hs] at h
        exact ⟨_, bs, rfl, h, q _ fl_bl⟩
      · exact q.elim
  · exact q.elim
theorem dcu_any (hc : X.calm = true) : DCu X ad (.builtin "any") oAny := by
  refine ⟨_, cr_any hc, fun vs ds H Q a q => ?_⟩
  unfold oAny at q
  split at q
  · obtain ⟨v, rfl, a1⟩ := a.one
    cases a1 with
    | lst h hz hs =>
      split at q
      · rename_i bs e
        have e2 := bools_of e
        subst e2
        rw [ats_bools hs] at h
        exact ⟨_, bs, rfl, h, q _ fl_bl⟩
      · exact q.elim
  · exact q.elim
theorem nox_all : NoX oAll := by
  intro ds c z
  unfold oAll at z
  split at z <;> (try split at z) <;> cases z
theorem nox_any : NoX oAny := by
  intro ds c z
  unfold oAny at z
  split at z <;> (try split at z) <;> cases z
def oSum : List D → R D
  | [.lst ds] => match intL ds with | some ns => .ok (.int ns.sum) | none => .bad
  | _ => .bad
theorem dcu_sum (hc : X.calm = true) : DCu X ad (.builtin "sum") oSum := by
  refine ⟨_, cr_sum hc, fun vs ds H Q a q => ?_⟩
  unfold oSum at q
  split at q
  · obtain ⟨v, rfl, a1⟩ := a.one
    cases a1 with
    | lst h hz hs =>
      split at q
      · rename_i bs e
        have e2 := ints_of e
        subst e2
        rw [ats_ints hs] at h
        exact ⟨_, bs, rfl, h, q _ fl_int⟩
      · exact q.elim
  · exact q.elim
theorem nox_sum : NoX oSum := by
  intro ds c z
  unfold oSum at z
  split at z <;> (try split at z) <;> cases z
/-- the greatest, the least -/
def maxL : List Int → Int
  | [] => 0
  | [n] => n
  | n :: ns => if maxL ns > n then maxL ns else n
def minL : List Int → Int
  | [] => 0
  | [n] => n
  | n :: ns => if minL ns < n then minL ns else n
theorem maxL_mem : ∀ {ns : List Int}, ns ≠ [] → maxL ns ∈ ns ∧ ∀ y ∈ ns, y ≤ maxL ns
  | [], h => absurd rfl h
  | [n], _ => by simp [maxL]
  | n :: m :: ns, _ => by
    have ih := maxL_mem (ns := m :: ns) (by simp)
    unfold maxL
    split
    · rename_i hh
      refine ⟨List.mem_cons_of_mem _ ih.1, fun y hy => ?_⟩
      rcases List.mem_cons.mp hy with e | e
      · subst e; omega
      · exact ih.2 y e
    · rename_i hh
      refine ⟨List.mem_cons_self, fun y hy => ?_⟩
      rcases List.mem_cons.mp hy with e | e
      · omega
      · have := ih.2 y e
        omega
theorem minL_mem : ∀ {ns : List Int}, ns ≠ [] → minL ns ∈ ns ∧ ∀ y ∈ ns, minL ns ≤ y
  | [], h => absurd rfl h
  | [n], _ => by simp [minL]
  | n :: m :: ns, _ => by
    have ih := minL_mem (ns := m :: ns) (by simp)
    unfold minL
    split
    · rename_i hh
      refine ⟨List.mem_cons_of_mem _ ih.1, fun y hy => ?_⟩
      rcases List.mem_cons.mp hy with e | e
      · subst e; omega
      · exact ih.2 y e
    · rename_i hh
      refine ⟨List.mem_cons_self, fun y hy => ?_⟩
      rcases List.mem_cons.mp hy with e | e
      · omega
      · have := ih.2 y e
        omega
def oMax : List D → R D
  | [.int i, .int j] => .ok (.int (if j > i then j else i))
  | [.lst ds] => match intL ds with | some [] => .bad | some ns => .ok (.int (maxL ns)) | none => .bad
  | _ => .bad
def oMin : List D → R D
  | [.int i, .int j] => .ok (.int (if j < i then j else i))
  | [.lst ds] => match intL ds with | some [] => .bad | some ns => .ok (.int (minL ns)) | none => .bad
  | _ => .bad
theorem dcu_max (hc : X.calm = true) : DCu X ad (.builtin "max") oMax := by
  refine ⟨_, (call_max2 hc).or (cr_max hc), fun vs ds H Q a q => ?_⟩
  unfold oMax at q
  split at q
  · obtain ⟨v, u, rfl, a1, a2⟩ := a.two
    cases a1
    cases a2
    exact .inl ⟨_, _, rfl, q _ fl_int⟩
  · obtain ⟨v, rfl, a1⟩ := a.one
    cases a1 with
    | lst h hz hs =>
      split at q
      · exact q.elim
      · rename_i ns hne e
        have e2 := ints_of e
        subst e2
        rw [ats_ints hs] at h
        have hn : ns ≠ [] := hne
        refine .inr ⟨_, ns, rfl, h, List.length_pos_iff.mpr hn, fun m h1 h2 => ?_⟩
        have := maxL_mem hn
        have hm : m = maxL ns := by
          have h3 := this.2 m h1
          have h4 := h2 _ this.1
          omega
        rw [hm]
        exact q _ fl_int
      · exact q.elim
  · exact q.elim
theorem dcu_min (hc : X.calm = true) : DCu X ad (.builtin "min") oMin := by
  refine ⟨_, (call_min2 hc).or (cr_min hc), fun vs ds H Q a q => ?_⟩
  unfold oMin at q
  split at q
  · obtain ⟨v, u, rfl, a1, a2⟩ := a.two
    cases a1
    cases a2
    exact .inl ⟨_, _, rfl, q _ fl_int⟩
  · obtain ⟨v, rfl, a1⟩ := a.one
    cases a1 with
    | lst h hz hs =>
      split at q
      · exact q.elim
      · rename_i ns hne e
        have e2 := ints_of e
        subst e2
        rw [ats_ints hs] at h
        have hn : ns ≠ [] := hne
        refine .inr ⟨_, ns, rfl, h, List.length_pos_iff.mpr hn, fun m h1 h2 => ?_⟩
        have := minL_mem hn
        have hm : m = minL ns := by
          have h3 := this.2 m h1
          have h4 := h2 _ this.1
          omega
        rw [hm]
        exact q _ fl_int
      · exact q.elim
  · exact q.elim
theorem nox_min : NoX oMin := by
  intro ds c z
  unfold oMin at z
  split at z <;> (try split at z) <;> cases z
theorem nox_max : NoX oMax := by
  intro ds c z
  unfold oMax at z
  split at z <;> (try split at z) <;> cases z
def oAbs : List D → R D
  | [.int i] => .ok (.int (if i < 0 then -i else i))
  | _ => .bad
theorem dcu_abs : DCu X ad (.builtin "abs") oAbs := by
  refine ⟨_, call_abs, fun vs ds H Q a q => ?_⟩
  unfold oAbs at q
  split at q
  · obtain ⟨v, rfl, a1⟩ := a.one
    cases a1
    exact ⟨_, rfl, q _ fl_int⟩
  · exact q.elim
theorem nox_abs : NoX oAbs := by
  intro ds c z
  unfold oAbs at z
  split at z <;> cases z
def oInt : List D → R D
  | [.int i] => .ok (.int i)
  | [.bl b] => .ok (.int (if b = true then 1 else 0))
  | [.str a] => if a.length ≤ 640 then (match PySem.intText? a with | some n => .ok (.int n) | none => .bad) else .bad
  | _ => .bad
theorem dcu_int : DCu X ad (.type "int") oInt := by
  refine ⟨_, call_int1.or call_int_str, fun vs ds H Q a q => ?_⟩
  unfold oInt at q
  split at q
  · obtain ⟨v, rfl, a1⟩ := a.one
    cases a1
    exact .inl (.inl ⟨_, rfl, q _ fl_int⟩)
  · obtain ⟨v, rfl, a1⟩ := a.one
    cases a1
    exact .inl (.inr ⟨_, rfl, q _ fl_int⟩)
  · obtain ⟨v, rfl, a1⟩ := a.one
    cases a1
    split at q
    · rename_i hh
      split at q
      · rename_i n e
        exact .inr ⟨_, n, rfl, e, hh, q _ fl_int⟩
      · exact q.elim
    · exact q.elim
  · exact q.elim
theorem nox_int : NoX oInt := by
  intro ds c z
  unfold oInt at z
  split at z <;> (try split at z) <;> (try split at z) <;> cases z

/-! ### comparisons of things wherever they stand -/
def DOu (X : Cx) (ad : Adr) (fn : Value → Value → Sem Value) (o : D → D → R D) : Prop :=
  ∃ r, OpR X fn r ∧ ∀ x y d e H Q, At X.K ad H d x → At X.K ad H e y → Sat (o d e) (fun z => ∀ v, Fl ad z v → Q v H) (fun _ => False) → r x y H Q
theorem okP_dpU {d : D} {K : PySem.W.Frag} {H : Hp} {v : V} (h : okP d = true) (a : At K ad H d v) : Dp K H v (toP d) ∧ SeqAt.shaped (toP d) = true := by
  unfold okP at h
  rw [Bool.and_eq_true] at h
  exact ⟨a.dp h.1, h.2⟩
theorem dou_eq (hu : X.A.units + 64 < cLine) : DOu X ad (compareOp .Eq) oEq := by
  refine ⟨_, op_eqD hu, fun x y d e H Q a b q => ?_⟩
  unfold oEq at q
  split at q
  · rename_i hh
    have h1 := okP_dpU hh.1 a
    have h2 := okP_dpU hh.2 b
    exact ⟨_, _, h1.1, h2.1, h1.2, h2.2, q _ fl_bl⟩
  · exact q.elim
theorem dou_ne (hu : X.A.units + 64 < cLine) : DOu X ad (compareOp .NotEq) oNe := by
  refine ⟨_, op_neD hu, fun x y d e H Q a b q => ?_⟩
  unfold oNe at q
  split at q
  · rename_i hh
    have h1 := okP_dpU hh.1 a
    have h2 := okP_dpU hh.2 b
    exact ⟨_, _, h1.1, h2.1, h1.2, h2.2, q _ fl_bl⟩
  · exact q.elim
theorem dou_in (hu : X.A.units + 65 < cLine) : DOu X ad (compareOp .In) (oIn false) := by
  refine ⟨_, op_inD hu, fun x y d e H Q a b q => ?_⟩
  unfold oIn at q
  split at q
  · split at q
    · rename_i hh
      have h1 := okP_dpU hh.1 a
      have h2 := okP_dpU hh.2 b
      refine ⟨_, _, h1.1, h2.1, h1.2, h2.2, ?_⟩
      rw [toPs_map, List.any_map]
      exact q _ fl_bl
    · exact q.elim
  · exact q.elim
theorem dou_notIn (hu : X.A.units + 65 < cLine) : DOu X ad (compareOp .NotIn) (oIn true) := by
  refine ⟨_, op_notInD hu, fun x y d e H Q a b q => ?_⟩
  unfold oIn at q
  split at q
  · split at q
    · rename_i hh
      have h1 := okP_dpU hh.1 a
      have h2 := okP_dpU hh.2 b
      refine ⟨_, _, h1.1, h2.1, h1.2, h2.2, ?_⟩
      rw [toPs_map, List.any_map]
      exact q _ fl_bl
    · exact q.elim
  · exact q.elim
theorem twoU {a b : Expr} {f g : Env → R D} {ta tb : TE} {r : R2} {o : D → D → R D}
    (ka : ∀ ex0 ρ σ H ex Q, Fra X.K ad G ex0 ρ σ H ex → Sat (f ρ) (PostU X.K ad H ex Q) (Exc w σ H ex) → ta σ H Q)
    (kb : ∀ ex0 ρ σ H ex Q, Fra X.K ad G ex0 ρ σ H ex → Sat (g ρ) (PostU X.K ad H ex Q) (Exc w σ H ex) → tb σ H Q)
    (kr : ∀ x y d e H Q, At X.K ad H d x → At X.K ad H e y → Sat (o d e) (fun z => ∀ v, Fl ad z v → Q v H) (fun _ => False) → r x y H Q)
    (no : ∀ d e c, o d e ≠ .exc c) : ∀ ex0 ρ σ H ex Q, Fra X.K ad G ex0 ρ σ H ex → Sat (d2 o f g ρ) (Post X.K ad H ex .fz Q) (Exc w σ H ex) → tOp r ta tb σ H Q := by
  intro ex0 ρ σ H ex Q fr q
  refine ka ex0 ρ σ H ex _ fr ?_
  unfold d2 at q
  rw [sat_bind] at q
  refine q.imp (fun d q v H1 ex1 l a1 => ?_) fun _ z => z
  refine kb ex0 ρ σ H1 ex1 _ (fr.mono l) ?_
  rw [sat_bind] at q
  refine q.imp (fun e q u H2 ex2 l2 a2 => ?_) fun _ z => z.mono l
  refine kr v u d e H2 Q (a1.mono l2.same) a2 ?_
  cases hh : o d e with
  | ok y => rw [hh] at q; exact fun v fl => post_fz q (l.trans l2) (fl _ _)
  | exc c => exact absurd hh (no d e c)
  | bad => rw [hh] at q; exact q
theorem de_cmpU {op : CmpOp} {a b : Expr} {f g : Env → R D} {o : D → D → R D} (ho : DOu X ad (compareOp op) o) (ha : DU X ad w G a f) (hb : DU X ad w G b g) (hm : behindInMarks op b = false) (no : ∀ d e c, o d e ≠ .exc c) :
    DE X ad w G (.Compare a [op] [b] pos) .fz (d2 o f g) := by
  obtain ⟨r, hr, kr⟩ := ho
  obtain ⟨ta, pa, ka⟩ := ha
  obtain ⟨tb, pb, kb⟩ := hb
  exact ⟨_, pe_cmpR hr pa pb hm, twoU (a := a) (b := b) ka kb kr no⟩
theorem dt_cmpU {op : CmpOp} {a b : Expr} {f g : Env → R D} {o : D → D → R D} (ho : DOu X ad (compareOp op) o) (ha : DU X ad w G a f) (hb : DU X ad w G b g) (hm : behindInMarks op b = false) (no : ∀ d e c, o d e ≠ .exc c) :
    DT X ad w G (.Compare a [op] [b] pos) (dB (d2 o f g)) := by
  obtain ⟨r, hr, kr⟩ := ho
  obtain ⟨ta, pa, ka⟩ := ha
  obtain ⟨tb, pb, kb⟩ := hb
  refine ⟨_, pt_cmpR hr pa pb hm, fun ex0 ρ σ H ex Q fr q => ?_⟩
  refine twoU (a := a) (b := b) ka kb kr no ex0 ρ σ H ex _ fr ?_
  unfold dB at q
  rw [sat_bind] at q
  exact q.imp (fun d h => post_b h) fun _ z => z

/-! ### lists with their items -/
def oL (o : List D → R D) (f : Env → R (List D)) : Env → R D := fun ρ => (f ρ).bind o
theorem da_k {e : Expr} {f : Env → R (List D)} (h : DK X ad w G e f) (hs : starEach (e :: []) X.env = (false, eval e X.env) :: starEach [] X.env := by rfl) :
    ∃ t, PA X [e] t ∧ ∀ ex0 ρ σ H ex Q, Fra X.K ad G ex0 ρ σ H ex → Sat (f ρ) (fun ds => ∀ v H' ex', Le H ex H' ex' → LsAt X.K ad H' ex' ds v → Q [v] H') (Exc w σ H ex) → t σ H Q := by
  obtain ⟨t, p, k⟩ := h
  refine ⟨_, pa_cons p pa_nil hs, fun ex0 ρ σ H ex Q fr q => k ex0 ρ σ H ex _ fr q⟩
/-- tuple(x) of a list -/
theorem de_tupleL {p : Pos} {e : Expr} {f : Env → R (List D)} (h : DK X ad w G e f) (hm : X.mg "tuple" = none := by assumption) (hg : Gl X "tuple" := by rfl) (hs : starEach [e] X.env = (false, eval e X.env) :: starEach [] X.env := by rfl) (hpl : (backTo pos (starEach [] X.env)).any (·.1) = false := by rfl) :
    DE X ad w G (.Call (.Name "tuple" p) [e] [] pos) .fz (oL (fun ds => .ok (.tup ds)) f) := by
  obtain ⟨t, pa, k⟩ := da_k h hs
  refine ⟨_, pe_callTy call_tuple_of hg hm PyProof.Rows.boot_tuple pa (by decide) (by decide) hs hpl, fun ex0 ρ σ H ex Q fr q => ?_⟩
  refine k ex0 ρ σ H ex _ fr ?_
  unfold oL at q
  rw [sat_bind] at q
  refine q.imp (fun ds q v H1 ex1 l ⟨a, vs, e1, hq, hz, hA⟩ => ?_) fun _ z => z
  subst e1
  refine ⟨a, vs, rfl, .inl ⟨hq, fun pp hp => ?_⟩⟩
  have q : Post X.K ad H ex .fz Q (.tup ds) := q
  exact post_tup (ex := ex1) (fun v H' ex' fp l' r nd nw => q v H' ex' fp (l.trans l') r nd fun a z zz => nw a z (l.keep a zz)) hA hz (fr.mono l).exok hp
/-- list(x) of a list -/
theorem de_listL {p : Pos} {e : Expr} {f : Env → R (List D)} (h : DK X ad w G e f) (hm : X.mg "list" = none := by assumption) (hg : Gl X "list" := by rfl) (hs : starEach [e] X.env = (false, eval e X.env) :: starEach [] X.env := by rfl) (hpl : (backTo pos (starEach [] X.env)).any (·.1) = false := by rfl) :
    DE X ad w G (.Call (.Name "list" p) [e] [] pos) (.own .fz) (oL (fun ds => .ok (.lst ds)) f) := by
  obtain ⟨t, pa, k⟩ := da_k h hs
  refine ⟨_, pe_callTy call_list_of hg hm PyProof.Rows.boot_list pa (by decide) (by decide) hs hpl, fun ex0 ρ σ H ex Q fr q => ?_⟩
  refine k ex0 ρ σ H ex _ fr ?_
  unfold oL at q
  rw [sat_bind] at q
  refine q.imp (fun ds q v H1 ex1 l ⟨a, vs, e1, hq, hz, hA⟩ => ?_) fun _ z => z
  subst e1
  refine ⟨a, vs, rfl, .inl hq, fun pp hp => ?_⟩
  have q : Post X.K ad H ex (.own .fz) Q (.lst ds) := q
  exact post_lst (ex := ex1) (fun v H' ex' fp l' r nd nw => q v H' ex' fp (l.trans l') r nd fun a z zz => nw a z (l.keep a zz)) hA hz (fr.mono l).exok hp
/-- x[k] of a list -/
def ixK (f : Env → R (List D)) (g : Env → R D) : Env → R D := fun ρ => (f ρ).bind fun ds => (g ρ).bind fun k => match k with
  | .int k => getI ds k
  | _ => .bad
theorem de_ixK {a b : Expr} {f : Env → R (List D)} {g : Env → R D} (ha : DK X ad w G a f) (hb : DE X ad w G b .fz g) (hs : PlainIx b := by exact fun _ _ => rfl) : DE X ad w G (.Subscript a b pos) .fz (ixK f g) := by
  obtain ⟨ta, pa, ka⟩ := ha
  obtain ⟨tb, pb, kb⟩ := hb
  refine ⟨_, pe_ix ix_list pa pb hs, fun ex0 ρ σ H ex Q fr q => ?_⟩
  refine ka ex0 ρ σ H ex _ fr ?_
  unfold ixK at q
  rw [sat_bind] at q
  refine q.imp (fun ds q v H1 ex1 l ⟨a, vs, e1, hq, hz, hA⟩ => ?_) fun _ z => z
  subst e1
  refine kb ex0 ρ σ H1 ex1 _ (fr.mono l) ?_
  rw [sat_bind] at q
  refine q.imp (fun k q u H2 ex2 fp l2 r _ _ => ?_) fun _ z => z.mono l
  have a2 := rep_fz r
  cases a2 with
  | int k =>
    unfold getI at q
    dsimp only at q
    split at q
    · rename_i d e
      obtain ⟨v, e1, a1⟩ := atI_at hA e
      exact ⟨_, _, _, v, rfl, rfl, l2.same.seq hq, e1, post_fz q (l.trans l2) (a1.mono l2.cuts)⟩
    · exact q.elim
  | _ => exact q.elim
/-- a list, walked by a comprehension -/
theorem dj_k {tg e : Expr} {f : Env → R D} (h : DE X ad w G e (.own .fz) f) : DJ X ad w G tg e (kL f) := by
  obtain ⟨t, p, k⟩ := h
  refine ⟨_, pi_list p, fun ex0 ρ σ H ex Rr fr q => ?_⟩
  refine k ex0 ρ σ H ex _ fr ?_
  unfold kL at q
  rw [sat_bind] at q
  refine q.imp (fun d q v H1 ex1 fp l r _ _ => ?_) fun _ z => z
  cases r with
  | flt z _ => cases d <;> first | exact q.elim | cases z
  | @own _ ds a vs _ h1 h2 hz hs =>
    have hA := hs.fzs.2
    refine ⟨a, rfl, ⟨vs, SqL.of h2⟩, q (Itl X.K a) H1 ex1 vs.length _ _ l hA.length.symm hz walk_list (fun H' ex' m => m.2.seq (SqL.of h2)) fun i H' ex' x H'' hi m _ y => ?_⟩
    obtain ⟨e1, e2⟩ := y
    subst e1
    obtain ⟨d, hd, ha⟩ := hA.getV e2
    exact ⟨d, hd, Le.refl _ _, ha.mono m.1⟩
theorem dj_own {tg : Expr} (i : Nat) {x : Str} (hN : X.N[i]? = some x := by rfl) (hg : ownL (sh G i) = true := by rfl) (hv : Vis X.env.scope x := by first | exact Or.inl rfl | exact Or.inr (Or.inl rfl) | exact Or.inr (Or.inr rfl)) (hd : (x == ("__debug__" : Str)) = false := by decide)
    (hcd : (x == ("__classdict__" : Str)) = false := by decide) : DJ X ad w G tg (.Name x pos) (kL (dV i)) := by
  refine ⟨_, pi_list (pe_var hN hv hd hcd), fun ex0 ρ σ H ex Rr fr q => ?_⟩
  unfold kL at q
  cases e1 : (dV i ρ).bind isL with
  | exc c =>
    rw [e1] at q
    unfold dV at e1
    split at e1
    · rename_i d _
      cases d <;> cases e1
    · cases e1
  | bad => rw [e1] at q; exact q.elim
  | ok xs =>
    rw [e1] at q
    obtain ⟨a, vs, ds, ed, eσ, hex, hn, hH, hz, hA, _⟩ := fr.own (slot_own e1) hg
    cases ed
    refine ⟨_, eσ, a, rfl, ⟨vs, SqL.of hH⟩, q (Itl X.K a) H ex vs.length _ _ (Le.refl _ _) hA.length.symm hz walk_list (fun H' ex' m => m.2.seq (SqL.of hH)) fun i H' ex' x H'' hi m _ y => ?_⟩
    obtain ⟨e1, e2⟩ := y
    subst e1
    obtain ⟨d, hd, ha⟩ := hA.getV e2
    exact ⟨d, hd, Le.refl _ _, ha.mono m.1⟩
/-! ### slices -/
def cutD (ds : List D) (lo hi : Option Int) : List D := (ds.drop (HT.sIx ds.length 0 lo)).take (HT.sIx ds.length ds.length hi - HT.sIx ds.length 0 lo)
theorem cut_ats {K : PySem.W.Frag} {H : Hp} {ds : List D} {vs : List V} (a : Ats K ad H ds vs) (lo hi : Option Int) : Ats K ad H (cutD ds lo hi) (cutV vs lo hi) := by
  unfold cutD cutV
  rw [a.length]
  exact (a.drop _).take _
/-- a slice's part -/
def DP (X : Cx) (ad : Adr) (w : Wi) (G : Shs) (e : Option Expr) (f : Env → R (Option Int)) : Prop :=
  ∃ t, PO X e t ∧ ∀ ex0 ρ σ H ex Q, Fra X.K ad G ex0 ρ σ H ex → Sat (f ρ) (fun o => ∀ H' ex', Le H ex H' ex' → Q o H') (Exc w σ H ex) → t σ H Q
def pNo : Env → R (Option Int) := fun _ => .ok none
def pSo (f : Env → R D) : Env → R (Option Int) := fun ρ => (f ρ).bind fun d => match d with
  | .int i => .ok (some i)
  | _ => .bad
theorem dp_no : DP X ad w G none pNo := ⟨_, po_none, fun _ _ _ _ _ _ _ q => q _ _ (Le.refl _ _)⟩
theorem dp_so {e : Expr} {f : Env → R D} (h : DE X ad w G e .fz f) : DP X ad w G (some e) (pSo f) := by
  obtain ⟨t, p, k⟩ := h
  refine ⟨_, po_some p, fun ex0 ρ σ H ex Q fr q => k ex0 ρ σ H ex _ fr ?_⟩
  unfold pSo at q
  rw [sat_bind] at q
  refine q.imp (fun d q v H' ex' fp l r _ _ => ?_) fun _ z => z
  have a := rep_fz r
  cases a with
  | int i => exact ⟨i, rfl, q H' ex' l⟩
  | _ => exact q.elim
def slK (f : Env → R (List D)) (g h : Env → R (Option Int)) : Env → R D := fun ρ => (f ρ).bind fun ds => (g ρ).bind fun lo => (h ρ).bind fun hi => .ok (.lst (cutD ds lo hi))
theorem de_slK {e : Expr} {lo hi : Option Expr} {p2 : Pos} {f : Env → R (List D)} {g h : Env → R (Option Int)} (he : DK X ad w G e f) (hl : DP X ad w G lo g) (hh : DP X ad w G hi h) : DE X ad w G (.Subscript e (.Slice lo hi none p2) pos) (.own .fz) (slK f g h) := by
  obtain ⟨t, p, k⟩ := he
  obtain ⟨tl, pl, kl⟩ := hl
  obtain ⟨th, ph, kh⟩ := hh
  refine ⟨_, pe_slice sl_list p pl ph, fun ex0 ρ σ H ex Q fr q => ?_⟩
  refine k ex0 ρ σ H ex _ fr ?_
  unfold slK at q
  rw [sat_bind] at q
  refine q.imp (fun ds q v H1 ex1 l ⟨a, vs, e1, hq, hz, hA⟩ => ?_) fun _ z => z
  subst e1
  refine kl ex0 ρ σ H1 ex1 _ (fr.mono l) ?_
  rw [sat_bind] at q
  refine q.imp (fun o q H2 ex2 l2 => ?_) fun _ z => z.mono l
  refine kh ex0 ρ σ H2 ex2 _ ((fr.mono l).mono l2) ?_
  rw [sat_bind] at q
  refine q.imp (fun o2 q H3 ex3 l3 => ?_) fun _ z => z.mono (l.trans l2)
  have lt := (l.trans l2).trans l3
  refine ⟨a, vs, rfl, (l2.trans l3).same.seq hq, fun pp hp => ?_⟩
  have q : Post X.K ad H ex (.own .fz) Q (.lst (cutD ds o o2)) := q
  exact post_lst (ex := ex3) (fun v H' ex' fp l' r nd nw => q v H' ex' fp (lt.trans l') r nd fun a z zz => nw a z (lt.keep a zz)) (cut_ats (hA.mono (l2.trans l3).cuts) o o2) (Nat.le_trans (cutV_length _ _ _) hz) (fr.mono lt).exok hp
/-- of a tuple, a text -/
def slT (f : Env → R D) (g h : Env → R (Option Int)) : Env → R D := fun ρ => (f ρ).bind fun d => (g ρ).bind fun lo => (h ρ).bind fun hi => match d with
  | .tup ds => .ok (.tup (cutD ds lo hi))
  | .str z => if z.length ≤ 16777216 then .ok (.str (cutS z lo hi)) else .bad
  | _ => .bad
theorem cut_whole {α : Type} {ds : List α} {a b : Nat} (h1 : a = 0) (h2 : b = ds.length) : (ds.drop a).take (b - a) = ds := by
  subst h1 h2
  simp
theorem de_slT {e : Expr} {lo hi : Option Expr} {p2 : Pos} {f : Env → R D} {g h : Env → R (Option Int)} (he : DE X ad w G e .fz f) (hl : DP X ad w G lo g) (hh : DP X ad w G hi h) : DE X ad w G (.Subscript e (.Slice lo hi none p2) pos) .fz (slT f g h) := by
  obtain ⟨t, p, k⟩ := he
  obtain ⟨tl, pl, kl⟩ := hl
  obtain ⟨th, ph, kh⟩ := hh
  refine ⟨_, pe_slice (sl_tupA.or sl_str) p pl ph, fun ex0 ρ σ H ex Q fr q => ?_⟩
  refine k ex0 ρ σ H ex _ fr ?_
  unfold slT at q
  rw [sat_bind] at q
  refine q.imp (fun d q v H1 ex1 fp l r _ _ => ?_) fun _ z => z
  have a := rep_fz r
  refine kl ex0 ρ σ H1 ex1 _ (fr.mono l) ?_
  rw [sat_bind] at q
  refine q.imp (fun o q H2 ex2 l2 => ?_) fun _ z => z.mono l
  refine kh ex0 ρ σ H2 ex2 _ ((fr.mono l).mono l2) ?_
  rw [sat_bind] at q
  refine q.imp (fun o2 q H3 ex3 l3 => ?_) fun _ z => z.mono (l.trans l2)
  have lt := (l.trans l2).trans l3
  have a3 := a.mono (l2.trans l3).cuts
  cases a3 with
  | @tup b vs ds h hz hs =>
    refine .inl ⟨b, vs, rfl, seqT cut_same h, fun hw => ?_, fun hw pp hp => ?_⟩
    · have e : cutD ds o o2 = ds := by
        unfold cutD
        rw [hs.length]
        exact cut_whole hw.1 (hw.2.trans hs.length.symm)
      have q : Post X.K ad H ex .fz Q (.tup (cutD ds o o2)) := q
      rw [e] at q
      exact post_fz q lt (.tup h hz hs)
    · have q : Post X.K ad H ex .fz Q (.tup (cutD ds o o2)) := q
      exact post_tup (ex := ex3) (fun v H' ex' fp l' r nd nw => q v H' ex' fp (lt.trans l') r nd fun a z zz => nw a z (lt.keep a zz)) (cut_ats hs o o2) (Nat.le_trans (cutV_length _ _ _) hz) (fr.mono lt).exok hp
  | str z =>
    dsimp only at q
    split at q
    · rename_i hh
      exact .inr ⟨z, rfl, sq16 hh, post_fz q lt (.str _)⟩
    · exact q.elim
  | _ => exact q.elim
end
end DL

set_option Elab.async false
set_option linter.all false
set_option maxRecDepth 100000
set_option maxHeartbeats 4000000
set_option autoImplicit false
/-! DL9: sorted lists of rows; sorted(set(rows)). -/
namespace DL
open PySem PySem.Spec PyProof.Rows L2
open PySem.W (EachIs dataLe)
/-- a row of ints as data -/
def rowD (r : List Int) : D := .tup (r.map .int)
def rowOf : D → Option (List Int)
  | .tup ds => intL ds
  | _ => none
def rowsOfD : List D → Option (List (List Int))
  | [] => some []
  | d :: ds => match rowOf d, rowsOfD ds with
    | some r, some rs => some (r :: rs)
    | _, _ => none
theorem rowOf_D {d : D} {r : List Int} (h : rowOf d = some r) : d = rowD r := by
  cases d <;> first | cases h | skip
  unfold rowOf at h
  unfold rowD
  rw [ints_of h]
theorem rowsOf_D : ∀ {ds : List D} {rs : List (List Int)}, rowsOfD ds = some rs → ds = rs.map rowD
  | [], _, h => by cases h; rfl
  | d :: ds, rs, h => by
    unfold rowsOfD at h
    split at h
    · rename_i r rs' e1 e2
      cases h
      rw [rowOf_D e1, rowsOf_D e2]
      rfl
    · cases h
theorem rowsOf_map : ∀ rs : List (List Int), rowsOfD (rs.map rowD) = some rs
  | [] => rfl
  | r :: rs => by
    show rowsOfD (rowD r :: rs.map rowD) = _
    unfold rowsOfD
    rw [rowsOf_map rs]
    show (match intL (r.map .int), some rs with | some r, some rs => some (r :: rs) | _, _ => none) = _
    rw [ints_map]
def rowLe (a b : List Int) : Bool := decide (a ≤ b)
/-- the same by insertion: rising, each once -/
def insR (r : List Int) : List (List Int) → List (List Int)
  | [] => [r]
  | x :: xs => if r < x then r :: x :: xs else if r = x then x :: xs else x :: insR r xs
def sortU (rs : List (List Int)) : List (List Int) := rs.foldr insR []
theorem insR_mem {r : List Int} : ∀ {xs : List (List Int)} {y : List Int}, y ∈ insR r xs ↔ y = r ∨ y ∈ xs
  | [], y => by simp [insR]
  | x :: xs, y => by
    unfold insR
    split
    · simp
    · split
      · rename_i h
        subst h
        simp
      · rw [List.mem_cons, insR_mem (xs := xs), List.mem_cons]
        constructor
        · rintro (h | h | h) <;> simp [h]
        · rintro (h | h | h) <;> simp [h]
theorem insR_asc {r : List Int} : ∀ {xs : List (List Int)}, xs.Pairwise (· < ·) → (insR r xs).Pairwise (· < ·)
  | [], _ => by simp [insR]
  | x :: xs, h => by
    rw [List.pairwise_cons] at h
    unfold insR
    split
    · rename_i hr
      rw [List.pairwise_cons]
      refine ⟨fun y hy => ?_, List.pairwise_cons.mpr h⟩
      rcases List.mem_cons.mp hy with e | e
      · rw [e]; exact hr
      · exact List.lt_trans hr (h.1 y e)
    · split
      · exact List.pairwise_cons.mpr h
      · rename_i h1 h2
        rw [List.pairwise_cons]
        refine ⟨fun y hy => ?_, insR_asc h.2⟩
        rcases insR_mem.mp hy with e | e
        · subst e
          have : x ≤ y := List.not_lt.mp h1
          rcases Decidable.em (x < y) with z | z
          · exact z
          · exact absurd (List.le_antisymm (List.not_lt.mp z) this) h2
        · exact h.1 y e
theorem sortU_mem {rs : List (List Int)} {y : List Int} : y ∈ sortU rs ↔ y ∈ rs := by
  induction rs with
  | nil => rfl
  | cons r rs ih =>
    show y ∈ insR r (sortU rs) ↔ _
    rw [insR_mem, ih, List.mem_cons]
theorem sortU_asc {rs : List (List Int)} : (sortU rs).Pairwise (· < ·) := by
  induction rs with
  | nil => exact List.Pairwise.nil
  | cons r rs ih => exact insR_asc ih
theorem asc_ext : ∀ {a b : List (List Int)}, a.Pairwise (· < ·) → b.Pairwise (· < ·) → (∀ y, y ∈ a ↔ y ∈ b) → a = b
  | [], [], _, _, _ => rfl
  | [], y :: b, _, _, h => absurd ((h y).mpr List.mem_cons_self) (by simp)
  | x :: a, [], _, _, h => absurd ((h x).mp List.mem_cons_self) (by simp)
  | x :: a, y :: b, ha, hb, h => by
    rw [List.pairwise_cons] at ha hb
    have exy : x = y := by
      rcases List.mem_cons.mp ((h x).mp List.mem_cons_self) with e | e
      · exact e
      · rcases List.mem_cons.mp ((h y).mpr List.mem_cons_self) with e2 | e2
        · exact e2.symm
        · exact absurd (List.lt_trans (ha.1 y e2) (hb.1 x e)) (List.lt_irrefl _)
    subst exy
    have : a = b := asc_ext ha.2 hb.2 fun z => by
      constructor
      · intro hz
        rcases List.mem_cons.mp ((h z).mp (List.mem_cons_of_mem _ hz)) with e | e
        · rw [e] at hz
          exact absurd (ha.1 x hz) (List.lt_irrefl _)
        · exact e
      · intro hz
        rcases List.mem_cons.mp ((h z).mpr (List.mem_cons_of_mem _ hz)) with e | e
        · rw [e] at hz
          exact absurd (hb.1 x hz) (List.lt_irrefl _)
        · exact e
    rw [this]
theorem rowLe_tuple {β : Type} (x : β → List Int) : dataLe false (fun b => PyData.tuple ((x b).map .int)) = fun p q => rowLe (x p) (x q) := PySem.W.dataLe_rows x
theorem perm_out {α β : Type} {f : α → β} : ∀ {vs : List β} {L : List α}, vs.Perm (L.map f) → ∃ L1 : List α, L1.Perm L ∧ vs = L1.map f
  | [], L, h => by
    have : L.map f = [] := h.nil_eq.symm
    rw [List.map_eq_nil_iff] at this
    exact ⟨[], by rw [this], rfl⟩
  | v :: vs, L, h => by
    obtain ⟨q, hq, e⟩ := List.mem_map.mp (h.mem_iff.mp List.mem_cons_self)
    obtain ⟨l1, l2, rfl⟩ := List.append_of_mem hq
    have h2 : (v :: vs).Perm (v :: (l1 ++ l2).map f) := by
      refine h.trans ?_
      rw [List.map_append, List.map_cons, e, List.map_append]
      exact List.perm_middle
    obtain ⟨L1, p, e2⟩ := perm_out (List.Perm.cons_inv h2)
    exact ⟨q :: L1, (p.cons q).trans List.perm_middle.symm, by rw [List.map_cons, e, e2]⟩
section
variable {X : Cx} {ad : Adr} {w : Wi} {G : Shs} {pos : Pos}
/-- rows with what stands for them -/
def RowsAt (K : PySem.W.Frag) (H : Hp) (bs : List (List Int × V)) : Prop := ∀ p ∈ bs, ∃ t, p.2 = .ref t ∧ SqT K H t (p.1.map V.int)
theorem rows_at {K : PySem.W.Frag} {H : Hp} : ∀ {rs : List (List Int)} {vs : List V}, Ats K ad H (rs.map rowD) vs → ∃ bs : List (List Int × V), bs.map (·.1) = rs ∧ bs.map (·.2) = vs ∧ RowsAt K H bs
  | [], _, h => by
    cases h
    exact ⟨[], rfl, rfl, fun p hp => by cases hp⟩
  | r :: rs, _, h => by
    cases h with
    | cons h hs =>
      obtain ⟨bs, e1, e2, k⟩ := rows_at hs
      cases h with
      | @tup a us _ h _ hu =>
        refine ⟨(r, .ref a) :: bs, by simp [e1], by simp [e2], fun p hp => ?_⟩
        rcases List.mem_cons.mp hp with e | e
        · subst e
          rw [ats_ints hu] at h
          exact ⟨a, rfl, h⟩
        · exact k p e
theorem at_row {K : PySem.W.Frag} {H : Hp} {t : Addr} {r : List Int} (h : SqT K H t (r.map V.int)) (hz : r.length ≤ sizeLine) : At K ad H (rowD r) (.ref t) := .tup h (by rw [List.length_map]; exact hz) (ints_ats r)
theorem dp_intsT {K : PySem.W.Frag} {H : Hp} : ∀ r : List Int, DpAll K H (r.map V.int) (r.map PyData.int)
  | [] => .nil
  | i :: r => .cons (.int i) (dp_intsT r)
theorem each_rel : ∀ {bs : List (List Int × V)} {us : List Value}, Vals (bs.map (·.2)) us → EachIs (fun v b => RelV b.2 v) us bs
  | [], _, r => by
    cases r
    exact .nil
  | b :: bs, _, r => by
    cases r with
    | cons r t => exact .cons r (each_rel t)
theorem rel_each : ∀ {bs : List (List Int × V)} {us : List Value}, EachIs (fun v b => RelV b.2 v) us bs → Vals (bs.map (·.2)) us
  | _, _, .nil => .nil
  | _, _, .cons h t => .cons h (rel_each t)
theorem each_and {α β : Type} {S T : α → β → Prop} : ∀ {us : List α} {bs : List β}, EachIs S us bs → (∀ v b, b ∈ bs → S v b → T v b) → EachIs T us bs
  | _, _, .nil, _ => .nil
  | _, _, .cons h t, k => .cons (k _ _ List.mem_cons_self h) (each_and t fun v b hb => k v b (List.mem_cons_of_mem _ hb))
theorem shaped_row (r : List Int) : PyData.depth (.tuple (r.map PyData.int)) = 1 := by
  show PyData.depthAll (r.map .int) + 1 = 1
  rw [PySem.W.depth_ints]
/-- rows read off the heap -/
theorem rows_read {pins : List (Addr × Obj)} {σ : L2.St} {H : Hp} {s : Shared} (I : Inv X pins σ H s) {bs : List (List Int × V)} (hb : RowsAt X.K H bs) {us : List Value} (e : EachIs (fun v b => RelV b.2 v) us bs) :
    EachIs (fun v (b : List Int × V) => ∃ as, Reads s.heap v (PyData.tuple (b.1.map .int)) as) us bs := each_and e fun v b hm r => by
  obtain ⟨t, et, ht⟩ := hb b hm
  refine Dp.reads I _ b.2 v ?_ r
  rw [et]
  exact .tup ht (dp_intsT b.1)
theorem alike_rows (bs : List (List Int × V)) : PySem.W.AllAlike (bs.map fun b => PyData.tuple (b.1.map .int)) := PySem.W.AllAlike.of fun b b' => by
  unfold PySem.W.alike
  exact PySem.W.alike_ints _ _
theorem sortable_rows {bs : List (List Int × V)} (h : ∀ b ∈ bs, b.1 ≠ []) : PySem.W.Sortable (bs.map fun b => PyData.tuple (b.1.map .int)) := .inl fun d hd => by
  obtain ⟨b, hb, rfl⟩ := List.mem_map.mp hd
  cases e : b.1 with
  | nil => exact absurd e (h b hb)
  | cons i r => exact ⟨.int i, r.map .int, rfl⟩
def rSortRows (K : PySem.W.Frag) : List V → Hp → VK → Prop := fun vs H Q => ∃ (a : Addr) (bs : List (List Int × V)), vs = [.ref a] ∧ SqL K H a (bs.map (·.2)) ∧ RowsAt K H bs ∧ (∀ b ∈ bs, b.1 ≠ []) ∧ bs.length ≤ sizeLine ∧
  ∀ p, H p = none → Q (.ref p) (upd H p (.lst ((bs.mergeSort fun p q => rowLe p.1 q.1).map (·.2))))
theorem cr_sortRows (hu : X.A.units + 64 < cLine) : CallR X (.builtin "sorted") (rSortRows X.K) := by
  intro pins s σ H vs us Q I r h
  obtain ⟨a, bs, rfl, hs, hb, hne, hz, q⟩ := h
  obtain ⟨its, rv, hl, _⟩ := I.list hs
  rw [Vals.ref1 r]
  have e := each_rel rv
  refine PySem.W.sorted_data (enc := fun b : List Int × V => PyData.tuple (b.1.map .int)) hl.isList e (rows_read I hb e) (alike_rows bs) (sortable_rows hne) hz (fun b _ => by rw [shaped_row]; omega) fun out ho he => ?_
  rw [rowLe_tuple fun b : List Int × V => b.1] at he
  obtain ⟨ep, hp⟩ := sortedAll_at s.heap its (List.toArray out)
  refine ⟨.ref _, upd H (s.heap.objs.size + 1) (.lst ((bs.mergeSort fun p q => rowLe p.1 q.1).map (·.2))), I.laid (t' := s.toks) (fun _ _ => sortedAll_old) (Nat.le_succ _) ⟨?_, out, ep, rel_each he, hp⟩, rfl, q _ (I.hok.fresh (Nat.le_succ _))⟩
  rw [List.length_map, List.length_mergeSort]
  exact hz
/-- sorted(rows) -/
def oSort (ds : List D) : R D := match rowsOfD ds with
  | some rs => if rs.all (fun r => !r.isEmpty) = true then .ok (.lst ((rs.mergeSort rowLe).map rowD)) else .bad
  | none => .bad
theorem map_sort {bs : List (List Int × V)} : (bs.mergeSort fun p q => rowLe p.1 q.1).map (·.1) = (bs.map (·.1)).mergeSort rowLe := List.map_mergeSort fun _ _ _ _ => rfl
theorem insR_len (x : List Int) (xs : List (List Int)) : (insR x xs).length ≤ xs.length + 1 := by
  induction xs with
  | nil => simp [insR]
  | cons y ys ih2 =>
    unfold insR
    split
    · simp
    · split
      · simp
      · simp only [List.length_cons]
        omega
theorem sortU_len (rs : List (List Int)) : (sortU rs).length ≤ rs.length := by
  induction rs with
  | nil => exact Nat.le_refl _
  | cons r rs ih => exact Nat.le_trans (insR_len r (sortU rs)) (Nat.succ_le_succ ih)
theorem rows_ats {K : PySem.W.Frag} {H : Hp} : ∀ {bs : List (List Int × V)}, RowsAt K H bs → (∀ b ∈ bs, b.1.length ≤ sizeLine) → Ats K ad H ((bs.map (·.1)).map rowD) (bs.map (·.2))
  | [], _, _ => .nil
  | b :: bs, h, hz => by
    obtain ⟨t, e, ht⟩ := h b List.mem_cons_self
    refine .cons ?_ (rows_ats (fun p hp => h p (List.mem_cons_of_mem _ hp)) fun p hp => hz p (List.mem_cons_of_mem _ hp))
    show At _ _ _ (rowD b.1) b.2
    rw [e]
    exact at_row ht (hz b List.mem_cons_self)
theorem rows_len {K : PySem.W.Frag} {H : Hp} : ∀ {rs : List (List Int)} {vs : List V}, Ats K ad H (rs.map rowD) vs → ∀ r ∈ rs, r.length ≤ sizeLine
  | [], _, _, r, hr => by cases hr
  | r0 :: rs, _, h, r, hr => by
    cases h with
    | cons h hs =>
      rcases List.mem_cons.mp hr with e | e
      · subst e
        cases h with
        | tup _ hz hu =>
          rw [← hu.length, List.length_map] at hz
          exact hz
      · exact rows_len hs r e
theorem de_sorted {p : Pos} {e : Expr} {f : Env → R (List D)} (hu : X.A.units + 64 < cLine) (h : DK X ad w G e f) (hm : X.mg "sorted" = none := by assumption) (hg : Gl X "sorted" := by rfl) (hs : starEach [e] X.env = (false, eval e X.env) :: starEach [] X.env := by rfl) (hpl : (backTo pos (starEach [] X.env)).any (·.1) = false := by rfl) :
    DE X ad w G (.Call (.Name "sorted" p) [e] [] pos) (.own .fz) (oL oSort f) := by
  obtain ⟨t, pa, k⟩ := da_k h hs
  refine ⟨_, pe_callB (cr_sortRows hu) hg hm PyProof.Rows.boot_sorted pa (by decide) (by decide) hs hpl, fun ex0 ρ σ H ex Q fr q => ?_⟩
  refine k ex0 ρ σ H ex _ fr ?_
  unfold oL at q
  rw [sat_bind] at q
  refine q.imp (fun ds q v H1 ex1 l ⟨a, vs, e1, hq, hz, hA⟩ => ?_) fun _ z => z
  subst e1
  unfold oSort at q
  split at q
  · rename_i rs er
    split at q
    · rename_i hne
      have e2 := rowsOf_D er
      subst e2
      obtain ⟨bs, e3, e4, hb⟩ := rows_at hA
      have hzr := rows_len hA
      have hbl : bs.length ≤ sizeLine := by
        rw [← e4, List.length_map] at hz
        exact hz
      refine ⟨a, bs, rfl, by rw [e4]; exact hq, fun p hp => ?_, fun b hb' => ?_, hbl, fun pp hp => ?_⟩
      · obtain ⟨t, e5, e6⟩ := hb p hp
        exact ⟨t, e5, seqT cut_same e6⟩
      · have := List.all_eq_true.mp hne b.1 (by rw [← e3]; exact List.mem_map_of_mem hb')
        simpa using this
      · have q : Post X.K ad H ex (.own .fz) Q (.lst ((rs.mergeSort rowLe).map rowD)) := q
        have pm : (bs.mergeSort fun p q => rowLe p.1 q.1).Perm bs := List.mergeSort_perm _ _
        refine post_lst (ex := ex1) (fun v H' ex' fp l' r nd nw => q v H' ex' fp (l.trans l') r nd fun a z zz => nw a z (l.keep a zz)) ?_ (by rw [List.length_map, List.length_mergeSort]; exact hbl) (fr.mono l).exok hp
        rw [← e3, ← map_sort]
        refine rows_ats (fun p hp => hb p (pm.mem_iff.mp hp)) fun p hp => hzr p.1 ?_
        rw [← e3]
        exact List.mem_map_of_mem (pm.mem_iff.mp hp)
    · exact q.elim
  · exact q.elim
end
end DL

set_option Elab.async false
set_option linter.all false
set_option maxRecDepth 100000
set_option maxHeartbeats 4000000
set_option autoImplicit false
/-! DL10: what the printed derivations lean on besides. -/
namespace DL
open PySem PySem.Spec PyProof.Rows L2 RZ
/-- the built-in names are the built-ins -/
structure Bt (mg : Str → Option Value) : Prop where
  len : mg "len" = none
  range : mg "range" = none
  tuple : mg "tuple" = none
  list : mg "list" = none
  max : mg "max" = none
  min : mg "min" = none
  sum : mg "sum" = none
  all : mg "all" = none
  any : mg "any" = none
  abs : mg "abs" = none
  int : mg "int" = none
  str : mg "str" = none
  sorted : mg "sorted" = none
  set : mg "set" = none
  enumerate : mg "enumerate" = none
  zip : mg "zip" = none
  isinstance : mg "isinstance" = none
  bool : mg "bool" = none
theorem units5 {k : Nat} {A : Around} (r : Room k A) : A.units + 65 < cLine := by
  have := r.un
  omega
theorem no_add : ∀ d e c, oAdd d e ≠ .exc c := by
  intro d e c z
  unfold oAdd at z
  split at z <;> (try split at z) <;> cases z
theorem no_sub : ∀ d e c, oSub d e ≠ .exc c := by
  intro d e c z
  unfold oSub at z
  split at z <;> cases z
theorem no_mul : ∀ d e c, oMul d e ≠ .exc c := by
  intro d e c z
  unfold oMul at z
  split at z <;> (try split at z) <;> cases z
theorem no_div : ∀ d e c, oDiv d e ≠ .exc c := by
  intro d e c z
  unfold oDiv at z
  split at z <;> (try split at z) <;> cases z
theorem no_mod : ∀ d e c, oMod d e ≠ .exc c := by
  intro d e c z
  unfold oMod at z
  split at z <;> (try split at z) <;> cases z
theorem no_pow : ∀ d e c, oPow d e ≠ .exc c := by
  intro d e c z
  unfold oPow at z
  split at z <;> (try split at z) <;> cases z
/-- as many turns as a while may want -/
def fuel : Env → Nat := fun _ => 1000000000000
def tupK (ds : List D) : R D := .ok (.tup ds)
def lstK (ds : List D) : R D := .ok (.lst ds)
section
variable {X : Cx} {ad : Adr} {w : Wi} {rs : Sh} {G : Shs} {pos : Pos} {tg : Expr}
/-- a list or a tuple, walked -/
def itS : D → R (List D)
  | .lst ds => .ok ds
  | .tup ds => .ok ds
  | _ => .bad
def iS (f : Env → R D) : Env → R (List D) := fun ρ => (f ρ).bind itS
theorem pi_or {iter : Expr} {w1 w2 : TI} (h1 : PI X tg iter w1) (h2 : PI X tg iter w2) : PI X tg iter (fun σ H Rr => w1 σ H Rr ∨ w2 σ H Rr) := ⟨fun pins s σ H Rr I h => h.elim (h1.run pins s σ H Rr I) (h2.run pins s σ H Rr I)⟩
def iLT (K : PySem.W.Frag) (tl : TE) : TI := fun σ H Rr => tl σ H fun x H1 => ∃ a, x = .ref a ∧ (((∃ xs, SqL K H1 a xs) ∧ Rr (Itl K a) H1) ∨ ((∃ xs, SqT K H1 a xs) ∧ Rr (Itt K a) H1))
theorem pi_lt {l : Expr} {tl : TE} (hl : PE X l tl) : PI X tg l (iLT X.K tl) := by
  refine ⟨fun pins s σ H Rr I h => ?_⟩
  refine thn (hl.run pins s σ H (fun x H1 => ∃ a, x = .ref a ∧ (((∃ xs, SqL X.K H1 a xs) ∧ Rr (Itl X.K a) H1) ∨ ((∃ xs, SqT X.K H1 a xs) ∧ Rr (Itt X.K a) H1))) I h) fun v s1 ⟨x, H1, I1, r1, q1⟩ => ?_
  obtain ⟨a, ex, q⟩ := q1
  subst ex
  cases r1
  have mk : ∀ b ∈ [s1.heap.objs.size], FpOk X pins H1 b := fun b hb => by
    have e : b = s1.heap.objs.size := by simpa using hb
    rw [e]
    exact I1.fpOk (Nat.le_refl _) (I1.hok.fresh (Nat.le_refl _))
  rcases q with ⟨⟨xs, hq⟩, q⟩ | ⟨⟨xs, hq⟩, q⟩
  · obtain ⟨its, rv, p, hz⟩ := I1.list hq
    exact wpAny_pyIter_list p.isList ⟨s1.heap.objs.size, [s1.heap.objs.size], _, _, H1, rfl, I1.kept (t' := s1.toks) fun b o e => Heap.get?_push_of_some _ e, turn_list a _, ⟨_, Heap.get?_push_size _ rfl, rfl, rfl⟩, mk, q⟩
  · obtain ⟨its, rv, p, hz⟩ := I1.tuple hq
    exact wpAny_pyIter_tuple (show s1.heap.IsTuple a its.toArray from p) ⟨s1.heap.objs.size, [s1.heap.objs.size], _, _, H1, rfl, I1.kept (t' := s1.toks) fun b o e => Heap.get?_push_of_some _ e, turn_tuple a _, ⟨_, Heap.get?_push_size _ rfl, rfl, rfl⟩, mk, q⟩
theorem di_seq {e : Expr} {f : Env → R D} (h : DE X ad w G e .fz f) : DI X ad w G tg e (iS f) := by
  obtain ⟨t, p, k⟩ := h
  refine ⟨_, pi_lt p, fun ex0 ρ σ H ex Rr fr q => ?_⟩
  refine k ex0 ρ σ H ex _ fr ?_
  unfold iS at q
  rw [sat_bind] at q
  refine q.imp (fun d q v H1 ex1 fp l r _ _ => ?_) fun _ z => z
  have a := rep_fz r
  cases a with
  | @lst a vs ds h hz hs =>
    refine ⟨a, rfl, .inl ⟨⟨vs, cut_same.seq h⟩, q (Itl X.K a) H1 ex1 vs.length _ _ l hs.length.symm hz walk_list (fun H' ex' m => (Same.trans m cut_same).seq h) fun i H' ex' x H'' hi m _ y => ?_⟩⟩
    obtain ⟨e1, e2⟩ := y
    subst e1
    obtain ⟨d, hd, ha⟩ := hs.getV e2
    exact ⟨d, hd, Le.refl _ _, ha.mono m⟩
  | @tup a vs ds h hz hs =>
    refine ⟨a, rfl, .inr ⟨⟨vs, seqT cut_same h⟩, q (Itt X.K a) H1 ex1 vs.length _ _ l hs.length.symm hz walk_tup (fun H' ex' m => seqT (Same.trans m cut_same) h) fun i H' ex' x H'' hi m _ y => ?_⟩⟩
    obtain ⟨e1, e2⟩ := y
    subst e1
    obtain ⟨d, hd, ha⟩ := hs.getV e2
    exact ⟨d, hd, Le.refl _ _, ha.mono m⟩
  | _ => exact q.elim
/-- zip of two lists or two tuples -/
def itZA : List D → R (List D)
  | [.lst ds, .lst es] => .ok ((ds.zip es).map fun p => .tup [p.1, p.2])
  | [.tup ds, .tup es] => .ok ((ds.zip es).map fun p => .tup [p.1, p.2])
  | _ => .bad
theorem walk_zipT {K : PySem.W.Frag} {a b : Addr} {xs ys : List V} {n : Nat} (hn : n = min xs.length ys.length) : Walk (ItzT K a b) n (fun H => SqT K H a xs ∧ SqT K H b ys) (YPair (fun i => xs[i]?) (fun i => ys[i]?)) := by
  subst hn
  refine ⟨fun i _ hi q => ?_, fun _ q => ⟨xs, ys, q.1, q.2, by omega⟩, fun i H v H' _ q y => ?_⟩
  · have h1 : i < xs.length := by omega
    have h2 : i < ys.length := by omega
    exact ⟨xs, ys, xs[i], ys[i], q.1, q.2, List.getElem?_eq_getElem h1, List.getElem?_eq_getElem h2⟩
  · obtain ⟨T, x, z, h1, h2, h3, h4, h5⟩ := y
    exact ⟨T, x, z, h1, h2, h3, h4 xs q.1, h5 ys q.2⟩
theorem zip_turn {K : PySem.W.Frag} {ds es : List D} {vs us : List V} {H1 : Hp} {ex1 : Own} (hs : Ats K ad (cut H1 ex1) ds vs) (hs' : Ats K ad (cut H1 ex1) es us) {i : Nat} {H' : Hp} {ex' : Own} {x : V} {H'' : Hp} (hi : i < min vs.length us.length) (m : Mo H1 ex1 H' ex') (hex : ∀ b, ex' b → ∃ o, H' b = some o)
    (y : YPair (fun i => vs[i]?) (fun i => us[i]?) i H' x H'') : ∃ d, ((ds.zip es).map fun p => D.tup [p.1, p.2])[i]? = some d ∧ Le H' ex' H'' ex' ∧ At K ad (cut H'' ex') d x := by
  have hi1 : i < ds.length := by rw [hs.length]; omega
  have hi2 : i < es.length := by rw [hs'.length]; omega
  refine ⟨.tup [ds[i], es[i]], ?_, ?_⟩
  · have hz2 : (ds.zip es)[i]? = some (ds[i], es[i]) := List.getElem?_zip_eq_some.mpr ⟨List.getElem?_eq_getElem hi1, List.getElem?_eq_getElem hi2⟩
    rw [List.getElem?_map, hz2]
    rfl
  · refine pair_turn y hex (fun v e => ?_) fun v e => ?_
    · obtain ⟨d', e1, a1⟩ := hs.getV e
      rw [List.getElem?_eq_getElem hi1] at e1
      cases e1
      exact a1.mono m
    · obtain ⟨d', e1, a1⟩ := hs'.getV e
      rw [List.getElem?_eq_getElem hi2] at e1
      cases e1
      exact a1.mono m
theorem di_zipA {e e2 : Expr} {f : Env → R (List D)} {p tpos : Pos} {elts : List Expr} {kk : Nat} (h : DA X ad w G [e, e2] f) (hg : Gl X "zip" := by rfl) (hm : X.mg "zip" = none := by assumption)
    (hs : starEach [e, e2] X.env = (false, eval e X.env) :: starEach [e2] X.env := by rfl) (hpl : (backTo pos (starEach [e2] X.env)).any (·.1) = false := by rfl) :
    DI X ad w G (.Tuple elts kk tpos) (.Call (.Name "zip" p) [e, e2] [] pos) (iA itZA f) := by
  obtain ⟨t, pa, k⟩ := h
  refine ⟨_, pi_zipA hg hm pa hs hpl, fun ex0 ρ σ H ex Rr fr q => ?_⟩
  refine k ex0 ρ σ H ex _ fr ?_
  unfold iA at q
  rw [sat_bind] at q
  refine q.imp (fun ds q vs H1 ex1 l a => ?_) fun _ z => z
  unfold itZA at q
  split at q
  · rename_i ds es
    obtain ⟨v, u, rfl, a1, a2⟩ := a.two
    cases a1 with
    | @lst a3 vs _ h hz hs =>
      cases a2 with
      | @lst b us _ h' hz' hs' =>
        exact ⟨a3, b, vs, us, rfl, .inl ⟨cut_same.seq h, cut_same.seq h', q (Itz X.K a3 b) H1 ex1 (min vs.length us.length) _ _ l (by rw [List.length_map, List.length_zip, hs.length, hs'.length]) (Nat.le_trans (Nat.min_le_left _ _) hz) (walk_zip rfl)
          (fun H' ex' m => ⟨(Same.trans m cut_same).seq h, (Same.trans m cut_same).seq h'⟩) fun i H' ex' x H'' hi m hex y => zip_turn hs hs' hi m hex y⟩⟩
  · rename_i ds es
    obtain ⟨v, u, rfl, a1, a2⟩ := a.two
    cases a1 with
    | @tup a3 vs _ h hz hs =>
      cases a2 with
      | @tup b us _ h' hz' hs' =>
        exact ⟨a3, b, vs, us, rfl, .inr ⟨seqT cut_same h, seqT cut_same h', q (ItzT X.K a3 b) H1 ex1 (min vs.length us.length) _ _ l (by rw [List.length_map, List.length_zip, hs.length, hs'.length]) (Nat.le_trans (Nat.min_le_left _ _) hz) (walk_zipT rfl)
          (fun H' ex' m => ⟨seqT (Same.trans m cut_same) h, seqT (Same.trans m cut_same) h'⟩) fun i H' ex' x H'' hi m hex y => zip_turn hs hs' hi m hex y⟩⟩
  · exact q.elim
/-- tuple(x), list(x) of a list or a tuple -/
def oTupOf : D → R D
  | .lst ds => .ok (.tup ds)
  | .tup ds => .ok (.tup ds)
  | _ => .bad
def oLstOf : D → R D
  | .lst ds => .ok (.lst ds)
  | .tup ds => .ok (.lst ds)
  | _ => .bad
theorem one_arg {e : Expr} {f : Env → R D} (h : DE X ad w G e .fz f) (hs : starEach [e] X.env = (false, eval e X.env) :: starEach [] X.env) :
    ∃ t, PA X [e] t ∧ ∀ ex0 ρ σ H ex Q, Fra X.K ad G ex0 ρ σ H ex → Sat (f ρ) (fun d => ∀ v H' ex', Le H ex H' ex' → At X.K ad (cut H' ex') d v → Q [v] H') (Exc w σ H ex) → t σ H Q := by
  obtain ⟨t, p, k⟩ := h
  exact ⟨_, pa_cons p pa_nil hs, fun ex0 ρ σ H ex Q fr q => k ex0 ρ σ H ex _ fr (q.imp (fun d q v H' ex' fp l r _ _ => q v H' ex' l (rep_fz r)) fun _ z => z)⟩
theorem de_tupleA {p : Pos} {e : Expr} {f : Env → R D} (h : DE X ad w G e .fz f) (hm : X.mg "tuple" = none := by assumption) (hg : Gl X "tuple" := by rfl) (hs : starEach [e] X.env = (false, eval e X.env) :: starEach [] X.env := by rfl) (hpl : (backTo pos (starEach [] X.env)).any (·.1) = false := by rfl) :
    DE X ad w G (.Call (.Name "tuple" p) [e] [] pos) .fz (d1 oTupOf f) := by
  obtain ⟨t, pa, k⟩ := one_arg h hs
  refine ⟨_, pe_callTy call_tuple_of hg hm PyProof.Rows.boot_tuple pa (by decide) (by decide) hs hpl, fun ex0 ρ σ H ex Q fr q => ?_⟩
  refine k ex0 ρ σ H ex _ fr ?_
  unfold d1 at q
  rw [sat_bind] at q
  refine q.imp (fun d q v H1 ex1 l a => ?_) fun _ z => z
  cases a with
  | @lst a vs ds h hz hs =>
    refine ⟨a, vs, rfl, .inl ⟨cut_same.seq h, fun pp hp => ?_⟩⟩
    have q : Post X.K ad H ex .fz Q (.tup ds) := q
    exact post_tup (ex := ex1) (fun v H' ex' fp l' r nd nw => q v H' ex' fp (l.trans l') r nd fun a z zz => nw a z (l.keep a zz)) hs hz (fr.mono l).exok hp
  | @tup a vs ds h hz hs =>
    have q : Post X.K ad H ex .fz Q (.tup ds) := q
    exact ⟨a, vs, rfl, .inr ⟨seqT cut_same h, post_fz q l (.tup h hz hs)⟩⟩
  | _ => exact q.elim
theorem de_listA {p : Pos} {e : Expr} {f : Env → R D} (h : DE X ad w G e .fz f) (hm : X.mg "list" = none := by assumption) (hg : Gl X "list" := by rfl) (hs : starEach [e] X.env = (false, eval e X.env) :: starEach [] X.env := by rfl) (hpl : (backTo pos (starEach [] X.env)).any (·.1) = false := by rfl) :
    DE X ad w G (.Call (.Name "list" p) [e] [] pos) (.own .fz) (d1 oLstOf f) := by
  obtain ⟨t, pa, k⟩ := one_arg h hs
  refine ⟨_, pe_callTy call_list_of hg hm PyProof.Rows.boot_list pa (by decide) (by decide) hs hpl, fun ex0 ρ σ H ex Q fr q => ?_⟩
  refine k ex0 ρ σ H ex _ fr ?_
  unfold d1 at q
  rw [sat_bind] at q
  refine q.imp (fun d q v H1 ex1 l a => ?_) fun _ z => z
  cases a with
  | @lst a vs ds h hz hs =>
    refine ⟨a, vs, rfl, .inl (cut_same.seq h), fun pp hp => ?_⟩
    have q : Post X.K ad H ex (.own .fz) Q (.lst ds) := q
    exact post_lst (ex := ex1) (fun v H' ex' fp l' r nd nw => q v H' ex' fp (l.trans l') r nd fun a z zz => nw a z (l.keep a zz)) hs hz (fr.mono l).exok hp
  | @tup a vs ds h hz hs =>
    refine ⟨a, vs, rfl, .inr (seqT cut_same h), fun pp hp => ?_⟩
    have q : Post X.K ad H ex (.own .fz) Q (.lst ds) := q
    exact post_lst (ex := ex1) (fun v H' ex' fp l' r nd nw => q v H' ex' fp (l.trans l') r nd fun a z zz => nw a z (l.keep a zz)) hs hz (fr.mono l).exok hp
  | _ => exact q.elim
/-- a constant of the module -/
theorem de_con {x : Str} {d : D} (h : ∃ u v, X.mg x = some u ∧ RelV v u ∧ ∀ H, At X.K ad H d v) (hg : Gl X x := by rfl) (hd : (x == ("__debug__" : Str)) = false := by decide) : DE X ad w G (.Name x pos) .fz (dC d) := by
  obtain ⟨u, v, h1, h2, h3⟩ := h
  exact ⟨_, pe_glob hg h1 h2 hd, fun _ _ _ _ _ _ _ q => post_fz q (Le.refl _ _) (h3 _)⟩
/-- x[lo:hi] of a list, a tuple, a text -/
def slA (f : Env → R D) (g h : Env → R (Option Int)) : Env → R D := fun ρ => (f ρ).bind fun d => (g ρ).bind fun lo => (h ρ).bind fun hi => match d with
  | .lst ds => .ok (.lst (cutD ds lo hi))
  | .tup ds => .ok (.tup (cutD ds lo hi))
  | .str z => if z.length ≤ 16777216 then .ok (.str (cutS z lo hi)) else .bad
  | _ => .bad
theorem de_slA {e : Expr} {lo hi : Option Expr} {p2 : Pos} {f : Env → R D} {g h : Env → R (Option Int)} (he : DE X ad w G e .fz f) (hl : DP X ad w G lo g) (hh : DP X ad w G hi h) : DE X ad w G (.Subscript e (.Slice lo hi none p2) pos) .fz (slA f g h) := by
  obtain ⟨t, p, k⟩ := he
  obtain ⟨tl, pl, kl⟩ := hl
  obtain ⟨th, ph, kh⟩ := hh
  refine ⟨_, pe_slice (sl_list.or (sl_tupA.or sl_str)) p pl ph, fun ex0 ρ σ H ex Q fr q => ?_⟩
  refine k ex0 ρ σ H ex _ fr ?_
  unfold slA at q
  rw [sat_bind] at q
  refine q.imp (fun d q v H1 ex1 fp l r _ _ => ?_) fun _ z => z
  have a := rep_fz r
  refine kl ex0 ρ σ H1 ex1 _ (fr.mono l) ?_
  rw [sat_bind] at q
  refine q.imp (fun o q H2 ex2 l2 => ?_) fun _ z => z.mono l
  refine kh ex0 ρ σ H2 ex2 _ ((fr.mono l).mono l2) ?_
  rw [sat_bind] at q
  refine q.imp (fun o2 q H3 ex3 l3 => ?_) fun _ z => z.mono (l.trans l2)
  have lt := (l.trans l2).trans l3
  have a3 := a.mono (l2.trans l3).cuts
  cases a3 with
  | @lst b vs ds h hz hs =>
    refine .inl ⟨b, vs, rfl, cut_same.seq h, fun pp hp => ?_⟩
    have q : Post X.K ad H ex .fz Q (.lst (cutD ds o o2)) := q
    exact post_lstF (ex := ex3) (fun v H' ex' fp l' r nd nw => q v H' ex' fp (lt.trans l') r nd fun a z zz => nw a z (lt.keep a zz)) (cut_ats hs o o2) (Nat.le_trans (cutV_length _ _ _) hz) (fr.mono lt).exok hp
  | @tup b vs ds h hz hs =>
    refine .inr (.inl ⟨b, vs, rfl, seqT cut_same h, fun hw => ?_, fun hw pp hp => ?_⟩)
    · have e : cutD ds o o2 = ds := by
        unfold cutD
        rw [hs.length]
        exact cut_whole hw.1 (hw.2.trans hs.length.symm)
      have q : Post X.K ad H ex .fz Q (.tup (cutD ds o o2)) := q
      rw [e] at q
      exact post_fz q lt (.tup h hz hs)
    · have q : Post X.K ad H ex .fz Q (.tup (cutD ds o o2)) := q
      exact post_tup (ex := ex3) (fun v H' ex' fp l' r nd nw => q v H' ex' fp (lt.trans l') r nd fun a z zz => nw a z (lt.keep a zz)) (cut_ats hs o o2) (Nat.le_trans (cutV_length _ _ _) hz) (fr.mono lt).exok hp
  | str z =>
    dsimp only at q
    split at q
    · rename_i hh
      exact .inr (.inr ⟨z, rfl, sq16 hh, post_fz q lt (.str _)⟩)
    · exact q.elim
  | _ => exact q.elim
/-- x[::-1] of a list -/
def revK (ds : List D) : R D := .ok (.lst ds.reverse)
theorem de_revK {e : Expr} {k : Nat} {p1 p2 p3 : Pos} {f : Env → R (List D)} (h : DK X ad w G e f) : DE X ad w G (.Subscript e (.Slice none none (some (.UnaryOp .USub (.Constant (.int 1) k p1) p2)) p3) pos) (.own .fz) (oL revK f) := by
  obtain ⟨t, p, kk⟩ := h
  refine ⟨_, pe_revL p, fun ex0 ρ σ H ex Q fr q => ?_⟩
  refine kk ex0 ρ σ H ex _ fr ?_
  unfold oL at q
  rw [sat_bind] at q
  refine q.imp (fun ds q v H1 ex1 l ⟨a, vs, e1, hq, hz, hA⟩ => ?_) fun _ z => z
  subst e1
  refine ⟨a, vs, rfl, hq, fun pp hp => ?_⟩
  have q : Post X.K ad H ex (.own .fz) Q (.lst ds.reverse) := q
  exact post_lst (ex := ex1) (fun v H' ex' fp l' r nd nw => q v H' ex' fp (l.trans l') r nd fun a z zz => nw a z (l.keep a zz)) hA.reverse (by rw [List.length_reverse]; exact hz) (fr.mono l).exok hp
/-- [e] * n -/
def dRepL (f g : Env → R D) : Env → R D := fun ρ => (f ρ).bind fun d => (g ρ).bind fun n => match n with
  | .int k => if -(2 ^ 62) ≤ k ∧ k ≤ 16777216 then .ok (.lst (List.replicate k.toNat d)) else .bad
  | _ => .bad
theorem flat_one {α : Type} (n : Nat) (v : α) : (List.replicate n [v]).flatten = List.replicate n v := by
  induction n with
  | zero => rfl
  | succ n ih =>
    rw [List.replicate_succ, List.replicate_succ, List.flatten_cons, ih]
    rfl
theorem ats_rep {K : PySem.W.Frag} {H : Hp} {d : D} {v : V} (h : At K ad H d v) : ∀ n : Nat, Ats K ad H (List.replicate n d) (List.replicate n v)
  | 0 => .nil
  | n + 1 => .cons h (ats_rep h n)
theorem de_repL {a b : Expr} {p1 : Pos} {f g : Env → R D} (ha : DE X ad w G a .fz f) (hb : DE X ad w G b .fz g) (hs : starEach [a] X.env = (false, eval a X.env) :: starEach [] X.env := by rfl) : DE X ad w G (.BinOp (.List [a] p1) .Mult b pos) (.own .fz) (dRepL f g) := by
  obtain ⟨ta, pa, ka⟩ := ha
  obtain ⟨tb, pb, kb⟩ := hb
  refine ⟨_, pe_op op_rep (pe_lst (pa_cons pa pa_nil hs)) pb, fun ex0 ρ σ H ex Q fr q => ?_⟩
  refine ka ex0 ρ σ H ex _ fr ?_
  unfold dRepL at q
  rw [sat_bind] at q
  refine q.imp (fun d q v H1 ex1 fp l r1 _ _ => ⟨by show 1 ≤ sizeLine; rw [sizeLine_eq]; omega, fun pp hp => ?_⟩) fun _ z => z
  have a1 := rep_fz r1
  have f1 := fr.mono l
  have l1 : Le H1 ex1 (upd H1 pp (.lst [v])) ex1 := Le.lay hp
  refine kb ex0 ρ σ _ ex1 _ (f1.mono l1) ?_
  rw [sat_bind] at q
  refine q.imp (fun n q u H2 ex2 fp2 l2 r2 _ _ => ?_) fun _ z => z.mono (l.trans l1)
  have a2 := rep_fz r2
  have lt := (l.trans l1).trans l2
  cases a2 with
  | int k =>
    dsimp only at q
    split at q
    · rename_i hk
      refine ⟨pp, k, [v], rfl, rfl, l2.same _ _ upd_same, by omega, by omega, by show 1 * k.toNat ≤ sizeLine; rw [sizeLine_eq]; omega, fun p3 hp3 => ?_⟩
      rw [flat_one]
      have q : Post X.K ad H ex (.own .fz) Q (.lst (List.replicate k.toNat d)) := q
      exact post_lst (ex := ex2) (fun v H' ex' fp l' r nd nw => q v H' ex' fp (lt.trans l') r nd fun a z zz => nw a z (lt.keep a zz)) (ats_rep (a1.mono (l1.trans l2).cuts) _) (by rw [List.length_replicate, sizeLine_eq]; omega) (fr.mono lt).exok hp3
    · exact q.elim
  | _ => exact q.elim
/-- x += e of ints -/
def oAug (i : Nat) (f : Env → R D) : Env → Out := fun ρ => match dV i ρ with
  | .ok (.int a) => (f ρ).then ρ fun d => match d with
    | .int b => .nx (ρ.set i (some (.int (a + b))))
    | _ => .bad
  | _ => .bad
theorem sd_augAdd (i : Nat) {x : Str} {e : Expr} {p1 : Pos} {f : Env → R D} (he : DE X ad w G e .fz f) (hN : X.N.Nodup) (hi : X.N[i]? = some x := by rfl) (hx : Loc X.env.scope x := by first | exact Or.inl rfl | exact Or.inr rfl) (hg : sh G i = .fz := by rfl)
    (hf : X.fn x = true ∨ X.env.scope.names.lookup x = some .local := by first | exact .inl rfl | exact .inr rfl | assumption) : SD X ad w rs G (.AugAssign (.Name x p1) .Add e pos) (oAug i f) := by
  obtain ⟨t, p, k⟩ := he
  refine ⟨_, ps_aug hN hi hx p ip_add hf, fun H0 ex0 ρ σ H ex De l fr q => ?_⟩
  unfold oAug dV at q
  cases e1 : ρ[i]? with
  | none => rw [e1] at q; exact q.elim
  | some o =>
    cases o with
    | none => rw [e1] at q; exact q.elim
    | some d =>
      rw [e1] at q
      dsimp only at q
      obtain ⟨v, e2, a⟩ := fr.fz e1 hg
      cases a with
      | int z =>
        dsimp only at q
        refine ⟨_, e2, ?_⟩
        refine k ex0 ρ σ H ex _ fr (sat_then l fr q fun d q => ?_)
        intro u H' ex' fp l' r _ _
        have a2 := rep_fz r
        cases a2 with
        | int b => exact ⟨_, _, rfl, rfl, q (σ.set i (some (.int (z + b)))) H' ex' (l.trans l') l'.cuts ((fr.mono l').setF hg (.int _))⟩
        | _ => exact q.elim
      | _ => exact q.elim
theorem sd_doc {x j p1} : SD X ad w rs G (.Expr (.Constant (.str x) j p1) pos) oNx := ⟨_, ps_doc, fun H0 ex0 ρ σ H ex De l f q => q σ H ex l Mo.refl f⟩
/-- a sign in a text -/
def oInS (neg : Bool) : D → D → R D
  | .str x, .str z => if x.length = 1 then .ok (.bl (if neg then !z.cps.toList.contains (x.cps.getD 0 0) else z.cps.toList.contains (x.cps.getD 0 0))) else .bad
  | _, _ => .bad
theorem no_inS {neg : Bool} : ∀ d e c, oInS neg d e ≠ .exc c := by
  intro d e c z
  unfold oInS at z
  split at z <;> (try split at z) <;> cases z
theorem one_sign {x : Str} (h : x.length = 1) : x = ⟨#[x.cps.getD 0 0]⟩ := by
  obtain ⟨⟨l⟩⟩ := x
  have h : l.length = 1 := h
  match l, h with
  | [c], _ => rfl
theorem dop_inS : DOp X ad (compareOp .In) .fz (oInS false) := by
  refine ⟨_, op_in_sign, fun x y d e H ex Q hx a b q => ?_⟩
  cases a <;> cases b <;> first | exact q.elim | skip
  unfold oInS at q
  dsimp only at q
  split at q
  · rename_i x z hh
    refine ⟨_, z, congrArg V.str (one_sign hh), rfl, ?_⟩
    have e : decide (x.cps.getD 0 0 ∈ z.cps.toList) = z.cps.toList.contains (x.cps.getD 0 0) := by
      rw [List.contains_eq_mem]
    rw [e]
    exact post_fz q (Le.refl _ _) (.bl _)
  · exact q.elim
theorem dop_inSN : DOp X ad (compareOp .NotIn) .fz (oInS true) := by
  refine ⟨_, op_notIn_sign, fun x y d e H ex Q hx a b q => ?_⟩
  cases a <;> cases b <;> first | exact q.elim | skip
  unfold oInS at q
  dsimp only at q
  split at q
  · rename_i x z hh
    refine ⟨_, z, congrArg V.str (one_sign hh), rfl, ?_⟩
    have e : decide (x.cps.getD 0 0 ∈ z.cps.toList) = z.cps.toList.contains (x.cps.getD 0 0) := by
      rw [List.contains_eq_mem]
    rw [e]
    exact post_fz q (Le.refl _ _) (.bl _)
  · exact q.elim
end
/-- a refusal -/
def oRaise (e : Ex) : Env → Out := fun ρ => .xc e ρ
end DL

set_option Elab.async false
set_option linter.all false
set_option maxRecDepth 100000
set_option maxHeartbeats 4000000
set_option autoImplicit false
/-! DL11: the end. -/
namespace DL
open PySem PySem.Spec PyProof.Rows L2
theorem Ats.ints {K : PySem.W.Frag} {ad : Adr} {H : Hp} : ∀ ns : List Int, Ats K ad H (ns.map .int) (ns.map V.int)
  | [] => .nil
  | _ :: ns => .cons (.int _) (Ats.ints ns)
/-- what the law asks of its def -/
def spW (K : PySem.W.Frag) (F : List D → R D) : Sp := fun vs H Q E => ∀ ad : Adr, spD K ad 1 .fz F vs H Q E
theorem spW_ok {P : Program} {wd : World} {K : PySem.W.Frag} {mg : Str → Option Value} {base : Heap} {CX : CXT} {k : Nat} {f : Addr} {fd : FuncData} {ps : List Str} {F : List D → R D} (ad : Adr)
    (h : FnOk P wd K mg base CX k f fd ps (spD K ad 1 .fz F)) : FnOk P wd K mg base CX k f fd ps (spW K F) := h.imp fun _ _ _ _ q => q ad
theorem walkD {l : PySem.W.OpenLaw} {n k : Nat} {q : Program} {loose : List Str} {XP : (Str → Option Value) → Heap → Prop} {YP : World → Heap → Prop} {d : DefRec} {K : Params → PySem.W.Frag} {x : Str} {F : List D → R D}
    (hn : l.most = some n) (hn2 : n ≤ sizeLine) (hdf : d.params.defaults = []) (hr : Room k callerA)
    (hY : ∀ (w : World) (h : Heap), YP w h → (K w.params).In h)
    (hF : ∀ ns : List Int, ns.length ≤ n → F [.lst (ns.map .int)] = .ok (.bl true))
    (Fn : ∀ (w : World) (mg : Str → Option Value) (fa : Addr) (h : Heap), (K w.params).In h → h.Ns mainGlobals mg → mg d.name = some (.ref fa) →
      ∃ fd : FuncData, (∀ (s : Shared) (u : Value), BindsTo s fd ⟨[u], []⟩ [(x, u)]) ∧
        ∀ base : Heap, (K w.params).In base → base.Ns mainGlobals mg → FnOk l.prog w (K w.params) mg base (L2.CX l.prog w) k fa fd [x] (spW (K w.params) F)) :
    PySem.W.WalkO q loose XP YP l.row.toRowW d [] (fun f vs => PySem.call f vs) := by
  refine L2.walk_of (CX := fun w => L2.CX l.prog w) (sp := fun w => spW (K w.params) F) hn hn2 hdf hr hY Fn (fun w H a ns hl hO hS ad => ?_) ?_
  · refine ⟨rfl, fun _ => False, [.lst (ns.map .int)], fun _ z => z.elim, ?_, ?_⟩
    · have hc : cut H (fun _ => False) = H := by
        funext b
        simp [cut]
      rw [hc]
      exact .cons (.lst hS (by rw [List.length_map]; exact Nat.le_trans hl hn2) (Ats.ints ns)) .nil
    · rw [hF ns hl]
      intro v H' ex' fp _ r _ _
      cases r with
      | fz h => cases h; rfl
  · rintro w H s e s' ⟨_, _, _, _, _, _, _, _, _, _, _, _, z⟩
    exact z
end DL

set_option Elab.async false
set_option linter.all false
set_option maxRecDepth 100000
set_option maxHeartbeats 4000000
set_option autoImplicit false
/-! DL12: isinstance, two names at once, more of tuples and lists. -/
namespace DL
open PySem PySem.Spec PyProof.Rows L2
/-- the types that are asked for -/
inductive Tn where
  | list | tuple | int | bool | str
def Tn.nm : Tn → String
  | .list => "list"
  | .tuple => "tuple"
  | .int => "int"
  | .bool => "bool"
  | .str => "str"
/-- is d of that type -/
def isiB : Tn → D → Option Bool
  | _, .exc _ => none
  | .list, .lst _ => some true
  | .tuple, .tup _ => some true
  | .int, .int _ => some true
  | .int, .bl _ => some true
  | .bool, .bl _ => some true
  | .str, .str _ => some true
  | _, _ => some false
def oIsi (t : Tn) : D → R D := fun d => match isiB t d with
  | some b => .ok (.bl b)
  | none => .bad
theorem tyx_at {K : PySem.W.Frag} {ad : Adr} {H : Hp} {d : D} {v : V} {t : Tn} {b : Bool} (h : At K ad H d v) (e : isiB t d = some b) : ∃ u : Value, TyX K H v u ∧ PySem.W.kitOne K u (.type t.nm) = some b := by
  cases h with
  | non => exact ⟨_, .base .non, kit_ty (by cases t <;> cases e <;> decide +kernel)⟩
  | bl x => exact ⟨_, .base (.bl x), kit_ty (by cases t <;> cases e <;> decide +kernel)⟩
  | int i => exact ⟨_, .base (.int i), kit_ty (by cases t <;> cases e <;> decide +kernel)⟩
  | str x => exact ⟨_, .base (.str x), kit_ty (by cases t <;> cases e <;> decide +kernel)⟩
  | lst hs hz ha =>
    have k : PySem.W.kitOne K (.type "list") (.type t.nm) = some b := kit_ty (by cases t <;> cases e <;> decide +kernel)
    rcases hs with (h | ⟨o, h⟩) | ⟨o, its, n, h1, h2, _⟩
    · exact ⟨_, .base (.lst h), k⟩
    · exact ⟨_, .base (.frz h), k⟩
    · exact ⟨_, .kList h1 h2, k⟩
  | tup hs hz ha =>
    have k : PySem.W.kitOne K (.type "tuple") (.type t.nm) = some b := kit_ty (by cases t <;> cases e <;> decide +kernel)
    rcases hs with (h | ⟨o, h⟩) | ⟨o, its, n, h1, h2, _⟩
    · exact ⟨_, .base (.tup h), k⟩
    · exact ⟨_, .fTuple h, k⟩
    · exact ⟨_, .kTuple h1 h2, k⟩
  | exc x h => cases t <;> cases e
theorem boot_list : bootBuiltins "list" = some (.type "list") := by decide +kernel
theorem boot_tuple : bootBuiltins "tuple" = some (.type "tuple") := by decide +kernel
theorem boot_bool : bootBuiltins "bool" = some (.type "bool") := by decide +kernel
theorem boot_str : bootBuiltins "str" = some (.type "str") := by decide +kernel
section
variable {X : Cx} {ad : Adr} {w : Wi} {rs : Sh} {G : Shs} {pos : Pos}
theorem de_isi {e : Expr} {f : Env → R D} {T : Str} {p p2 : Pos} (t : Tn) (he : DU X ad w G e f) (hi : X.mg "isinstance" = none) (hT : X.mg T = none) (hv : bootBuiltins T = some (.type t.nm)) (hn : T ≠ "__name__" := by decide) (hdb : (T == ("__debug__" : Str)) = false := by decide) (hg : Gl X "isinstance" := by rfl) (hgT : Gl X T := by rfl)
    (h1 : starEach [e, .Name T p2] X.env = (false, eval e X.env) :: starEach [.Name T p2] X.env := by rfl) (h2 : starEach [.Name T p2] X.env = (false, eval (.Name T p2) X.env) :: starEach [] X.env := by rfl)
    (hpl : (backTo pos (starEach [.Name T p2] X.env)).any (·.1) = false := by rfl) :
    DE X ad w G (.Call (.Name "isinstance" p) [e, .Name T p2] [] pos) .fz (d1 (oIsi t) f) := by
  obtain ⟨te, pe, ke⟩ := he
  have pT : PE X (.Name T p2) (tC (.ty t.nm)) := pe_bltn hgT hT hv rfl hn hdb
  refine ⟨_, pe_callB call_isi hg hi PyProof.Rows.boot_isinstance (pa_cons pe (pa_cons pT pa_nil h2) h1) (by decide) (by decide) h1 hpl, fun ex0 ρ σ H ex Q fr q => ?_⟩
  refine ke ex0 ρ σ H ex _ fr ?_
  unfold d1 at q
  rw [sat_bind] at q
  refine q.imp (fun d q v H1 ex1 l a => ?_) fun _ z => z
  unfold oIsi at q
  split at q
  · rename_i b e
    obtain ⟨u, k1, k2⟩ := tyx_at a e
    exact ⟨v, .ty t.nm, u, .type t.nm, b, rfl, .ty _, k1, k2, post_fz q l (.bl _)⟩
  · exact q.elim
/-- a, b = x, y -/
theorem sd_par {x y : Str} {a b : Expr} {f : Env → R (List D)} {px py pt kt k2 pt2} (i j : Nat) (ha : DA X ad w G [a, b] f) (nd : X.N.Nodup) (hc : X.calm = true := by rfl) (hi : X.N[i]? = some x := by rfl) (hj : X.N[j]? = some y := by rfl) (hij : i ≠ j := by decide)
    (gi : sh G i = .fz := by rfl) (gj : sh G j = .fz := by rfl)
    (hx : X.env.scope.names.lookup x = some .local := by rfl) (hy : X.env.scope.names.lookup y = some .local := by rfl)
    (hw : swappedStores [.Tuple [.Name x px, .Name y py] kt pt] (.Tuple [a, b] k2 pt2) X.env = pure (some [x, y]) := by rfl)
    (hs : swapsWithSole [.Tuple [.Name x px, .Name y py] kt pt] (.Tuple [a, b] k2 pt2) pos.line X.env = pure false := by rfl) :
    SD X ad w rs G (.Assign [.Tuple [.Name x px, .Name y py] kt pt] (.Tuple [a, b] k2 pt2) pos) (oAsg (tT (tCons' (tN i) (tCons' (tN j) tNil'))) (dTup f)) := by
  obtain ⟨t, p, k⟩ := ha
  refine ⟨_, ps_par hc nd hi hj hij hx hy p hw hs, fun H0 ex0 ρ σ H ex De l fr q => ?_⟩
  refine k ex0 ρ σ H ex _ fr ?_
  unfold oAsg dTup at q
  cases e : f ρ with
  | bad => rw [e] at q; exact q.elim
  | exc c => rw [e] at q; exact fun H' ex' l' => q σ H' ex' (l.trans l') l'.cuts (fr.mono l').frz
  | ok ds =>
    rw [e] at q
    intro vs H1 ex1 l1 a
    match ds, q, a with
    | [d, d'], q, .cons (v := v) a1 (.cons (v := v') a2 .nil) =>
      refine ⟨v, v', rfl, ?_⟩
      exact q _ H1 ex1 (l.trans l1) l1.cuts (((fr.mono l1).setF gi a1).setF gj a2)
    | [], q, _ => exact q.elim
    | [_], q, _ => exact q.elim
    | _ :: _ :: _ :: _, q, _ => exact q.elim
/-- a, b, c = x, y, z -/
theorem sd_par3 {x y z : Str} {a b c : Expr} {f : Env → R (List D)} {px py pz pt kt k2 pt2} (i j l : Nat) (ha : DA X ad w G [a, b, c] f) (nd : X.N.Nodup) (hc : X.calm = true := by rfl) (hi : X.N[i]? = some x := by rfl) (hj : X.N[j]? = some y := by rfl) (hl : X.N[l]? = some z := by rfl) (hij : i ≠ j := by decide) (hil : i ≠ l := by decide) (hjl : j ≠ l := by decide)
    (gi : sh G i = .fz := by rfl) (gj : sh G j = .fz := by rfl) (gl : sh G l = .fz := by rfl)
    (hx : X.env.scope.names.lookup x = some .local := by rfl) (hy : X.env.scope.names.lookup y = some .local := by rfl) (hz : X.env.scope.names.lookup z = some .local := by rfl)
    (hw : swappedStores [.Tuple [.Name x px, .Name y py, .Name z pz] kt pt] (.Tuple [a, b, c] k2 pt2) X.env = pure (some [x, y, z]) := by rfl)
    (hs : swapsWithSole [.Tuple [.Name x px, .Name y py, .Name z pz] kt pt] (.Tuple [a, b, c] k2 pt2) pos.line X.env = pure false := by rfl) :
    SD X ad w rs G (.Assign [.Tuple [.Name x px, .Name y py, .Name z pz] kt pt] (.Tuple [a, b, c] k2 pt2) pos) (oAsg (tT (tCons' (tN i) (tCons' (tN j) (tCons' (tN l) tNil')))) (dTup f)) := by
  obtain ⟨t, p, k⟩ := ha
  refine ⟨_, ps_par3 hc nd hi hj hl hij hil hjl hx hy hz p hw hs, fun H0 ex0 ρ σ H ex De ll fr q => ?_⟩
  refine k ex0 ρ σ H ex _ fr ?_
  unfold oAsg dTup at q
  cases e : f ρ with
  | bad => rw [e] at q; exact q.elim
  | exc c => rw [e] at q; exact fun H' ex' l' => q σ H' ex' (ll.trans l') l'.cuts (fr.mono l').frz
  | ok ds =>
    rw [e] at q
    intro vs H1 ex1 l1 a
    match ds, q, a with
    | [d, d', d2], q, .cons (v := v) a1 (.cons (v := v') a2 (.cons (v := v2) a3 .nil)) =>
      refine ⟨v, v', v2, rfl, ?_⟩
      exact q _ H1 ex1 (ll.trans l1) l1.cuts ((((fr.mono l1).setF gi a1).setF gj a2).setF gl a3)
    | [], q, _ => exact q.elim
    | [_], q, _ => exact q.elim
    | [_, _], q, _ => exact q.elim
    | _ :: _ :: _ :: _ :: _, q, _ => exact q.elim
end
end DL

set_option Elab.async false
set_option linter.all false
set_option maxRecDepth 100000
set_option maxHeartbeats 4000000
set_option autoImplicit false
/-! DL13: refusals. -/
namespace DL
open PySem PySem.Spec PyProof.Rows L2
/-- the class of the refusal c, x by name -/
structure XC (K : PySem.W.Frag) (mg : Str → Option Value) (ad : Adr) (c : Ex) (x : Str) : Prop where
  g : mg x = some (.ref (ad c))
  q : ∃ bm : List Value, (∃ B n i, ExcBaseFacts B n i bm ∧ PySem.W.excIn K (ad c) bm n = true)
  k : PySem.W.keepIn K (.ref (ad c)) = true
  b : PySem.W.subIn K (.ref (ad c)) (.type "BaseException") = some true
  t : PySem.W.typeIn K (.ref (ad c)) = some (.type "type")
section
variable {X : Cx} {ad : Adr} {w : Wi} {rs : Sh} {G G' : Shs} {pos : Pos}
theorem sds_raise {c : Ex} {x m : Str} {j : Nat} {p p2 pos2 : Pos} (F : XC X.K X.mg ad c x) (tk : Tk X ad w) (hc : X.calm = true := by rfl) (hg : Gl X x := by rfl) (hdb : (x == ("__debug__" : Str)) = false := by decide) :
    SDs X ad w rs G G' [.Raise (some (.Call (.Name x p) [.Constant (.str m) j p2] [] pos2)) none pos] (oRaise c) := by
  obtain ⟨W, hW, lk⟩ := tk
  obtain ⟨bm, B, n, i, f, q⟩ := F.q
  refine ⟨_, pss_one (ps_raise hc hW (pmk_own f q F.g F.k (raises_own F.b F.t) hg hdb)), fun H0 ex0 ρ σ H ex De l fr q => ?_⟩
  exact lk _ _ _ (q σ H ex l (fun _ _ h => h) fr.frz)
end
end DL

set_option Elab.async false
set_option linter.all false
set_option maxRecDepth 100000
set_option maxHeartbeats 4000000
set_option autoImplicit false
/-! DL14: two places of a list at once, lent lists, sums of lists, tuples again and again. -/
namespace DL
open PySem PySem.Spec PyProof.Rows L2
/-- x[k] = d, x the list at slot i -/
def oPut (i : Nat) (fk : Env → R D) (d : D) : Env → Out := fun ρ => match (dV i ρ).bind isL with
  | .ok xs => match fk ρ with
    | .ok (.int k) => if 0 ≤ k ∧ k < xs.length then .nx (ρ.set i (some (.lst (xs.set k.toNat d)))) else .bad
    | _ => .bad
  | _ => .bad
section
variable {X : Cx} {ad : Adr} {w : Wi} {rs : Sh} {G G' : Shs} {pos : Pos}
theorem put_ok (i : Nat) {fk : Env → R D} {tk : TE} (kk : ∀ ex0 ρ σ H ex Q, Fra X.K ad G ex0 ρ σ H ex → Sat (fk ρ) (Post X.K ad H ex .fz Q) (Exc w σ H ex) → tk σ H Q) (hg : ownL (sh G i) = true)
    {H0 H : Hp} {ex0 ex : Own} {ρ : Env} {σ : L2.St} {d : D} {v : V} {Q : L2.St → Hp → Prop} (l : Le H0 ex0 H ex) (f : Fra X.K ad G ex0 ρ σ H ex) (a : At X.K ad (cut H ex) d v)
    (q : match oPut i fk d ρ with | .nx ρ' => ∀ H' ex', Le H0 ex0 H' ex' → Mo H ex H' ex' → Fra X.K ad G ex0 ρ' σ H' ex' → Q σ H' | _ => False) : gSub (tVar i) tk rSetL v σ H Q := by
  unfold oPut at q
  cases e1 : (dV i ρ).bind isL with
  | exc c => rw [e1] at q; exact q.elim
  | bad => rw [e1] at q; exact q.elim
  | ok xs =>
  rw [e1] at q
  have er := slot_own e1
  obtain ⟨b, vs, ds, ed, eσ, hex, hn, hH, hz, hA, _⟩ := f.own er hg
  cases ed
  refine ⟨_, eσ, ?_⟩
  refine kk ex0 ρ σ H ex _ f ?_
  cases e2 : fk ρ with
  | exc c => rw [e2] at q; exact q.elim
  | bad => rw [e2] at q; exact q.elim
  | ok kd =>
    rw [e2] at q
    intro kv H2 ex2 fp2 l2 r2 _ _
    have a2 := rep_fz r2
    cases a2 with
    | int kz =>
      dsimp only at q
      split at q
      · rename_i ρ' ho
        split at ho
        · rename_i hk
          cases ho
          have f2 := f.mono l2
          obtain ⟨a', vs', ds', ed, eσ', hex', hn', hH', hz', hA', wr⟩ := f2.own er hg
          cases ed
          rw [eσ] at eσ'
          cases eσ'
          rw [hA'.length] at hk
          refine ⟨b, vs', kz, kz.toNat, rfl, rfl, hH', ixN_nat hk.1 hk.2, ?_⟩
          exact q _ ex2 (own_le (l.trans l2) hex' hn') (l2.cuts.trans (own_mo hex')) (wr _ _ (by rw [List.length_set]; exact hz') (hA'.set (a.mono l2.cuts) _))
        · cases ho
      · exact q.elim
    | _ => exact q.elim
/-- x[j], y[k] = a, b -/
def oPut2 (i : Nat) (fk : Env → R D) (i2 : Nat) (fk2 : Env → R D) (f : Env → R (List D)) : Env → Out := fun ρ => (f ρ).then ρ fun ds => match ds with
  | [d, e] => match oPut i fk d ρ with
    | .nx ρ1 => match oPut i2 fk2 e ρ1 with
      | .nx ρ2 => .nx ρ2
      | _ => .bad
    | _ => .bad
  | _ => .bad
theorem put2_ok (i i2 : Nat) {fk fk2 : Env → R D} {t1 t2 : TE} (kk1 : ∀ ex0 ρ σ H ex Q, Fra X.K ad G ex0 ρ σ H ex → Sat (fk ρ) (Post X.K ad H ex .fz Q) (Exc w σ H ex) → t1 σ H Q) (kk2 : ∀ ex0 ρ σ H ex Q, Fra X.K ad G ex0 ρ σ H ex → Sat (fk2 ρ) (Post X.K ad H ex .fz Q) (Exc w σ H ex) → t2 σ H Q)
    (hg : ownL (sh G i) = true) (hg2 : ownL (sh G i2) = true) {H0 H : Hp} {ex0 ex : Own} {ρ : Env} {σ : L2.St} {d d' : D} {u u' : V} {Q : L2.St → Hp → Prop} (l : Le H0 ex0 H ex) (fr : Fra X.K ad G ex0 ρ σ H ex) (a1 : At X.K ad (cut H ex) d u) (a2 : At X.K ad (cut H ex) d' u')
    (q : match oPut i fk d ρ with
      | .nx ρ1 => (match oPut i2 fk2 d' ρ1 with | .nx ρ2 => ∀ H' ex', Le H0 ex0 H' ex' → Mo H ex H' ex' → Fra X.K ad G ex0 ρ2 σ H' ex' → Q σ H' | _ => False)
      | _ => False) : gCons (gSub (tVar i) t1 rSetL) (gCons (gSub (tVar i2) t2 rSetL) gNil) [u, u'] σ H Q := by
  refine ⟨u, [u'], rfl, ?_⟩
  refine put_ok i kk1 hg l fr a1 ?_
  cases e1 : oPut i fk d ρ with
  | rt d => rw [e1] at q; exact q.elim
  | xc c ρ => rw [e1] at q; exact q.elim
  | bad => rw [e1] at q; exact q.elim
  | nx ρ1 =>
    rw [e1] at q
    dsimp only at q ⊢
    intro H2 ex2 l2 m2 f2
    refine ⟨u', [], rfl, ?_⟩
    refine put_ok i2 kk2 hg2 l2 f2 (a2.mono m2) ?_
    cases e2 : oPut i2 fk2 d' ρ1 with
    | rt d => rw [e2] at q; exact q.elim
    | xc c ρ => rw [e2] at q; exact q.elim
    | bad => rw [e2] at q; exact q.elim
    | nx ρ2 =>
      rw [e2] at q
      exact fun H3 ex3 l3 m3 f3 => ⟨rfl, q H3 ex3 l3 (m2.trans m3) f3⟩
theorem sd_put2 (i i2 : Nat) {x y : Str} {k1 k2 a b : Expr} {p1 p2 p3 p4 pt pt2 : Pos} {kt kt2 : Nat} {fk fk2 : Env → R D} {f : Env → R (List D)} (ha : DA X ad w G [a, b] f) (cn : ∀ ρ ds, f ρ = .ok ds → ds.length = 2) (h1 : DE X ad w G k1 .fz fk) (h2 : DE X ad w G k2 .fz fk2)
    (hc : X.calm = true := by rfl) (hN : X.N[i]? = some x := by rfl) (hg : ownL (sh G i) = true := by rfl) (hN2 : X.N[i2]? = some y := by rfl) (hg2 : ownL (sh G i2) = true := by rfl)
    (hv : Vis X.env.scope x := by first | exact Or.inl rfl | exact Or.inr (Or.inl rfl) | exact Or.inr (Or.inr rfl)) (hd : (x == ("__debug__" : Str)) = false := by decide) (hcd : (x == ("__classdict__" : Str)) = false := by decide)
    (hv2 : Vis X.env.scope y := by first | exact Or.inl rfl | exact Or.inr (Or.inl rfl) | exact Or.inr (Or.inr rfl)) (hd2 : (y == ("__debug__" : Str)) = false := by decide) (hcd2 : (y == ("__classdict__" : Str)) = false := by decide)
    (hs : swapsWithSole [.Tuple [.Subscript (.Name x p1) k1 p2, .Subscript (.Name y p3) k2 p4] kt pt] (.Tuple [a, b] kt2 pt2) pos.line X.env = pure false := by rfl)
    (hw : swappedStores [.Tuple [.Subscript (.Name x p1) k1 p2, .Subscript (.Name y p3) k2 p4] kt pt] (.Tuple [a, b] kt2 pt2) X.env = pure none := by rfl)
    (hn : (assignEach [.Subscript (.Name x p1) k1 p2, .Subscript (.Name y p3) k2 p4] X.env).length = 2 := by rfl) (hst : (assignEach [.Subscript (.Name x p1) k1 p2, .Subscript (.Name y p3) k2 p4] X.env).findIdx? (·.1) = none := by rfl)
    (m1 : (assignEach [.Subscript (.Name x p1) k1 p2, .Subscript (.Name y p3) k2 p4] X.env).map (·.2) = assign (.Subscript (.Name x p1) k1 p2) X.env :: (assignEach [.Subscript (.Name y p3) k2 p4] X.env).map (·.2) := by rfl)
    (m2 : (assignEach [.Subscript (.Name y p3) k2 p4] X.env).map (·.2) = assign (.Subscript (.Name y p3) k2 p4) X.env :: (assignEach [] X.env).map (·.2) := by rfl)
    (m3 : (assignEach [.Tuple [.Subscript (.Name x p1) k1 p2, .Subscript (.Name y p3) k2 p4] kt pt] X.env).map (·.2) = [assign (.Tuple [.Subscript (.Name x p1) k1 p2, .Subscript (.Name y p3) k2 p4] kt pt) X.env] := by rfl)
    (g1 : ∀ v, assign (.Subscript (.Name x p1) k1 p2) X.env v = (do
      let ov ← holding [v] (eval (.Name x p1) X.env)
      let iv ← holding [v, ov] (eval k1 X.env)
      standAt p2
      holding [v, ov, iv] (setItem ov iv v)
      release [v, ov, iv] []) := by intro _; rfl)
    (g2 : ∀ v, assign (.Subscript (.Name y p3) k2 p4) X.env v = (do
      let ov ← holding [v] (eval (.Name y p3) X.env)
      let iv ← holding [v, ov] (eval k2 X.env)
      standAt p4
      holding [v, ov, iv] (setItem ov iv v)
      release [v, ov, iv] []) := by intro _; rfl) :
    SD X ad w rs G (.Assign [.Tuple [.Subscript (.Name x p1) k1 p2, .Subscript (.Name y p3) k2 p4] kt pt] (.Tuple [a, b] kt2 pt2) pos) (oPut2 i fk i2 fk2 f) := by
  obtain ⟨t, p, k⟩ := de_tup (x1 := kt2) (pos := pt2) ha cn
  obtain ⟨t1, q1, kk1⟩ := h1
  obtain ⟨t2, q2, kk2⟩ := h2
  refine ⟨_, ps_asg p (pg_tup hc (pgs_cons (pg_sub (pe_var hN hv hd hcd) q1 set_list g1) (pgs_cons (pg_sub (pe_var hN2 hv2 hd2 hcd2) q2 set_list g2) pgs_nil m2) m1) hn hst) hs hw m3, fun H0 ex0 ρ σ H ex De l fr q => ?_⟩
  refine k ex0 ρ σ H ex (fun v H1 => gTup X.K 2 (gCons (gSub (tVar i) t1 rSetL) (gCons (gSub (tVar i2) t2 rSetL) gNil)) v σ H1 De.nx) fr ?_
  unfold oPut2 at q
  unfold dTup
  cases e : f ρ with
  | bad => rw [e] at q; exact q.elim
  | exc c => rw [e] at q; exact fun H' ex' l' => q σ H' ex' (l.trans l') l'.cuts (fr.mono l').frz
  | ok ds =>
    rw [e] at q
    obtain ⟨d, d', rfl⟩ : ∃ d d', ds = [d, d'] := by
      have := cn ρ ds e
      match ds, this with
      | [d, d'], _ => exact ⟨d, d', rfl⟩
    intro v H1 ex1 fp l1 r _ _
    have a0 := rep_fz r
    have q := Ok.from q l1.cuts
    cases a0 with
    | @tup b us _ hT _ hs =>
      cases hs with
      | cons a1 hs =>
        cases hs with
        | cons a2 hs =>
          cases hs
          refine ⟨b, _, rfl, seqT cut_same hT, rfl, ?_⟩
          refine put2_ok i i2 kk1 kk2 hg hg2 (l.trans l1) (fr.mono l1) a1 a2 ?_
          dsimp only [then_ok] at q
          cases e1 : oPut i fk d ρ with
          | rt d => rw [e1] at q; exact q.elim
          | xc c ρ => rw [e1] at q; exact q.elim
          | bad => rw [e1] at q; exact q.elim
          | nx ρ1 =>
            rw [e1] at q
            dsimp only at q ⊢
            cases e2 : oPut i2 fk2 d' ρ1 with
            | rt d => rw [e2] at q; exact q.elim
            | xc c ρ => rw [e2] at q; exact q.elim
            | bad => rw [e2] at q; exact q.elim
            | nx ρ2 =>
              rw [e2] at q
              exact fun H3 ex3 l3 m3 f3 => q σ H3 ex3 l3 m3 f3
/-! a def that looks at lists of ours and tells no thing that may hold them -/
def dCallL (F : List D → R D) (f : Env → R (List D)) : Env → R D := fun ρ => (f ρ).bind fun ds => match F ds with
  | .ok d => if flat d = true then .ok d else .bad
  | r => r
theorem flat_at {K : PySem.W.Frag} {H H' : Hp} {d : D} {v : V} (h : flat d = true) (a : At K ad H d v) : At K ad H' d v := by
  cases a with
  | non => exact .non
  | bl b => exact .bl b
  | int i => exact .int i
  | str x => exact .str x
  | lst _ _ _ => cases h
  | tup _ _ _ => cases h
  | exc _ _ => cases h
theorem de_callL {k j n : Nat} {x : Str} {p : Pos} {F : List D → R D} {e : Expr} {es : List Expr} {f : Env → R (List D)} (c : Cal X.prog X.w X.K X.mg X.base ad k x n .fz F) (hr : Room j X.A) (hk : k ≤ j) (tk : Tk X ad w) (ha : DUA X ad w G (e :: es) f) (hl : (e :: es).length = n := by rfl) (hg : Gl X x := by rfl)
    (hdb : (x == ("__debug__" : Str)) = false := by decide) (he : starEach (e :: es) X.env = (false, eval e X.env) :: starEach es X.env := by rfl) (hpl : (backTo pos (starEach es X.env)).any (·.1) = false := by rfl) (hn : ∀ ρ ds, f ρ = .ok ds → ds.length = n) :
    DE X ad w G (.Call (.Name x p) (e :: es) [] pos) .fz (dCallL F f) := by
  obtain ⟨fa, fd, ps, F1, hm, hkp, hb⟩ := c.ex
  obtain ⟨W, hW, lk⟩ := tk
  obtain ⟨t, pa, ka⟩ := ha
  refine ⟨_, pe_callS F1 (hr.mono hk) hg hm hkp hb (fun σ => passAt hW σ) pa hdb he hpl, fun ex0 ρ σ H ex Q fr q => ?_⟩
  refine ka ex0 ρ σ H ex _ fr ?_
  unfold dCallL at q
  rw [sat_bind] at q
  cases e1 : f ρ with
  | exc c => rw [e1] at q; exact q
  | bad => rw [e1] at q; exact q
  | ok ds =>
    rw [e1] at q
    intro vs H1 ex1 l a
    have hc : cut H1 (fun _ => False) = H1 := by
      funext b
      simp [cut]
    refine ⟨by rw [← a.length]; exact hn ρ ds e1, fun _ => False, ds, fun _ z => z.elim, by rw [hc]; exact a, ?_⟩
    have q : Sat (match F ds with | .ok d => if flat d = true then .ok d else .bad | r => r) (Post X.K ad H ex .fz Q) (Exc w σ H ex) := q
    cases e2 : F ds with
    | bad => rw [e2] at q; exact q
    | exc c =>
      rw [e2] at q
      exact fun H2 sm => lk c σ H2 (q H2 ex1 (l.trans ⟨sm, fun _ z => z, fun _ z => .inl z⟩))
    | ok d =>
      rw [e2] at q
      dsimp only at q
      split at q
      · rename_i hf
        intro v H2 ex2 fp l2 r nd nw
        exact post_fz q (l.trans ⟨l2.same, fun _ z => z, fun _ z => .inl z⟩) (flat_at hf (rep_fz r))
      · exact q.elim
/-! a + b, lists, whoever owns them -/
def oCat2 (f g : Env → R (List D)) : Env → R D := fun ρ => (f ρ).bind fun xs => (g ρ).bind fun ys => if xs.length + ys.length ≤ 16777216 then .ok (.lst (xs ++ ys)) else .bad
theorem de_cat2 {a b : Expr} {f g : Env → R (List D)} (ha : DK X ad w G a f) (hb : DK X ad w G b g) : DE X ad w G (.BinOp a .Add b pos) (.own .fz) (oCat2 f g) := by
  obtain ⟨ta, pa, ka⟩ := ha
  obtain ⟨tb, pb, kb⟩ := hb
  refine ⟨_, pe_op op_catL pa pb, fun ex0 ρ σ H ex Q fr q => ?_⟩
  refine ka ex0 ρ σ H ex _ fr ?_
  unfold oCat2 at q
  rw [sat_bind] at q
  refine q.imp (fun xs q v H1 ex1 l1 a1 => ?_) fun _ z => z
  refine kb ex0 ρ σ H1 ex1 _ (fr.mono l1) ?_
  rw [sat_bind] at q
  refine q.imp (fun ys q u H2 ex2 l2 a2 => ?_) fun _ z => z.mono l1
  obtain ⟨a, vs, rfl, h1, z1, s1⟩ := a1.ex
  obtain ⟨b, us, rfl, h2, z2, s2⟩ := a2.ex
  split at q
  · rename_i hz
    have s1' := s1.mono l2.cuts
    rw [s1.length, s2.length] at hz
    refine ⟨a, b, vs, us, rfl, rfl, l2.same.seq h1, h2, sq16 hz, fun pp hp => ?_⟩
    have q : Post X.K ad H ex (.own .fz) Q (.lst (xs ++ ys)) := q
    have lt := l1.trans l2
    exact post_lst (ex := ex2) (fun v H' ex' fp l' r nd nw => q v H' ex' fp (lt.trans l') r nd fun a z zz => nw a z (lt.keep a zz)) (s1'.append s2) (by rw [List.length_append]; exact sq16 hz) (fr.mono lt).exok hp
  · exact q.elim
/-- (x,) * n -/
def dRepT (f g : Env → R D) : Env → R D := fun ρ => (f ρ).bind fun d => (g ρ).bind fun n => match n with
  | .int k => if 2 ≤ k ∧ k ≤ 1000 then .ok (.tup (List.replicate k.toNat d)) else .bad
  | _ => .bad
theorem de_repT {a b : Expr} {p1 : Pos} {kt : Nat} {f g : Env → R D} (ha : DE X ad w G a .fz f) (hb : DE X ad w G b .fz g) (hs : starEach [a] X.env = (false, eval a X.env) :: starEach [] X.env := by rfl) : DE X ad w G (.BinOp (.Tuple [a] kt p1) .Mult b pos) .fz (dRepT f g) := by
  obtain ⟨ta, pa, ka⟩ := ha
  obtain ⟨tb, pb, kb⟩ := hb
  refine ⟨_, pe_op op_repT (pe_tup (pa_cons pa pa_nil hs)) pb, fun ex0 ρ σ H ex Q fr q => ?_⟩
  refine ka ex0 ρ σ H ex _ fr ?_
  unfold dRepT at q
  rw [sat_bind] at q
  refine q.imp (fun d q v H1 ex1 fp l r1 _ _ => ⟨by show 1 ≤ sizeLine; rw [sizeLine_eq]; omega, fun pp hp => ?_⟩) fun _ z => z
  have a1 := rep_fz r1
  have f1 := fr.mono l
  have l1 : Le H1 ex1 (upd H1 pp (.tup [v])) ex1 := Le.lay hp
  refine kb ex0 ρ σ _ ex1 _ (f1.mono l1) ?_
  rw [sat_bind] at q
  refine q.imp (fun n q u H2 ex2 fp2 l2 r2 _ _ => ?_) fun _ z => z.mono (l.trans l1)
  have a2 := rep_fz r2
  have lt := (l.trans l1).trans l2
  cases a2 with
  | int k =>
    dsimp only at q
    split at q
    · rename_i hk
      refine ⟨pp, k, [v], rfl, rfl, SqT.of (l2.same _ _ upd_same), by simp, hk.1, hk.2, by simp, fun p3 hp3 => ?_⟩
      rw [flat_one]
      have q : Post X.K ad H ex .fz Q (.tup (List.replicate k.toNat d)) := q
      exact post_tup (ex := ex2) (fun v H' ex' fp l' r nd nw => q v H' ex' fp (lt.trans l') r nd fun a z zz => nw a z (lt.keep a zz)) (ats_rep (a1.mono (l1.trans l2).cuts) _) (by rw [List.length_replicate, sizeLine_eq]; omega) (fr.mono lt).exok hp3
    · exact q.elim
  | _ => exact q.elim
end
end DL

set_option Elab.async false
set_option linter.all false
set_option maxRecDepth 100000
set_option maxHeartbeats 4000000
set_option autoImplicit false
/-! DL15: less of any two alike things. -/
namespace DL
open PySem PySem.Spec PyProof.Rows L2
section
variable {X : Cx} {ad : Adr} {w : Wi} {rs : Sh} {G G' : Shs} {pos : Pos}
def notN : D → Bool
  | .non => false
  | _ => true
/-- d < e -/
def oLtG (d e : D) : R D := if okP d = true ∧ okP e = true ∧ PySem.W.alike (toP d) (toP e) = true ∧ notN d = true then .ok (.bl (PySem.W.dataLt (toP d) (toP e))) else .bad
theorem op_ltD (hu : X.A.units + 64 < cLine) : OpR X (compareOp .Lt) (fun x y H Q => ∃ d e, Dp X.K H x d ∧ Dp X.K H y e ∧ d.depth ≤ 64 ∧ PySem.W.alike d e = true ∧ d ≠ .none ∧ Q (.bl (PySem.W.dataLt d e)) H) := by
  intro pins s σ H x y v u Q I rx ry h
  obtain ⟨d, e, hd, he, sd, al, nn, q⟩ := h
  obtain ⟨as, r1⟩ := Dp.reads I d x v hd rx
  obtain ⟨bs, r2⟩ := Dp.reads I e y u he ry
  exact PySem.W.lt_data r1 r2 al nn (by have := Nat.min_le_left d.depth e.depth; omega) ⟨.bl _, H, I, rfl, q⟩
theorem dop_ltG (hu : X.A.units + 64 < cLine) : DOp X ad (compareOp .Lt) .fz oLtG := by
  refine ⟨_, op_ltD hu, fun x y d e H ex Q hx a b q => ?_⟩
  unfold oLtG at q
  split at q
  · rename_i hh
    have h1 := okP_dp hh.1 a
    have h2 := okP_dp hh.2.1 b
    refine ⟨_, _, h1.1, h2.1, SeqAt.depth_of_shaped h1.2, hh.2.2.1, ?_, post_fz q (Le.refl _ _) (.bl _)⟩
    intro z
    cases d <;> first | exact absurd hh.2.2.2 (by decide) | cases z
  · exact q.elim
theorem no_ltG : ∀ d e c, oLtG d e ≠ .exc c := by
  intro d e c z
  unfold oLtG at z
  split at z <;> cases z
end
end DL

set_option Elab.async false
set_option linter.all false
set_option maxRecDepth 100000
set_option maxHeartbeats 4000000
set_option autoImplicit false
/-! DL16: two lists of one's own in a tuple. -/
namespace DL
open PySem PySem.Spec PyProof.Rows L2
/-- the shape -/
abbrev sh2 : Sh := .tup [.own .fz, .own .fz]
section
variable {X : Cx} {ad : Adr} {w : Wi} {rs : Sh} {G G' : Shs} {pos : Pos}
/-- return (x, y), two lists of ours -/
theorem sds_retT2 (i j : Nat) {x y : Str} {p1 p2 pt : Pos} {kt : Nat} (hN : X.N[i]? = some x := by rfl) (hN2 : X.N[j]? = some y := by rfl) (hg : sh G i = .own .fz := by rfl) (hg2 : sh G j = .own .fz := by rfl) (hij : i ≠ j := by decide)
    (hv : Vis X.env.scope x := by first | exact Or.inl rfl | exact Or.inr (Or.inl rfl) | exact Or.inr (Or.inr rfl)) (hd : (x == ("__debug__" : Str)) = false := by decide) (hcd : (x == ("__classdict__" : Str)) = false := by decide)
    (hv2 : Vis X.env.scope y := by first | exact Or.inl rfl | exact Or.inr (Or.inl rfl) | exact Or.inr (Or.inr rfl)) (hd2 : (y == ("__debug__" : Str)) = false := by decide) (hcd2 : (y == ("__classdict__" : Str)) = false := by decide)
    (h1 : starEach [.Name x p1, .Name y p2] X.env = (false, eval (.Name x p1) X.env) :: starEach [.Name y p2] X.env := by rfl) (h2 : starEach [.Name y p2] X.env = (false, eval (.Name y p2) X.env) :: starEach [] X.env := by rfl) :
    SDs X ad w sh2 G G' [.Return (some (.Tuple [.Name x p1, .Name y p2] kt pt)) pos] (oRet (dTup (dCons (dV i) (dCons (dV j) dNil)))) := by
  refine ⟨_, pss_one (ps_ret (pe_tup (pa_cons (pe_var hN hv hd hcd) (pa_cons (pe_var hN2 hv2 hd2 hcd2) pa_nil h2) h1))), fun H0 ex0 ρ σ H ex De l f q => ?_⟩
  unfold oRet dTup dCons dNil dV at q
  cases e : ρ[i]? with
  | none => rw [e] at q; exact q.elim
  | some o =>
  cases o with
  | none => rw [e] at q; exact q.elim
  | some d =>
  rw [e] at q
  cases e' : ρ[j]? with
  | none => rw [e'] at q; exact q.elim
  | some o' =>
  cases o' with
  | none => rw [e'] at q; exact q.elim
  | some d' =>
  rw [e'] at q
  obtain ⟨fps, f1, f2, f3, f4⟩ := f.slots
  obtain ⟨v, e1, r⟩ := f1 i d e
  obtain ⟨v', e1', r'⟩ := f1 j d' e'
  rw [hg] at r
  rw [hg2] at r'
  refine ⟨v, e1, v', e1', ?_⟩
  refine ⟨by show 2 ≤ sizeLine; rw [sizeLine_eq]; omega, fun p hp => ?_⟩
  have ll : Le H ex (upd H p (.tup [v, v'])) ex := Le.lay hp
  have hnx : ¬ ex p := fun z => by
    obtain ⟨o, h⟩ := f.exok p z
    rw [hp] at h
    cases h
  have q : Ok X.K ad w sh2 G G' H0 ex0 H ex De (.rt (.tup [d, d']) ρ) := q
  have np1 := noPin_slot f1 f3 (i := i) (by rw [hg]; rfl)
  have np2 := noPin_slot f1 f3 (i := j) (by rw [hg2]; rfl)
  refine q (.ref p) σ _ ex (fps i ++ (fps j ++ [])) (l.trans ll) ll.cuts (.tup (SqT.of (cut_of hnx upd_same)) (by show 2 ≤ sizeLine; rw [sizeLine_eq]; omega) (.cons (r.mono ll) (.cons (r'.mono ll) .nil))) ?_ (fun a z => ?_) (f.mono ll).frz (np1.append (np2.append NoPin.nil))
  · rw [List.append_nil]
    exact List.nodup_append.mpr ⟨f2 i, f2 j, fun a ha b hb hab => f3 i j a hij ha (hab ▸ hb)⟩
  · rw [List.append_nil] at z
    rcases List.mem_append.mp z with z | z
    · exact (f4 i a z).2
    · exact (f4 j a z).2
/-- x[k] of a tuple or list, whoever owns it, looked at -/
def oIxU : D → D → R D
  | .lst ds, .int k => getI ds k
  | .tup ds, .int k => getI ds k
  | _, _ => .bad
theorem du_ix {a b : Expr} {f g : Env → R D} (ha : DU X ad w G a f) (hb : DE X ad w G b .fz g) (hs : PlainIx b := by exact fun _ _ => rfl) : DU X ad w G (.Subscript a b pos) (d2 oIxU f g) := by
  obtain ⟨ta, pa, ka⟩ := ha
  obtain ⟨tb, pb, kb⟩ := hb
  refine ⟨_, pe_ix ix_seq pa pb hs, fun ex0 ρ σ H ex Q fr q => ?_⟩
  refine ka ex0 ρ σ H ex _ fr ?_
  unfold d2 at q
  rw [sat_bind] at q
  refine q.imp (fun d q v H1 ex1 l1 a1 => ?_) fun _ z => z
  refine kb ex0 ρ σ H1 ex1 _ (fr.mono l1) ?_
  rw [sat_bind] at q
  refine q.imp (fun k q u H2 ex2 fp l2 r2 _ _ => ?_) fun _ z => z.mono l1
  have a2 := rep_fz r2
  have a1' := a1.mono l2.same
  cases a1' with
  | lst h hz hs =>
    cases a2 <;> first | exact q.elim | skip
    unfold oIxU getI at q
    dsimp only at q
    split at q
    · rename_i z e
      obtain ⟨v, e1, a3⟩ := atI_at hs e
      exact .inl ⟨_, _, _, v, rfl, rfl, h, e1, q v H2 ex2 (l1.trans l2) a3⟩
    · exact q.elim
  | tup h hz hs =>
    cases a2 <;> first | exact q.elim | skip
    unfold oIxU getI at q
    dsimp only at q
    split at q
    · rename_i z e
      obtain ⟨v, e1, a3⟩ := atI_at hs e
      exact .inr (.inl ⟨_, _, _, v, rfl, rfl, h, e1, q v H2 ex2 (l1.trans l2) a3⟩)
    · exact q.elim
  | _ => exact q.elim
end
section
variable {K : PySem.W.Frag} {ad : Adr} {G : Shs} {ex0 ex : Own} {ρ : Env} {σ : L2.St} {H : Hp}
theorem own_same {a : Addr} {o : HO} (hex : ex a) : Same (cut H ex) (cut (upd H a o) ex) := fun b u q => by
  obtain ⟨n, q⟩ := of_cut q
  exact cut_of n (by rw [upd_ne (fun (z : b = a) => n (by rw [z]; exact hex))]; exact q)
/-- two own lists in the tuple at slot i -/
theorem Fra.own2 (f : Fra K ad G ex0 ρ σ H ex) {i : Nat} {ds es : List D} (e : ρ[i]? = some (some (.tup [.lst ds, .lst es]))) (g : sh G i = sh2) :
    ∃ p a b us vs, σ[i]? = some (some (.ref p)) ∧ SqT K (cut H ex) p [.ref a, .ref b] ∧ (ex a ∧ ¬ ex0 a ∧ H a = some (.lst us) ∧ us.length ≤ sizeLine ∧ Ats K ad (cut H ex) ds us) ∧
      (ex b ∧ ¬ ex0 b ∧ H b = some (.lst vs) ∧ vs.length ≤ sizeLine ∧ Ats K ad (cut H ex) es vs) ∧
      (∀ ds' us', us'.length ≤ sizeLine → Ats K ad (cut H ex) ds' us' → Fra K ad G ex0 (ρ.set i (some (.tup [.lst ds', .lst es]))) σ (upd H a (.lst us')) ex) ∧
      ∀ es' vs', vs'.length ≤ sizeLine → Ats K ad (cut H ex) es' vs' → Fra K ad G ex0 (ρ.set i (some (.tup [.lst ds, .lst es']))) σ (upd H b (.lst vs')) ex := by
  obtain ⟨fps, h1, h2, h3, h4⟩ := f.slots
  obtain ⟨v, e1, r⟩ := h1 i _ e
  rw [g] at r
  generalize hfp : fps i = fp at r
  have hi : i < ρ.length := (List.getElem?_eq_some_iff.mp e).1
  cases r with
  | @tup _ _ p _ _ hT hzT hs =>
  cases hs with
  | cons ra hs =>
  cases hs with
  | cons rb hs =>
  cases hs
  cases ra with
  | flt z _ => cases z
  | @own _ _ a us f1 hexa hHa hza hsa =>
  cases rb with
  | flt z _ => cases z
  | @own _ _ b vs f2 hexb hHb hzb hsb =>
  obtain ⟨x1, hA⟩ := hsa.fzs
  obtain ⟨x2, hB⟩ := hsb.fzs
  subst x1
  subst x2
  have hfp : fps i = [a, b] := hfp
  have ha : a ∈ fps i := by rw [hfp]; simp
  have hb : b ∈ fps i := by rw [hfp]; simp
  have hab : a ≠ b := by
    have := h2 i
    rw [hfp] at this
    simpa using this
  have gen : ∀ (c : Addr) (o : HO) (dn : D), c ∈ fps i → ex c → Rep K ad (upd H c o) ex sh2 dn (.ref p) (fps i) → Fra K ad G ex0 (ρ.set i (some dn)) σ (upd H c o) ex := fun c o dn hc hexc rn => by
    refine ⟨by rw [List.length_set, f.len], fun b z => ?_, fps, fun j d' ej => ?_, h2, h3, h4⟩
    · by_cases hb : b = c
      · subst hb
        exact ⟨_, upd_same⟩
      · rw [upd_ne hb]
        exact f.exok b z
    · by_cases hj : j = i
      · subst hj
        rw [List.getElem?_set_self hi] at ej
        cases ej
        refine ⟨_, e1, ?_⟩
        rw [g]
        exact rn
      · rw [List.getElem?_set_ne (Ne.symm hj)] at ej
        obtain ⟨v', e2, r'⟩ := h1 j d' ej
        refine ⟨v', e2, r'.keep (own_same hexc) fun b z => ⟨(h4 j b z).1, upd_ne fun q => ?_⟩⟩
        subst q
        exact h3 j i b hj z hc
  refine ⟨p, a, b, us, vs, e1, hT, ⟨hexa, (h4 i a ha).2, hHa, hza, hA⟩, ⟨hexb, (h4 i b hb).2, hHb, hzb, hB⟩, fun ds' us' hz' hA' => ?_, fun es' vs' hz' hA' => ?_⟩
  · refine gen a _ _ ha hexa ?_
    rw [hfp]
    exact .tup (seqT (own_same hexa) hT) hzT (.cons (.own hexa upd_same hz' (hA'.mono (own_same hexa)).reps) (.cons (.own hexb ((upd_ne (Ne.symm hab)).trans hHb) hzb (hB.mono (own_same hexa)).reps) .nil))
  · refine gen b _ _ hb hexb ?_
    rw [hfp]
    exact .tup (seqT (own_same hexb) hT) hzT (.cons (.own hexa ((upd_ne hab).trans hHa) hza (hA.mono (own_same hexb)).reps) (.cons (.own hexb upd_same hz' (hA'.mono (own_same hexb)).reps) .nil))
end
section
variable {X : Cx} {ad : Adr} {w : Wi} {rs : Sh} {G G' : Shs} {pos : Pos}
/-- x[k].m(..), x the two lists at slot i -/
def oMutT (i : Nat) (k : Bool) (o : List D → List D → R (List D)) (f : Env → R (List D)) : Env → Out := fun ρ => match dV i ρ with
  | .ok (.tup [.lst xs, .lst ys]) => (f ρ).then ρ fun ds => match o (if k = true then ys else xs) ds with
    | .ok zs => .nx (ρ.set i (some (.tup [.lst (if k = true then xs else zs), .lst (if k = true then zs else ys)])))
    | _ => .bad
  | _ => .bad
end
end DL

set_option Elab.async false
set_option linter.all false
set_option maxRecDepth 100000
set_option maxHeartbeats 4000000
set_option autoImplicit false
/-! DL17: is, of truths. -/
namespace DL
open PySem PySem.Spec PyProof.Rows L2
section
variable {X : Cx} {ad : Adr}
def oIsB : D → D → R D
  | .bl a, .bl b => .ok (.bl (decide (a = b)))
  | _, _ => .bad
def oIsNotB : D → D → R D
  | .bl a, .bl b => .ok (.bl (!decide (a = b)))
  | _, _ => .bad
theorem dop_isB : DOp X ad (compareOp .Is) .fz oIsB := by
  refine ⟨_, op_is_bl, fun x y d e H ex Q hx a b q => ?_⟩
  unfold oIsB at q
  split at q
  · cases a
    cases b
    exact ⟨_, _, rfl, rfl, post_fz q (Le.refl _ _) (.bl _)⟩
  · exact q.elim
theorem dop_isNotB : DOp X ad (compareOp .IsNot) .fz oIsNotB := by
  refine ⟨_, op_isnot_bl, fun x y d e H ex Q hx a b q => ?_⟩
  unfold oIsNotB at q
  split at q
  · cases a
    cases b
    exact ⟨_, _, rfl, rfl, post_fz q (Le.refl _ _) (.bl _)⟩
  · exact q.elim
theorem no_isB : ∀ d e c, oIsB d e ≠ .exc c := by
  intro d e c z
  unfold oIsB at z
  split at z <;> cases z
theorem no_isNotB : ∀ d e c, oIsNotB d e ≠ .exc c := by
  intro d e c z
  unfold oIsNotB at z
  split at z <;> cases z
@[simp] theorem oIsB_b {a b : Bool} : oIsB (.bl a) (.bl b) = .ok (.bl (decide (a = b))) := rfl
@[simp] theorem oIsNotB_b {a b : Bool} : oIsNotB (.bl a) (.bl b) = .ok (.bl (!decide (a = b))) := rfl
end
end DL

set_option Elab.async false
set_option linter.all false
set_option maxRecDepth 100000
set_option maxHeartbeats 4000000
set_option autoImplicit false
/-! DL18: try .. except X as e: kept = e; isinstance of what was kept. -/
namespace DL
open PySem PySem.Spec PyProof.Rows L2
section
variable {X : Cx} {pins : List (Addr × Obj)} {σ : L2.St} {H : Hp} {s : Shared}
/-- what was not there at the start is told of from now on -/
theorem track {a : Addr} {o : HO} (J : L2.Inv X pins σ H s) (fresh : X.s_0.heap.get? a = none) (na : H a = none) (nl : a ≠ X.env.locals) (nc : ∀ x c, X.env.cells.lookup x = some c → c ≠ a) (np : ∀ p ∈ X.pn ++ pins, p.1 ≠ a)
    (good : ObjOk X.prog X.w (upd H a o) s.heap a o) : L2.Inv X pins σ (upd H a o) s := by
  have ne0 : ∀ c ob, X.s_0.heap.get? c = some ob → c ≠ a := fun c ob q z => by
    rw [z, fresh] at q
    cases q
  have neH : ∀ c u, H c = some u → c ≠ a := fun c u q z => by
    rw [z, na] at q
    cases q
  have U := J.base
  refine ⟨J.ok, J.os, J.bare, ⟨U.keep, U.slot, ?_, U.there, ?_, ?_, ?_⟩, J.loc, J.cell, ?_, ?_, ?_, ?_, J.len⟩
  · intro c ob q n hx
    rw [upd_ne (ne0 c ob q)]
    exact U.free c ob q n hx
  · intro c xs q
    have z := U.tups c xs q
    rw [upd_ne (neH c _ z)]
    exact z
  · intro c ob xs q
    have z := U.frzs c ob xs q
    rw [upd_ne (neH c _ z)]
    exact z
  · intro c ps q
    obtain ⟨m, z⟩ := U.tbls c ps q
    exact ⟨m, by rw [upd_ne (neH c _ z)]; exact z⟩
  · rw [upd_ne (Ne.symm nl)]
    exact J.free
  · intro x c q
    rw [upd_ne (nc x c q)]
    exact J.freeC x c q
  · intro p hp
    obtain ⟨z1, z2, z3⟩ := J.pin p hp
    exact ⟨z1, by rw [upd_ne (np p hp)]; exact z2, z3⟩
  · intro c ob q
    by_cases hc : c = a
    · subst hc
      rw [upd_same] at q
      cases q
      exact good
    · rw [upd_ne hc] at q
      refine (J.hok c ob q).stay (fun _ _ _ z => z) (fun d z => ?_) fun d xs z => ?_
      · rw [upd_ne (neH d _ z)]
        exact z
      · rw [upd_ne (neH d _ z)]
        exact z
/-- an exception by what is told of it -/
theorem kept_ok {h : Heap} {G : Hp} {a C : Addr} {oe : Obj} (e : h.get? a = some oe) (hc : oe.cls = .ref C) (hd : oe.dict = none) (hf : ∃ vs, oe.data = .fields vs) : ObjOk X.prog X.w G h a (excO C a) := by
  show _ ∧ _ ∧ _
  refine ⟨⟨oe, e, hc, hd, hf⟩, ⟨oe, e⟩, fun h1 h2 z k => ?_⟩
  obtain ⟨o1, e1, r⟩ := z
  exact ⟨o1, k o1 e1, r⟩
end
/-- frames of what is anybody's -/
theorem Frz.fra {K : PySem.W.Frag} {ad : Adr} {ex0 ex : Own} {ρ : Env} {σ : L2.St} {H : Hp} (f : Frz K ad [] ex0 ρ σ H ex) : Fra K ad [] ex0 ρ σ H ex := Fra.sub f hide_len.symm fun i d e => ⟨hide_of e rfl, rfl⟩
section
variable {X : Cx} {ad : Adr} {w : Wi} {rs : Sh} {G : Shs} {pos : Pos}
theorem wipeR_len : ∀ (os : List Nat) (ρ : Env), (wipeR ρ os).length = ρ.length
  | [], _ => rfl
  | o :: os, ρ => by
    unfold wipeR
    rw [List.length_set, wipeR_len os ρ]
theorem wipeR_in : ∀ (os : List Nat) (ρ : Env) (i : Nat) (d : D), (wipeR ρ os)[i]? = some (some d) → i ∉ os ∧ ρ[i]? = some (some d)
  | [], _, _, _, h => ⟨by simp, h⟩
  | o :: os, ρ, i, d, h => by
    unfold wipeR at h
    by_cases hi : i = o
    · subst hi
      by_cases hl : i < (wipeR ρ os).length
      · rw [List.getElem?_set_self hl] at h
        cases h
      · rw [List.getElem?_eq_none (by simpa using hl)] at h
        cases h
    · rw [List.getElem?_set_ne (Ne.symm hi)] at h
      obtain ⟨a, b⟩ := wipeR_in os ρ i d h
      exact ⟨fun z => (List.mem_cons.mp z).elim hi a, b⟩
theorem sh_out {i : Nat} : ∀ {G : Shs}, i ∉ G.map (·.1) → sh G i = .fz
  | [], _ => rfl
  | (j, s) :: G, h => by
    have h1 : (i == j) = false := by
      simp at h
      simp [h.1]
    have ih := sh_out (i := i) (G := G) fun z => h (List.mem_cons_of_mem _ z)
    unfold sh at ih ⊢
    rw [List.lookup_cons, h1]
    exact ih
theorem Frz.fraW {K : PySem.W.Frag} {ex0 ex : Own} {ρ : Env} {σ : L2.St} {H : Hp} {os : List Nat} (f : Frz K ad G ex0 ρ σ H ex) (ho : ∀ i, isO (sh G i) = true → i ∈ os) : Fra K ad G ex0 (wipeR ρ os) σ H ex := Fra.sub f (by rw [wipeR_len, hide_len]) fun i d e => by
  obtain ⟨h1, h2⟩ := wipeR_in _ _ _ _ e
  refine ⟨hide_of h2 ?_, rfl⟩
  cases z : isO (sh G i) with
  | false => rfl
  | true => exact absurd (ho i z) h1
/-- the slots to be forgotten, all told -/
theorem os_all {os : List Nat} (h : (G.all fun p => !isO (sh G p.1) || os.contains p.1) = true) : ∀ i, isO (sh G i) = true → i ∈ os := fun i hi => by
  have hm : i ∈ G.map (·.1) := by
    by_cases z : i ∈ G.map (·.1)
    · exact z
    · rw [sh_out z] at hi
      cases hi
  obtain ⟨p, hp, rfl⟩ := List.mem_map.mp hm
  have := List.all_eq_true.mp h p hp
  rw [hi] at this
  simpa using this
/-- try: g, except .. as (slot i): (slot k) = it -/
def oTry (os : List Nat) (i k : Nat) (g : Env → Out) : Env → Out := fun ρ => match g ρ with
  | .xc e ρ' => .nx (((wipeR ρ' os).set i none).set k (some (.exc e)))
  | o => o
/-- what the clause wishes -/
def wK (ad : Adr) (i k : Nat) (De : Ends) : Wi := fun c σ H => ∀ a, H a = none → De.nx ((σ.set i none).set k (some (.ref a))) (upd H a (excO (ad c) a))
def WK (ad : Adr) (i k : Nat) (De : Ends) : WX := fun cls d σ H => d = none ∧ ∃ c, cls = .ref (ad c) ∧ wK ad i k De c σ H
theorem set_thrice {α : Type} (l : List α) {i k : Nat} (h : i ≠ k) (x y z : α) : ((l.set i x).set k y).set i z = (l.set i z).set k y := by
  rw [List.set_comm _ _ (Ne.symm h), List.set_set, List.set_comm _ _ h]
theorem sd_try (os : List Nat) (i k : Nat) {n kx x : Str} {C : Addr} {bd : List Stmt} {g : Env → Out} {np p1 p2 p3 pos' : Pos} (hN : X.N.Nodup) (hc : Names X x (.ref C)) (hx : ∀ c, PySem.W.exmOne X.K (.ref (ad c)) (.ref C) = some true)
    (body : ∀ (w' : Wi) (pn : List (Addr × Obj)) (xe : Value → Shared → Prop), Tk (X.tr pn xe) ad w' → PassesOwn (model X.prog X.w) X.A X.env xe → SDs (X.tr pn xe) ad w' rs G G bd g) (hgk : sh G k = .fz := by rfl) (hos : (G.all fun p => !isO (sh G p.1) || os.contains p.1) = true := by rfl)
    (hi : X.N[i]? = some n := by rfl) (hk : X.N[k]? = some kx := by rfl) (hln : X.env.kindOf n = some .local := by rfl) (hkl : X.env.kindOf kx = some .local := by rfl) (hik : i ≠ k := by decide)
    (hst : X.stack = X.env :: X.outer := by rfl) (hfl : X.env.frame = some X.env.locals := by rfl) (hex : X.ex = [] := by rfl) (hd : (n == ("__debug__" : Str)) = false := by decide) (hcd : (n == ("__classdict__" : Str)) = false := by decide)
    (hsw : swapsWith (.Name n p2) (some (.Name kx p1)) p3.line X.env = pure false := by rfl) :
    SD X ad w rs G (.Try bd [.ExceptHandler (some (.Name x np)) (some n) [.Assign [.Name kx p1] (.Name n p2) p3] pos'] [] [] pos) (oTry os i k g) := by
  have tk : ∀ (De : Ends) (pn : List (Addr × Obj)) (xe : Value → Shared → Prop), Takes (X.tr pn xe) (WK ad i k De) → Tk (X.tr pn xe) ad (wK ad i k De) := fun De pn xe h => ⟨_, h, fun c σ H z => ⟨rfl, c, rfl, z⟩⟩
  refine ⟨fun De σ H => ∀ pn xe (h : Takes (X.tr pn xe) (WK ad i k De)) (po : PassesOwn (model X.prog X.w) X.A X.env xe), Classical.choose (body (wK ad i k De) pn xe (tk De pn xe h) po) De σ H, ⟨fun pins s σ H D I hpre => ?_⟩, fun H0 ex0 ρ σ H ex De l f q pn xe h po => ?_⟩
  · have ok := I.ok
    have hfr : X.A.frames = some (X.env :: X.outer) := by rw [ok.frames, hst]
    refine wpAny_Try_except ?_
    -- the body, its exceptions looked at
    have run := fun h po => ((Classical.choose_spec (body (wK ad i k D) (X.pn ++ pins) (fun v t => wpAny (model X.prog X.w) X.A (noteFrame v X.env) (fun _ t1 => wpAny (model X.prog X.w) X.A (setFlight v none)
      (fun _ t2 => wpAny (model X.prog X.w) X.A (handleBy v X.env [.ExceptHandler (some (.Name x np)) (some n) [.Assign [.Name kx p1] (.Name n p2) p3] pos']) (SP X pins D) X.xe t2) X.xe t1) X.xe t) (tk D _ _ h) po)).1).run [] s σ H D (I.toTry _) (hpre _ _ h po)
    refine wpAny_mono (run ?_ PassesOwn.looking) (fun f s1 hsp => ?_) fun _ _ z => z
    · intro u s' xx
      obtain ⟨a, B, sI, pins', σ1, H1, cls, d, rfl, J0, nb, up, sky, na, os, ag, rfl, c, rfl, wish⟩ := xx
      have J : L2.Inv X pins σ1 H1 sI := J0.ofTry ok
      rw [show (X.tr (X.pn ++ pins) _).stack = X.env :: X.outer from hst] at sky
      refine Sky.land Zc.steady hfr hfl sky fun g3 fl3 up3 => ?_
      have J3 : L2.Inv X pins σ1 H1 { s' with heap := g3 } := J.landed nb fl3.1 (up.trans up3) os ag
      obtain ⟨o3, v3, e3, z3, f3⟩ := fl3.there
      -- it is no frame, and new
      have nfr : a ∉ frs (X.env :: X.outer) := fun hm => by
        obtain ⟨_, o', e', hnf⟩ := fl3.2.2.1.mem hm
        rw [e3] at e'
        cases e'
        exact hnf _ f3
      have nfs : a ∉ frs X.stack := by rw [hst]; exact nfr
      have nSI : sI.heap.get? a = none := by
        cases q : sI.heap.get? a with
        | none => rfl
        | some o' =>
          have z := nb a o' q nfs
          rw [fl3.2.1] at z
          cases z
      have n0 : X.s_0.heap.get? a = none := by
        cases q : X.s_0.heap.get? a with
        | none => rfl
        | some o' =>
          obtain ⟨o2, z⟩ := J.base.there a o' q (by rw [hex]; simp)
          rw [nSI] at z
          cases z
      have nL : a ≠ X.env.locals := fun z => nfr (List.mem_filterMap.mpr ⟨X.env, List.mem_cons_self, by rw [hfl, z]⟩)
      have nF : a ∉ X.fs := fun hm => by
        obtain ⟨e, he, q⟩ := List.mem_filterMap.mp hm
        exact nfr (List.mem_filterMap.mpr ⟨e, List.mem_cons_of_mem _ he, q⟩)
      have npin : ∀ p ∈ X.pn ++ pins, p.1 ≠ a := fun p hp z => by
        have q := (J.pin p hp).1
        rw [z, nSI] at q
        cases q
      have S3 := J3.suite e3 f3 na nL nF
      refine wpAny_handleBy_cons (codeAny_handlers_test ?_) (by intro q; cases q)
      have lt : PySem.W.Looks (model X.prog X.w) g3 (typeOf (.ref a)) (.ref (ad c)) := fun A Q E t k q => wpAny_typeOf_ref (k _ _ e3) (by rw [z3.1]; exact q)
      have lm := PySem.W.exm_one (M := model X.prog X.w) J3.kIn lt (hx c)
      have named : ∀ {Q E : Value → Shared → Prop}, Q (.ref C) { s' with heap := g3 } → wpAny (model X.prog X.w) (X.A.mark (some (.ref a))) (eval (.Name x np) X.env) Q E { s' with heap := g3 } := fun {Q E} q => by
        obtain ⟨hg, hdb, hm | ⟨hm, hv, hnn⟩⟩ := hc
        · exact ld_glob (X := X.suite a ((a, o3) :: (X.pn ++ pins))) S3 hg hm q hdb
        · exact ld_blt (X := X.suite a ((a, o3) :: (X.pn ++ pins))) S3 hg hm hv q hnn hdb
      refine named (lm.here ?_)
      refine codeAny_handlers_suite_as ?_
      refine HandSPX.lands_againZ fl3 fun g4 fl4 up4 => ?_
      have J4 : L2.Inv X pins σ1 H1 { s' with heap := g4 } := J.landed nb fl4.1 ((up.trans up3).trans up4) os ag
      obtain ⟨o4, v4, e4, z4, f4⟩ := fl4.there
      have S4 := J4.suite e4 f4 na nL nF
      refine store_ok (X := X.suite a ((a, o4) :: (X.pn ++ pins))) (v := .ref a) S4 hN hi (.inl hln) rfl (fun s5 S5 => ?_) (.inr hln)
      have hvar : PE (X.suite a ((a, o4) :: (X.pn ++ pins))) (.Name n p2) _ := pe_var (X := X.suite a ((a, o4) :: (X.pn ++ pins))) (i := i) hi (.inl hln) hd hcd
      have hset := pss_one (ps_set (X := X.suite a ((a, o4) :: (X.pn ++ pins))) (i := k) hN hk (.inl hkl) hvar hsw (.inr hkl))
      have li : i < σ1.length := by rw [J.len]; exact (List.getElem?_eq_some_iff.mp hi).1
      refine wpAny_mono (hset.run [] s5 _ H1 ⟨fun τ K => τ = (σ1.set i (some (.ref a))).set k (some (.ref a)) ∧ K = H1, fun _ _ => False, fun _ _ => False, fun _ _ => False⟩ S5 ⟨.ref a, List.getElem?_set_self li, rfl, rfl⟩) (fun f6 s6 hsp => ?_) (fun _ _ z => z.elim)
      cases f6 with
      | brk => obtain ⟨_, _, _, z⟩ := hsp; exact z.elim
      | cont => obtain ⟨_, _, _, z⟩ := hsp; exact z.elim
      | ret u => obtain ⟨_, _, _, _, _, z⟩ := hsp; exact z.elim
      | next =>
        obtain ⟨τ, K, S6, e1, e2⟩ := hsp
        rw [e1, e2] at S6
        have J6 : L2.Inv X ((a, o4) :: pins) ((σ1.set i (some (.ref a))).set k (some (.ref a))) H1 s6 :=
          ⟨ok, S6.os, S6.bare, S6.base, S6.loc, S6.cell, S6.free, S6.freeC, fun p hp => S6.pin p (by
            rcases List.mem_append.mp hp with z | z
            · exact List.mem_append_left _ (List.mem_cons_of_mem _ (List.mem_append_left _ z))
            · rcases List.mem_cons.mp z with z | z
              · rw [z]; exact List.mem_append_left _ List.mem_cons_self
              · exact List.mem_append_left _ (List.mem_cons_of_mem _ (List.mem_append_right _ z))), S6.hok, S6.len⟩
        refine gone_ok J6 hN hi hln fun s7 J7 => ?_
        obtain ⟨q1, q2, q3, q4, q5⟩ := J7.pin (a, o4) (List.mem_append_right _ List.mem_cons_self)
        have J8 : L2.Inv X pins (((σ1.set i (some (.ref a))).set k (some (.ref a))).set i none) H1 s7 :=
          ⟨ok, J7.os, J7.bare, J7.base, J7.loc, J7.cell, J7.free, J7.freeC, fun p hp => J7.pin p (by
            rcases List.mem_append.mp hp with z | z
            · exact List.mem_append_left _ z
            · exact List.mem_append_right _ (List.mem_cons_of_mem _ z)), J7.hok, J7.len⟩
        have J9 := track (o := excO (ad c) a) J8 n0 na nL (fun y b e z => by
            obtain ⟨v, ob, w1, w2⟩ := J8.cell y b e
            rw [z] at w1
            have q1 : s7.heap.get? a = some o4 := q1
            rw [q1] at w1
            cases w1
            exact q5 v w2) npin (kept_ok (X := X) q1 z4.1 z4.2 ⟨_, f4⟩)
        refine ⟨_, _, J9, ?_⟩
        rw [set_thrice _ hik]
        exact wish a na
    · cases f with
      | next =>
        obtain ⟨σ', H', J', q⟩ := hsp
        exact wpAny_execs_nil ⟨σ', H', J'.ofTry ok, q⟩
      | brk =>
        obtain ⟨σ', H', J', q⟩ := hsp
        exact ⟨σ', H', J'.ofTry ok, q⟩
      | cont =>
        obtain ⟨σ', H', J', q⟩ := hsp
        exact ⟨σ', H', J'.ofTry ok, q⟩
      | ret u =>
        obtain ⟨v, σ', H', J', r, q⟩ := hsp
        exact ⟨v, σ', H', J'.ofTry ok, r, q⟩
  · refine (Classical.choose_spec (body (wK ad i k De) pn xe (tk De pn xe h) po)).2 H0 ex0 ρ σ H ex De l f ?_
    unfold oTry at q
    cases e : g ρ with
    | nx ρ1 => rw [e] at q; exact q
    | rt d => rw [e] at q; exact q
    | bad => rw [e] at q; exact q
    | xc c ρ1 =>
      rw [e] at q
      intro σ' H' ex' l' m' fz a na
      have la : Le H' ex' (upd H' a (excO (ad c) a)) ex' := Le.lay na
      refine q _ _ ex' (l'.trans la) (m'.trans la.cuts) ?_
      refine (((Frz.fraW fz (os_all hos)).mono la).drop none).setF hgk (.exc c (cut_of (fun z => ?_) upd_same))
      obtain ⟨o, z⟩ := fz.exok a z
      rw [na] at z
      cases z
end
end DL

set_option Elab.async false
set_option linter.all false
set_option maxRecDepth 100000
set_option maxHeartbeats 4000000
set_option autoImplicit false
/-! DL19: isinstance of what was kept; count, index. -/
namespace DL
open PySem PySem.Spec PyProof.Rows L2
section
variable {X : Cx} {ad : Adr} {w : Wi} {rs : Sh} {G : Shs} {pos : Pos}
/-- isinstance of an exception of the program's own -/
def rIsX (K : PySem.W.Frag) (ad : Adr) : List V → Hp → VK → Prop := fun xs H Q => ∃ (a : Addr) (c : V) (cv : Value) (b : Bool) (e : Ex), xs = [.ref a, c] ∧ H a = some (excO (ad e) a) ∧ (∀ u, RelV c u → u = cv) ∧ PySem.W.kitOne K (.ref (ad e)) cv = some b ∧ Q (.bl b) H
theorem call_isX (C : ∀ e, ExcC X.K (ad e)) : CallR X (.builtin "isinstance") (rIsX X.K ad) := by
  intro pins s σ H xs us Q I r h
  obtain ⟨a, c, cv, b, e, rfl, hH, hcv, hk, q⟩ := h
  obtain ⟨u1, u2, rfl, r1, r2⟩ := vals2 r
  cases (show u1 = Value.ref a from r1)
  have ec := hcv _ r2
  subst ec
  have z := I.hok a _ hH
  obtain ⟨⟨oe, hg, h1, h2, vs, h3⟩, _, _⟩ := (show _ ∧ _ ∧ _ from z)
  have inst : PySem.W.InstAt s.heap a oe (ad e) none := by
    obtain ⟨oc, od, oda, osl⟩ := oe
    dsimp only at h1 h2 h3
    subst h1 h2 h3
    exact ⟨hg, rfl, rfl, trivial⟩
  have Ce := C e
  exact PySem.W.kia_one (PySem.W.handS_kitx_exc Ce.hg Ce.hk Ce.hs Ce.hd Ce.ha Ce.hn Ce.ht Ce.hm) I.kIn inst hk (fun z => nomatch z) fun tk => ⟨.bl b, H, I.tok tk, rfl, q⟩
def oIsX (c : Ex) : D → R D
  | .exc e => .ok (.bl (decide (e = c)))
  | _ => .bad
def oIsVE : D → R D
  | .exc _ => .ok (.bl true)
  | _ => .bad
theorem de_isX {e : Expr} {f : Env → R D} {T : Str} {p p2 : Pos} {C : Addr} (c : Ex) (he : DU X ad w G e f) (hi : X.mg "isinstance" = none) (hT : X.mg T = some (.ref C)) (ec : ∀ e, ExcC X.K (ad e)) (hk : ∀ e, PySem.W.kitOne X.K (.ref (ad e)) (.ref C) = some (decide (e = c)))
    (hdb : (T == ("__debug__" : Str)) = false := by decide) (hg : Gl X "isinstance" := by rfl) (hgT : Gl X T := by rfl)
    (h1 : starEach [e, .Name T p2] X.env = (false, eval e X.env) :: starEach [.Name T p2] X.env := by rfl) (h2 : starEach [.Name T p2] X.env = (false, eval (.Name T p2) X.env) :: starEach [] X.env := by rfl)
    (hpl : (backTo pos (starEach [.Name T p2] X.env)).any (·.1) = false := by rfl) :
    DE X ad w G (.Call (.Name "isinstance" p) [e, .Name T p2] [] pos) .fz (d1 (oIsX c) f) := by
  obtain ⟨te, pe, ke⟩ := he
  have pT : PE X (.Name T p2) (tC (.ref C)) := pe_glob hgT hT rfl hdb
  refine ⟨_, pe_callB (call_isX ec) hg hi PyProof.Rows.boot_isinstance (pa_cons pe (pa_cons pT pa_nil h2) h1) (by decide) (by decide) h1 hpl, fun ex0 ρ σ H ex Q fr q => ?_⟩
  refine ke ex0 ρ σ H ex _ fr ?_
  unfold d1 at q
  rw [sat_bind] at q
  refine q.imp (fun d q v H1 ex1 l a => ?_) fun _ z => z
  cases a with
  | exc y hy => exact ⟨_, .ref C, .ref C, decide (y = c), y, rfl, hy, fun u z => z, hk y, post_fz q l (.bl _)⟩
  | _ => exact q.elim
theorem de_isVE {e : Expr} {f : Env → R D} {p p2 : Pos} (he : DU X ad w G e f) (hi : X.mg "isinstance" = none) (hT : X.mg "ValueError" = none) (ec : ∀ e, ExcC X.K (ad e)) (hk : ∀ e, PySem.W.kitOne X.K (.ref (ad e)) (.type "ValueError") = some true)
    (hg : Gl X "isinstance" := by rfl) (hgT : Gl X "ValueError" := by rfl)
    (h1 : starEach [e, .Name "ValueError" p2] X.env = (false, eval e X.env) :: starEach [.Name "ValueError" p2] X.env := by rfl) (h2 : starEach [.Name "ValueError" p2] X.env = (false, eval (.Name "ValueError" p2) X.env) :: starEach [] X.env := by rfl)
    (hpl : (backTo pos (starEach [.Name "ValueError" p2] X.env)).any (·.1) = false := by rfl) :
    DE X ad w G (.Call (.Name "isinstance" p) [e, .Name "ValueError" p2] [] pos) .fz (d1 oIsVE f) := by
  obtain ⟨te, pe, ke⟩ := he
  have pT : PE X (.Name "ValueError" p2) (tC (.ty "ValueError")) := pe_bltn hgT hT (show bootBuiltins "ValueError" = some (.type "ValueError") by decide +kernel) rfl (by decide) (by decide)
  refine ⟨_, pe_callB (call_isX ec) hg hi PyProof.Rows.boot_isinstance (pa_cons pe (pa_cons pT pa_nil h2) h1) (by decide) (by decide) h1 hpl, fun ex0 ρ σ H ex Q fr q => ?_⟩
  refine ke ex0 ρ σ H ex _ fr ?_
  unfold d1 at q
  rw [sat_bind] at q
  refine q.imp (fun d q v H1 ex1 l a => ?_) fun _ z => z
  cases a with
  | exc y hy => exact ⟨_, .ty "ValueError", .type "ValueError", true, y, rfl, hy, fun u z => z, hk y, post_fz q l (.bl _)⟩
  | _ => exact q.elim
/-! ### methods that tell -/
def DMl (X : Cx) (ad : Adr) (id : String) (o : List D → List D → R D) : Prop :=
  ∃ r, MtR X id r ∧ ∀ a vs us xs ds H ex Q, SqL X.K H a vs → vs.length ≤ sizeLine → Ats X.K ad H xs vs → Ats X.K ad (cut H ex) ds us → Sat (o xs ds) (Post X.K ad H ex .fz Q) (fun _ => False) → r (.ref a) us H Q
def oMl (o : List D → List D → R D) (f : Env → R D) (g : Env → R (List D)) : Env → R D := fun ρ => (f ρ).bind fun d => (isL d).bind fun xs => (g ρ).bind fun ds => o xs ds
theorem de_meth {e0 e : Expr} {es : List Expr} {apos cpos : Pos} {name : Str} {id : String} {o : List D → List D → R D} {f : Env → R D} {g : Env → R (List D)} (hm : DMl X ad id o) (slot : Slot "list" name id) (hty : typeOf (.builtin id) = pure (.type "method_descriptor"))
    (h0 : DU X ad w G e0 f) (ha : DA X ad w G (e :: es) g) (no : ∀ xs ds c, o xs ds ≠ .exc c)
    (hbase : attributeBase e0 name X.env (eval e0 X.env) = eval e0 X.env := by rfl)
    (hfew : ((backTo cpos (starEach (e :: es) X.env)).all (fun x => !x.1) && (backToKw cpos (keywordEach [] X.env)).all (fun x => x.1.isSome)
      && decide ((e :: es).length + ([] : List Keyword).length + (if ([] : List Keyword).isEmpty then 0 else 1) < 30)) = true := by rfl)
    (hline : (apos.endLine == cpos.line) = true := by rfl) (hs : starEach (e :: es) X.env = (false, eval e X.env) :: starEach es X.env := by rfl) (hplain : (backTo cpos (starEach es X.env)).any (·.1) = false := by rfl) :
    DE X ad w G (.Call (.Attribute e0 name apos) (e :: es) [] cpos) .fz (oMl o f g) := by
  obtain ⟨r, mr, kr⟩ := hm
  obtain ⟨t0, p0, k0⟩ := h0
  obtain ⟨t, pa, k⟩ := ha
  refine ⟨_, pe_bm PySem.F.plainAttrs_list slot hty mr p0 pa hbase hfew hline hs hplain, fun ex0 ρ σ H ex Q fr q => ?_⟩
  refine k0 ex0 ρ σ H ex _ fr ?_
  unfold oMl at q
  rw [sat_bind] at q
  refine q.imp (fun d q v H1 ex1 l1 a1 => ?_) fun _ z => z
  cases a1 with
  | @lst a vs xs h hz hs =>
    refine ⟨.inl ⟨rfl, vs, h⟩, ?_⟩
    refine k ex0 ρ σ H1 ex1 _ (fr.mono l1) ?_
    have q : Sat ((g ρ).bind fun ds => o xs ds) (Post X.K ad H ex .fz Q) (Exc w σ H ex) := q
    rw [sat_bind] at q
    refine q.imp (fun ds q us H2 ex2 l2 a2 => ?_) fun _ z => z.mono l1
    refine kr a vs us xs ds H2 ex2 Q (l2.same.seq h) hz (hs.mono l2.same) a2 ?_
    cases ho : o xs ds with
    | exc c => exact absurd ho (no xs ds c)
    | bad => rw [ho] at q; exact q
    | ok y =>
      rw [ho] at q
      exact fun v H' ex' fp l3 r3 nd nw => q v H' ex' fp ((l1.trans l2).trans l3) r3 nd fun a z zz => nw a z ((l1.trans l2).keep a zz)
  | _ => exact q.elim
/-! count -/
def rCountD (K : PySem.W.Frag) : V → List V → Hp → VK → Prop := fun x xs H Q => ∃ (a : Addr) (y : V) (d : PyData) (ds : List PyData), x = .ref a ∧ xs = [y] ∧ Dp K H (V.ref a) (.list ds) ∧ Dp K H y d ∧ SeqAt.shaped (.list ds) = true ∧ SeqAt.shaped d = true ∧
  Q (.int (ds.countP fun z => PyData.eqv z d : Nat)) H
theorem mt_countD (hu : X.A.units + 65 < cLine) : MtR X "list.count" (rCountD X.K) := by
  intro pins s σ H x xs v us Q I rx rxs h
  obtain ⟨a, y, d, ds, rfl, rfl, hl, hy, sl, sd, q⟩ := h
  cases rx
  obtain ⟨uy, rfl, ry⟩ := rxs.one
  obtain ⟨bs, rd⟩ := Dp.reads I d y uy hy ry
  have lay : PyData.canLayAll0 ds = true := SeqAt.canLay_of_shaped sl
  cases hl with
  | lst hs ha =>
    obtain ⟨its, rv, ⟨⟨cls, dd, data, sls⟩, n, ho, hc, hdn, hdt⟩, hlen⟩ := I.list hs
    dsimp only at hc hdt
    subst hc hdt
    obtain ⟨as, rs⟩ := Dp.readsAll I ds _ its ha rv
    have hmap := SeqAt.readsAll_map ds its as lay rs
    refine call_meets PySem.F.slot_list_count ⟨_, ho, rfl⟩ PySem.F.entry_list_count (PySem.F.args_list_count_2 _ _) (SeqAt.list_countAt a its.toArray n dd sls uy fun u => PyData.eqv (SeqAt.readOf s.heap u) d)
      ⟨ho, SeqAt.items_eqAt (vs := its.toArray) (show ReadsAll s.heap its.toArray.toList ds as from rs) rd lay (SeqAt.canLay_of_shaped sd) (room_in_shaped sd hu), ?_⟩
    have e : its.toArray.toList.countP (fun u => PyData.eqv (SeqAt.readOf s.heap u) d) = ds.countP fun z => PyData.eqv z d := by
      rw [← hmap, List.countP_map]
      rfl
    exact ⟨.int (ds.countP fun z => PyData.eqv z d : Nat), H, I.tok _, ⟨s.toks, by rw [e]⟩, q⟩
def oCountD (xs ds : List D) : R D := match ds with
  | [d] => if okP d = true ∧ okP (.lst xs) = true then .ok (.int (xs.countP fun z => deq z d : Nat)) else .bad
  | _ => .bad
theorem dml_count (hu : X.A.units + 65 < cLine) : DMl X ad "list.count" oCountD := by
  refine ⟨_, mt_countD hu, fun a vs us xs ds H ex Q hs hz hA hB q => ?_⟩
  unfold oCountD at q
  split at q
  · rename_i d
    obtain ⟨v, rfl, a1⟩ := hB.one
    split at q
    · rename_i hh
      have h1 := okP_dp hh.1 a1
      have h2 := okP_dpU hh.2 (.lst hs hz hA)
      refine ⟨a, v, toP d, toPs xs, rfl, rfl, h2.1, h1.1, h2.2, h1.2, ?_⟩
      have e : (toPs xs).countP (fun z => PyData.eqv z (toP d)) = xs.countP fun z => deq z d := by
        rw [toPs_map, List.countP_map]
        rfl
      rw [e]
      exact post_fz q (Le.refl _ _) (.int _)
    · exact q.elim
  · exact q.elim
theorem no_countD : ∀ xs ds c, oCountD xs ds ≠ .exc c := by
  intro xs ds c z
  unfold oCountD at z
  split at z
  · split at z <;> cases z
  · cases z
def oIndexD (xs ds : List D) : R D := match ds with
  | [d] => if okP d = true ∧ okP (.lst xs) = true then (match xs.findIdx? (fun z => deq z d) with | some j => .ok (.int (j : Nat)) | none => .bad) else .bad
  | _ => .bad
theorem dml_index (hu : X.A.units + 65 < cLine) : DMl X ad "list.index" oIndexD := by
  refine ⟨_, mt_indexD hu, fun a vs us xs ds H ex Q hs hz hA hB q => ?_⟩
  unfold oIndexD at q
  split at q
  · rename_i d
    obtain ⟨v, rfl, a1⟩ := hB.one
    split at q
    · rename_i hh
      have h1 := okP_dp hh.1 a1
      have h2 := okP_dpU hh.2 (.lst hs hz hA)
      split at q
      · rename_i j hj
        obtain ⟨b1, b2, b3⟩ := List.findIdx?_eq_some_iff_getElem.mp hj
        have gt : ∀ m : Nat, (toPs xs)[m]? = xs[m]?.map toP := fun m => by rw [toPs_map, List.getElem?_map]
        refine ⟨a, v, toP d, toPs xs, j, toP xs[j], rfl, rfl, h2.1, h1.1, h2.2, h1.2, ?_, b2, fun m z' hm hz' => ?_, post_fz q (Le.refl _ _) (.int _)⟩
        · rw [gt, List.getElem?_eq_getElem b1]
          rfl
        · rw [gt, List.getElem?_eq_getElem (Nat.lt_trans hm b1)] at hz'
          cases hz'
          have := b3 m hm
          exact Bool.eq_false_iff.mpr this
      · exact q.elim
    · exact q.elim
  · exact q.elim
theorem no_indexD : ∀ xs ds c, oIndexD xs ds ≠ .exc c := by
  intro xs ds c z
  unfold oIndexD at z
  split at z
  · split at z
    · split at z <;> cases z
    · cases z
  · cases z
end
end DL
namespace DL
open PySem PySem.Spec PyProof.Rows L2
/-- isinstance's answer by the classes' order -/
theorem kit_sub {K : PySem.W.Frag} {y c : Addr} {b : Bool} (hd : PySem.W.hasDictIn K c = true) (ht : PySem.W.typeIn K (.ref c) = some (.type "type")) (hc : PySem.W.subIn K (.ref c) (.ref c) = some true) (h : PySem.W.subIn K (.ref y) (.ref c) = some b) : PySem.W.kitOne K (.ref y) (.ref c) = some b := by
  obtain ⟨cd, e, _⟩ := PySem.W.any_some hd
  unfold PySem.W.kitOne
  split
  · rename_i z
    cases Value.ref.inj (beq_iff_eq.mp z)
    rw [hc] at h
    exact h
  · show (if ((PySem.W.clsIn K c).isSome && PySem.W.typeIn K (.ref c) == some (.type "type")) = true then _ else none) = _
    rw [e, ht]
    exact h
theorem kit_ve {K : PySem.W.Frag} {y : Addr} (h : PySem.W.subIn K (.ref y) (.type "ValueError") = some true) : PySem.W.kitOne K (.ref y) (.type "ValueError") = some true := by
  unfold PySem.W.kitOne
  split
  · rfl
  · show (if PySem.W.kitMeta "ValueError" = true then _ else none) = _
    rw [if_pos (by decide +kernel)]
    exact h
end DL

set_option Elab.async false
set_option linter.all false
set_option maxRecDepth 100000
set_option maxHeartbeats 4000000
set_option autoImplicit false
/-! DL20: try with lists of one's own about; except X: alone; flat things at such slots. -/
namespace DL
open PySem PySem.Spec PyProof.Rows L2
/-- what is to be known of the refusals' classes -/
structure EK (K : PySem.W.Frag) (mg : Str → Option Value) (ad : Adr) (CS : Addr) : Prop where
  ec : ∀ e, ExcC K (ad e)
  kk : ∀ c e, PySem.W.kitOne K (.ref (ad e)) (.ref (ad c)) = some (decide (e = c))
  ve : ∀ e, PySem.W.kitOne K (.ref (ad e)) (.type "ValueError") = some true
  sg : mg "StairError" = some (.ref CS)
  sx : ∀ e, PySem.W.exmOne K (.ref (ad e)) (.ref CS) = some true
  xx : ∀ c e, PySem.W.exmOne K (.ref (ad e)) (.ref (ad c)) = some (decide (e = c))
  vg : mg "ValueError" = none
section
variable {X : Cx} {ad : Adr} {w : Wi} {rs : Sh} {G : Shs} {pos : Pos}
def dFlat (f : Env → R D) : Env → R D := fun ρ => (f ρ).bind fun d => if flat d = true then .ok d else .bad
/-- a flat thing where a list of one's own may stand -/
theorem de_flat {e : Expr} {f : Env → R D} {s : Sh} (h : DE X ad w G e .fz f) : DE X ad w G e (.own s) (dFlat f) := by
  obtain ⟨t, p, k⟩ := h
  refine ⟨t, p, fun ex0 ρ σ H ex Q fr q => k ex0 ρ σ H ex Q fr ?_⟩
  unfold dFlat at q
  rw [sat_bind] at q
  refine q.imp (fun d q v H' ex' fp l r _ _ => ?_) fun _ z => z
  split at q
  · rename_i hf
    exact q v H' ex' [] l (.flt hf (rep_fz r)) List.nodup_nil fun _ z => by cases z
  · exact q.elim
/-! except c: alone -/
def noX : Out → Out
  | .xc _ _ => .bad
  | o => o
def oTryX (c : Ex) (g h : Env → Out) : Env → Out := fun ρ => match g ρ with
  | .xc e ρ' => if e = c then noX (h ρ') else .xc e ρ'
  | o => o
theorem takes_suite {a : Addr} {pn : List (Addr × Obj)} {w' : Wi} (h : ∀ c σ H, ¬ w' c σ H) : Tk (X.suite a pn) ad w' := ⟨fun _ _ _ _ => False, fun u s' ⟨_, _, _, _, _, _, _, _, _, _, _, _, _, _, _, _, z⟩ => z.elim, fun c σ H z => h c σ H z⟩
theorem sd_tryX (c : Ex) {x : Str} {bd su : List Stmt} {b₀ : Stmt} {g h : Env → Out} {np pos' : Pos} (hx : X.mg x = some (.ref (ad c))) (hxx : ∀ e, PySem.W.exmOne X.K (.ref (ad e)) (.ref (ad c)) = some (decide (e = c))) (tk : Tk X ad w)
    (body : ∀ (w' : Wi) (pn : List (Addr × Obj)) (xe : Value → Shared → Prop), Tk (X.tr pn xe) ad w' → PassesOwn (model X.prog X.w) X.A X.env xe → SDs (X.tr pn xe) ad w' rs [] [] bd g)
    (suite : ∀ (a : Addr) (pn : List (Addr × Obj)) (w' : Wi), Tk (X.suite a pn) ad w' → SDs (X.suite a pn) ad w' rs [] [] (b₀ :: su) h)
    (hst : X.stack = X.env :: X.outer := by rfl) (hfl : X.env.frame = some X.env.locals := by rfl) (hg : Gl X x := by rfl) (hdb : (x == ("__debug__" : Str)) = false := by decide) :
    SD X ad w rs [] (.Try bd [.ExceptHandler (some (.Name x np)) none (b₀ :: su) pos'] [] [] pos) (oTryX c g h) := by
  obtain ⟨Wo, hWo, lk⟩ := tk
  have hsu := fun (a : Addr) (pn : List (Addr × Obj)) => suite a pn (fun _ _ _ => False) (takes_suite fun _ _ _ z => z)
  -- what the suite is to do
  let ts : Addr → Value → Option Addr → TS := fun a _ _ D σ H => ∀ pn, Classical.choose (hsu a pn) D σ H
  have bk : ∀ (W : WX) (pn : List (Addr × Obj)) (xe : Value → Shared → Prop), Takes (X.tr pn xe) W → Tk (X.tr pn xe) ad (fun c σ H => W (.ref (ad c)) none σ H) := fun W pn xe z => ⟨W, z, fun c σ H y => y⟩
  refine ⟨_, ps_try_only (ts := ts) (tb := fun W D σ H => ∀ pn xe (z : Takes (X.tr pn xe) W) (po : PassesOwn (model X.prog X.w) X.A X.env xe), Classical.choose (body _ pn xe (bk W pn xe z) po) D σ H) hst hfl ⟨hg, hdb, .inl hx⟩ hWo
    (fun W pn xe z po => ⟨fun pins s σ H D I q => (Classical.choose_spec (body _ pn xe (bk W pn xe z) po)).1.run pins s σ H D I (q pn xe z po)⟩)
    (fun a oe cls d pn _ _ => ⟨fun pins s σ H D I q => (Classical.choose_spec (hsu a ((a, oe) :: pn))).1.run pins s σ H D I (q _)⟩), fun H0 ex0 ρ σ H ex De l f q pn xe z po => ?_⟩
  refine (Classical.choose_spec (body _ pn xe (bk _ pn xe z) po)).2 H0 ex0 ρ σ H ex De l f ?_
  unfold oTryX at q
  cases e : g ρ with
  | nx ρ1 => rw [e] at q; exact q
  | rt d => rw [e] at q; exact q
  | bad => rw [e] at q; exact q
  | xc y ρ1 =>
    rw [e] at q
    intro σ' H' ex' l' m' fz
    refine ⟨decide (y = c), hxx y, fun hy a na pn2 => ?_, fun hy => ?_⟩
    · have hy := of_decide_eq_true hy
      subst hy
      dsimp only at q
      rw [if_pos rfl] at q
      refine (Classical.choose_spec (hsu a pn2)).2 H0 ex0 ρ1 σ' H' ex' De l' (Frz.fra fz) ?_
      cases e2 : h ρ1 with
      | nx ρ2 => rw [e2] at q; exact fun σ2 H2 ex2 l2 m2 f2 => q σ2 H2 ex2 l2 (m'.trans m2) f2
      | rt d ρ2 => rw [e2] at q; exact fun v σ2 H2 ex2 fp l2 m2 r => q v σ2 H2 ex2 fp l2 (m'.trans m2) r
      | bad => rw [e2] at q; exact q
      | xc c2 ρ2 => rw [e2] at q; exact (show False from q).elim
    · have hy := of_decide_eq_false hy
      dsimp only at q
      rw [if_neg hy] at q
      exact lk y σ' H' (q σ' H' ex' l' m' fz)
end
end DL

set_option Elab.async false
set_option linter.all false
set_option maxRecDepth 100000
set_option maxHeartbeats 4000000
set_option autoImplicit false
/-! DL21: lists of one's own within a tuple at a slot; tuples and argument lists of shapes. -/
namespace DL
open PySem PySem.Spec PyProof.Rows L2
section
variable {K : PySem.W.Frag} {ad : Adr} {G : Shs} {ex0 ex : Own} {ρ : Env} {σ : L2.St} {H : Hp}
/-- the k-th thing of a tuple, a list of one's own, and how it is written -/
theorem Reps.kth : ∀ {ss : List Sh} {ds : List D} {vs : List V} {fp : List Addr} {k : Nat} {xs : List D}, Reps K ad H ex ss ds vs fp → fp.Nodup → ss[k]? = some (.own .fz) → ds[k]? = some (.lst xs) →
    ∃ a us, vs[k]? = some (.ref a) ∧ a ∈ fp ∧ ex a ∧ H a = some (.lst us) ∧ us.length ≤ sizeLine ∧ Ats K ad (cut H ex) xs us ∧
      ∀ xs' us', us'.length ≤ sizeLine → Ats K ad (cut H ex) xs' us' → Reps K ad (upd H a (.lst us')) ex ss (ds.set k (.lst xs')) vs fp
  | _, _, _, _, k, _, .nil, _, h, _ => by simp at h
  | _, _, _, _, 0, xs, .cons (f := f) (fs := fs) r rs, nd, h, h' => by
    simp at h h'
    subst h h'
    cases r with
    | flt z _ => cases z
    | @own _ _ a us _ hex hH hz hs =>
      obtain ⟨e, hA⟩ := hs.fzs
      subst e
      refine ⟨a, us, rfl, by simp, hex, hH, hz, hA, fun xs' us' hz' hA' => ?_⟩
      have na : a ∉ fs := by
        have := (List.nodup_append.mp nd).2.2
        intro z
        exact this a (by simp) a z rfl
      refine .cons (.own hex upd_same hz' (hA'.mono (own_same hex)).reps) (rs.keep (own_same hex) fun b z => ?_)
      exact ⟨(rs.in b z).1, upd_ne fun q => na (q ▸ z)⟩
  | _, _, _, _, k + 1, xs, .cons (f := f) (fs := fs) r rs, nd, h, h' => by
    have nd' := List.nodup_append.mp nd
    obtain ⟨a, us, e1, e2, hex, hH, hz, hA, wr⟩ := Reps.kth (k := k) rs nd'.2.1 (by simpa using h) (by simpa using h')
    refine ⟨a, us, by simpa using e1, List.mem_append_right _ e2, hex, hH, hz, hA, fun xs' us' hz' hA' => ?_⟩
    rw [List.set_cons_succ]
    refine .cons (r.keep (own_same hex) fun b z => ?_) (wr xs' us' hz' hA')
    exact ⟨(r.in b z).1, upd_ne fun q => nd'.2.2 b z a e2 q⟩
theorem Fra.ownT (f : Fra K ad G ex0 ρ σ H ex) {i k : Nat} {ss : List Sh} {ds xs : List D} (e : ρ[i]? = some (some (.tup ds))) (g : sh G i = .tup ss) (hk : ss[k]? = some (.own .fz)) (hd : ds[k]? = some (.lst xs)) :
    ∃ p vs a us, σ[i]? = some (some (.ref p)) ∧ SqT K (cut H ex) p vs ∧ vs[k]? = some (.ref a) ∧ vs.length = ds.length ∧ ex a ∧ ¬ ex0 a ∧ H a = some (.lst us) ∧ us.length ≤ sizeLine ∧ Ats K ad (cut H ex) xs us ∧
      ∀ H2 ex2, Le H ex H2 ex2 → ∀ xs' us', us'.length ≤ sizeLine → Ats K ad (cut H2 ex2) xs' us' → Fra K ad G ex0 (ρ.set i (some (.tup (ds.set k (.lst xs'))))) σ (upd H2 a (.lst us')) ex2 := by
  obtain ⟨fps, h1, h2, h3, h4⟩ := f.slots
  obtain ⟨v, e1, r⟩ := h1 i _ e
  rw [g] at r
  generalize hfp : fps i = fp at r
  have hi : i < ρ.length := (List.getElem?_eq_some_iff.mp e).1
  cases r with
  | @tup _ _ p vs _ hT hzT hs =>
  have hlen : ∀ {ss : List Sh} {ds : List D} {vs : List V} {fp : List Addr}, Reps K ad H ex ss ds vs fp → vs.length = ds.length := by
    intro ss ds vs fp h
    have := (Reps.at (G := H) cut_same h fun _ _ => rfl).length
    omega
  obtain ⟨a, us, q1, q2, hex, hH, hz, hA, _⟩ := hs.kth (hfp ▸ h2 i) hk hd
  have ha : a ∈ fps i := by rw [hfp]; exact q2
  refine ⟨p, vs, a, us, e1, hT, q1, hlen hs, hex, (h4 i a ha).2, hH, hz, hA, fun H2 ex2 l xs' us' hz' hA' => ?_⟩
  obtain ⟨a', us2, q1', _, hex', _, _, _, wr⟩ := (hs.mono l).kth (hfp ▸ h2 i) hk hd
  rw [q1] at q1'
  cases q1'
  have fm := f.mono l
  refine ⟨by rw [List.length_set, f.len], fun b z => ?_, fps, fun j d' ej => ?_, h2, h3, fun j b z => ⟨l.keep b (h4 j b z).1, (h4 j b z).2⟩⟩
  · by_cases hb : b = a
    · subst hb
      exact ⟨_, upd_same⟩
    · rw [upd_ne hb]
      exact fm.exok b z
  · by_cases hj : j = i
    · subst hj
      rw [List.getElem?_set_self hi] at ej
      cases ej
      refine ⟨_, e1, ?_⟩
      rw [g, hfp]
      exact .tup (seqT (own_same hex') (seqT l.cuts hT)) hzT (wr xs' us' hz' hA')
    · rw [List.getElem?_set_ne (Ne.symm hj)] at ej
      obtain ⟨v', e2, r'⟩ := h1 j d' ej
      refine ⟨v', e2, (r'.mono l).keep (own_same hex') fun b z => ⟨l.keep b (h4 j b z).1, upd_ne fun q => ?_⟩⟩
      subst q
      exact h3 j i b hj z ha
end
section
variable {X : Cx} {ad : Adr} {w : Wi} {rs : Sh} {G G' : Shs} {pos : Pos}
/-- x[k].m(..), x a tuple at slot i -/
def oMutK (i k : Nat) (o : List D → List D → R (List D)) (f : Env → R (List D)) : Env → Out := fun ρ => match dV i ρ with
  | .ok (.tup ds) => (match ds[k]? with
    | some (.lst xs) => (f ρ).then ρ fun es => match o xs es with
      | .ok ys => .nx (ρ.set i (some (.tup (ds.set k (.lst ys)))))
      | _ => .bad
    | _ => .bad)
  | _ => .bad
theorem sd_mutK (i k : Nat) {ss : List Sh} {kk : Int} {x : Str} {p1 p2 p3 apos cpos : Pos} {jj} {name : Str} {id : String} {e : Expr} {es : List Expr} {f : Env → R (List D)} {o : List D → List D → R (List D)} (hm : DMt X ad id o) (slot : Slot "list" name id) (hty : typeOf (.builtin id) = pure (.type "method_descriptor")) (ha : DA X ad w G (e :: es) f)
    (hkk : kk = k := by rfl) (hN : X.N[i]? = some x := by rfl) (hg : sh G i = .tup ss := by rfl) (hk : ss[k]? = some (.own .fz) := by rfl) (hv : Vis X.env.scope x := by first | exact Or.inl rfl | exact Or.inr (Or.inl rfl) | exact Or.inr (Or.inr rfl)) (hd : (x == ("__debug__" : Str)) = false := by decide) (hcd : (x == ("__classdict__" : Str)) = false := by decide)
    (hbase : attributeBase (.Subscript (.Name x p1) (.Constant (.int kk) jj p2) p3) name X.env (eval (.Subscript (.Name x p1) (.Constant (.int kk) jj p2) p3) X.env) = eval (.Subscript (.Name x p1) (.Constant (.int kk) jj p2) p3) X.env := by rfl)
    (hfew : ((backTo cpos (starEach (e :: es) X.env)).all (fun x => !x.1) && (backToKw cpos (keywordEach [] X.env)).all (fun x => x.1.isSome)
      && decide ((e :: es).length + ([] : List Keyword).length + (if ([] : List Keyword).isEmpty then 0 else 1) < 30)) = true := by rfl)
    (hline : (apos.endLine == cpos.line) = true := by rfl) (hs : starEach (e :: es) X.env = (false, eval e X.env) :: starEach es X.env := by rfl) (hplain : (backTo cpos (starEach es X.env)).any (·.1) = false := by rfl)
    (hsw : swapsWith (.Call (.Attribute (.Subscript (.Name x p1) (.Constant (.int kk) jj p2) p3) name apos) (e :: es) [] cpos) none pos.line X.env = pure false := by rfl) :
    SD X ad w rs G (.Expr (.Call (.Attribute (.Subscript (.Name x p1) (.Constant (.int kk) jj p2) p3) name apos) (e :: es) [] cpos) pos) (oMutK i k o f) := by
  obtain ⟨r, mr, kr⟩ := hm
  obtain ⟨t, pa, ka⟩ := ha
  refine ⟨_, ps_expr (pe_bm PySem.F.plainAttrs_list slot hty mr (pe_ix ix_seq (pe_var hN hv hd hcd) pe_int (fun _ _ => rfl)) pa hbase hfew hline hs hplain) hsw, fun H0 ex0 ρ σ H ex De l f q => ?_⟩
  unfold oMutK at q
  cases e1 : dV i ρ with
  | exc c => rw [e1] at q; exact q.elim
  | bad => rw [e1] at q; exact q.elim
  | ok d =>
  rw [e1] at q
  have er : ρ[i]? = some (some d) := by
    unfold dV at e1
    split at e1
    · rename_i d' e
      cases e1
      exact e
    · cases e1
  cases d <;> first | exact q.elim | skip
  rename_i ds
  dsimp only at q
  split at q
  · rename_i xs ek
    obtain ⟨p, vs, a, us, eσ, hT, ev, hlen, hex, hn, hH, hz, hA, wr⟩ := f.ownT er hg hk ek
    have hkl : k < vs.length := (List.getElem?_eq_some_iff.mp ev).1
    refine ⟨_, eσ, .inr (.inl ⟨p, vs, kk, .ref a, rfl, rfl, seqT cut_same hT, ?_, .inl ⟨rfl, _, SqL.of hH⟩, ?_⟩)⟩
    · rw [hkk]
      exact atI_nat ev
    · refine ka ex0 ρ σ H ex _ f (sat_then l f q fun es q => ?_)
      intro ws H2 ex2 l2 hA2
      refine kr a us ws xs es H2 ex2 _ (l2.same a _ hH) (l2.keep a hex) hz (hA.mono l2.cuts) hA2 ?_
      cases ho : o xs es with
      | exc c => rw [ho] at q; exact q
      | bad => rw [ho] at q; exact q
      | ok ys =>
        rw [ho] at q
        intro vs2 v hz2 hA3
        exact q σ _ ex2 (own_le (l.trans l2) (l2.keep a hex) hn) (l2.cuts.trans (own_mo (l2.keep a hex))) (wr H2 ex2 l2 ys vs2 hz2 hA3)
  · exact q.elim
/-- the k-th list of the tuple at slot i -/
def kIx (i k : Nat) : Env → R (List D) := fun ρ => match dV i ρ with
  | .ok (.tup ds) => (match ds[k]? with
    | some (.lst xs) => .ok xs
    | _ => .bad)
  | _ => .bad
theorem dk_ixT (i k : Nat) {ss : List Sh} {kk : Int} {x : Str} {p1 p2 : Pos} {jj} (hkk : kk = k := by rfl) (hN : X.N[i]? = some x := by rfl) (hg : sh G i = .tup ss := by rfl) (hk : ss[k]? = some (.own .fz) := by rfl) (hv : Vis X.env.scope x := by first | exact Or.inl rfl | exact Or.inr (Or.inl rfl) | exact Or.inr (Or.inr rfl)) (hd : (x == ("__debug__" : Str)) = false := by decide)
    (hcd : (x == ("__classdict__" : Str)) = false := by decide) : DK X ad w G (.Subscript (.Name x p1) (.Constant (.int kk) jj p2) pos) (kIx i k) := by
  refine ⟨_, pe_ix ix_seq (pe_var hN hv hd hcd) pe_int (fun _ _ => rfl), fun ex0 ρ σ H ex Q f q => ?_⟩
  unfold kIx at q
  cases e1 : dV i ρ with
  | exc c => rw [e1] at q; exact q.elim
  | bad => rw [e1] at q; exact q.elim
  | ok d =>
  rw [e1] at q
  have er : ρ[i]? = some (some d) := by
    unfold dV at e1
    split at e1
    · rename_i d' e
      cases e1
      exact e
    · cases e1
  cases d <;> first | exact q.elim | skip
  rename_i ds
  dsimp only at q
  split at q
  · rename_i xs ek
    obtain ⟨p, vs, a, us, eσ, hT, ev, hlen, hex, hn, hH, hz, hA, _⟩ := f.ownT er hg hk ek
    refine ⟨_, eσ, .inr (.inl ⟨p, vs, kk, .ref a, rfl, rfl, seqT cut_same hT, ?_, q _ H ex (Le.refl _ _) ⟨_, _, rfl, SqL.of hH, hz, hA⟩⟩)⟩
    rw [hkk]
    exact atI_nat ev
  · exact q.elim
/-! ### argument lists of shapes -/
def DAS (X : Cx) (ad : Adr) (w : Wi) (G : Shs) (es : List Expr) (ss : List Sh) (f : Env → R (List D)) : Prop :=
  ∃ t, PA X es t ∧ ∀ ex0 ρ σ H ex Q, Fra X.K ad G ex0 ρ σ H ex → Sat (f ρ) (fun ds => ∀ vs H' ex' fp, Le H ex H' ex' → Reps X.K ad H' ex' ss ds vs fp → fp.Nodup → (∀ a ∈ fp, ¬ ex a) → Q vs H') (Exc w σ H ex) → t σ H Q
theorem das_nil : DAS X ad w G [] [] dNil := ⟨_, pa_nil, fun _ _ _ H ex _ _ q => q [] H ex [] (Le.refl _ _) .nil List.nodup_nil fun _ z => by cases z⟩
theorem das_cons {e : Expr} {es : List Expr} {s : Sh} {ss : List Sh} {f : Env → R D} {g : Env → R (List D)} (h : DE X ad w G e s f) (h' : DAS X ad w G es ss g) (hs : starEach (e :: es) X.env = (false, eval e X.env) :: starEach es X.env := by rfl) : DAS X ad w G (e :: es) (s :: ss) (dCons f g) := by
  obtain ⟨t, p, k⟩ := h
  obtain ⟨t', p', k'⟩ := h'
  refine ⟨_, pa_cons p p' hs, fun ex0 ρ σ H ex Q fr q => ?_⟩
  refine k ex0 ρ σ H ex _ fr ?_
  unfold dCons at q
  rw [sat_bind] at q
  refine q.imp (fun d q v H1 ex1 fp l r1 nd nw => ?_) fun _ z => z
  refine k' ex0 ρ σ H1 ex1 _ (fr.mono l) ?_
  rw [sat_bind] at q
  refine q.imp (fun ds q vs H2 ex2 fp2 l2 r2 nd2 nw2 => ?_) fun _ z => z.mono l
  refine q (v :: vs) H2 ex2 (fp ++ fp2) (l.trans l2) (.cons (r1.mono l2) r2) (List.nodup_append.mpr ⟨nd, nd2, fun a ha b hb hab => ?_⟩) fun a ha => ?_
  · subst hab
    exact nw2 a hb (r1.in a ha).1
  · rcases List.mem_append.mp ha with ha | ha
    · exact nw a ha
    · exact fun z => nw2 a ha (l.keep a z)
/-- a tuple of shapes -/
theorem de_tupS {es : List Expr} {x1} {ss : List Sh} {f : Env → R (List D)} {n : Nat} (h : DAS X ad w G es ss f) (hn : ∀ ρ ds, f ρ = .ok ds → ds.length = n) (hz : n ≤ 16777216 := by decide) : DE X ad w G (.Tuple es x1 pos) (.tup ss) (dTup f) := by
  obtain ⟨t, p, k⟩ := h
  refine ⟨_, pe_tup p, fun ex0 ρ σ H ex Q fr q => ?_⟩
  refine k ex0 ρ σ H ex _ fr ?_
  unfold dTup at q
  rw [sat_bind] at q
  cases e : f ρ with
  | exc c => rw [e] at q; exact q
  | bad => rw [e] at q; exact q
  | ok ds =>
    rw [e] at q
    intro vs H1 ex1 fp l r nd nw
    have hlen := (Reps.at (G := H1) cut_same r fun _ _ => rfl).length
    have hl : vs.length ≤ sizeLine := by
      rw [← hlen, hn ρ ds e]
      exact sq16 hz
    have q : Post X.K ad H ex (.tup ss) Q (.tup ds) := q
    refine ⟨hl, fun pp hp => ?_⟩
    have ll : Le H1 ex1 (upd H1 pp (.tup vs)) ex1 := Le.lay hp
    have hnx : ¬ ex1 pp := fun z => by
      obtain ⟨o, h⟩ := (fr.mono l).exok pp z
      rw [hp] at h
      cases h
    exact q (.ref pp) _ ex1 fp (l.trans ll) (.tup (SqT.of (cut_of hnx upd_same)) hl (r.mono ll)) nd nw
/-- a, b, c = x, y, z, the third a list of one's own -/
theorem sd_par3o {x y z : Str} {a b c : Expr} {f1 f2 f3 : Env → R D} {px py pz pt kt k2 pt2} (i j l : Nat) {s : Sh} (h1 : DE X ad w G a .fz f1) (h2 : DE X ad w G b .fz f2) (h3 : DE X ad w G c s f3) (nd : X.N.Nodup) (hc : X.calm = true := by rfl) (hi : X.N[i]? = some x := by rfl) (hj : X.N[j]? = some y := by rfl) (hl : X.N[l]? = some z := by rfl) (hij : i ≠ j := by decide) (hil : i ≠ l := by decide) (hjl : j ≠ l := by decide)
    (gi : sh G i = .fz := by rfl) (gj : sh G j = .fz := by rfl) (gl : sh G l = s := by rfl)
    (hx : X.env.scope.names.lookup x = some .local := by rfl) (hy : X.env.scope.names.lookup y = some .local := by rfl) (hz : X.env.scope.names.lookup z = some .local := by rfl)
    (e1 : starEach [a, b, c] X.env = (false, eval a X.env) :: starEach [b, c] X.env := by rfl) (e2 : starEach [b, c] X.env = (false, eval b X.env) :: starEach [c] X.env := by rfl) (e3 : starEach [c] X.env = (false, eval c X.env) :: starEach [] X.env := by rfl)
    (hw : swappedStores [.Tuple [.Name x px, .Name y py, .Name z pz] kt pt] (.Tuple [a, b, c] k2 pt2) X.env = pure (some [x, y, z]) := by rfl)
    (hs : swapsWithSole [.Tuple [.Name x px, .Name y py, .Name z pz] kt pt] (.Tuple [a, b, c] k2 pt2) pos.line X.env = pure false := by rfl) :
    SD X ad w rs G (.Assign [.Tuple [.Name x px, .Name y py, .Name z pz] kt pt] (.Tuple [a, b, c] k2 pt2) pos) (oAsg (tT (tCons' (tN i) (tCons' (tN j) (tCons' (tN l) tNil')))) (dTup (dCons f1 (dCons f2 (dCons f3 dNil))))) := by
  obtain ⟨t, p, k⟩ := das_cons h1 (das_cons h2 (das_cons h3 das_nil e3) e2) e1
  refine ⟨_, ps_par3 hc nd hi hj hl hij hil hjl hx hy hz p hw hs, fun H0 ex0 ρ σ H ex De ll fr q => ?_⟩
  refine k ex0 ρ σ H ex _ fr ?_
  unfold oAsg dTup at q
  generalize hf : dCons f1 (dCons f2 (dCons f3 dNil)) = f at q ⊢
  cases e : f ρ with
  | bad => rw [e] at q; exact q.elim
  | exc c => rw [e] at q; exact fun H' ex' l' => q σ H' ex' (ll.trans l') l'.cuts (fr.mono l').frz
  | ok ds =>
    rw [e] at q
    intro vs H1 ex1 fp l1 r ndp nw
    match ds, q, r with
    | [d, d', d2], q, .cons (v := v) (f := g1) r1 (.cons (v := v') (f := g2) r2 (.cons (v := v2) (f := g3) r3 .nil)) =>
      have a1 := rep_fz r1
      have a2 := rep_fz r2
      cases r1
      cases r2
      refine ⟨v, v', v2, rfl, ?_⟩
      have g3e : ([] ++ ([] ++ (g3 ++ []))) = g3 := by simp
      rw [g3e] at ndp nw
      refine q _ H1 ex1 (ll.trans l1) l1.cuts ?_
      -- the third one first, then what is anybody's
      have F3 : Fra X.K ad G ex0 (ρ.set l (some d2)) (σ.set l (some v2)) H1 ex1 := fr.setN l1 (by rw [gl]; exact r3) ndp nw fun a za z0 => nw a za (ll.keep a z0)
      have F2 := (F3.setF gi a1).setF gj a2
      have er : ((ρ.set l (some d2)).set i (some d)).set j (some d') = ((ρ.set i (some d)).set j (some d')).set l (some d2) := by
        rw [List.set_comm _ _ (Ne.symm hil), List.set_comm _ _ (Ne.symm hjl)]
      have es : ((σ.set l (some v2)).set i (some v)).set j (some v') = ((σ.set i (some v)).set j (some v')).set l (some v2) := by
        rw [List.set_comm _ _ (Ne.symm hil), List.set_comm _ _ (Ne.symm hjl)]
      rw [er, es] at F2
      exact F2
    | [], q, _ => exact q.elim
    | [_], q, _ => exact q.elim
    | [_, _], q, _ => exact q.elim
    | _ :: _ :: _ :: _ :: _, q, _ => exact q.elim
/-- .. by the tuple itself, where a name is a cell -/
theorem sd_asg3o {x y z : Str} {a b c : Expr} {f1 f2 f3 : Env → R D} {px py pz pt kt k2 pt2} (i j l : Nat) {s : Sh} (h1 : DE X ad w G a .fz f1) (h2 : DE X ad w G b .fz f2) (h3 : DE X ad w G c s f3) (nd : X.N.Nodup) (hc : X.calm = true := by rfl) (hi : X.N[i]? = some x := by rfl) (hj : X.N[j]? = some y := by rfl) (hl : X.N[l]? = some z := by rfl) (hij : i ≠ j := by decide) (hil : i ≠ l := by decide) (hjl : j ≠ l := by decide)
    (gi : sh G i = .fz := by rfl) (gj : sh G j = .fz := by rfl) (gl : sh G l = s := by rfl)
    (hx : Loc X.env.scope x := by first | exact Or.inl rfl | exact Or.inr rfl) (hy : Loc X.env.scope y := by first | exact Or.inl rfl | exact Or.inr rfl) (hz : Loc X.env.scope z := by first | exact Or.inl rfl | exact Or.inr rfl)
    (fx : X.fn x = true ∨ X.env.scope.names.lookup x = some .local := by first | exact .inl rfl | exact .inr rfl) (fy : X.fn y = true ∨ X.env.scope.names.lookup y = some .local := by first | exact .inl rfl | exact .inr rfl) (fz : X.fn z = true ∨ X.env.scope.names.lookup z = some .local := by first | exact .inl rfl | exact .inr rfl)
    (e1 : starEach [a, b, c] X.env = (false, eval a X.env) :: starEach [b, c] X.env := by rfl) (e2 : starEach [b, c] X.env = (false, eval b X.env) :: starEach [c] X.env := by rfl) (e3 : starEach [c] X.env = (false, eval c X.env) :: starEach [] X.env := by rfl)
    (t1 : (assignEach [.Name x px, .Name y py, .Name z pz] X.env).map (·.2) = assign (.Name x px) X.env :: (assignEach [.Name y py, .Name z pz] X.env).map (·.2) := by rfl) (t2 : (assignEach [.Name y py, .Name z pz] X.env).map (·.2) = assign (.Name y py) X.env :: (assignEach [.Name z pz] X.env).map (·.2) := by rfl) (t3 : (assignEach [.Name z pz] X.env).map (·.2) = assign (.Name z pz) X.env :: (assignEach [] X.env).map (·.2) := by rfl)
    (hn : (assignEach [.Name x px, .Name y py, .Name z pz] X.env).length = 3 := by rfl) (hst : (assignEach [.Name x px, .Name y py, .Name z pz] X.env).findIdx? (·.1) = none := by rfl)
    (hs : swapsWithSole [.Tuple [.Name x px, .Name y py, .Name z pz] kt pt] (.Tuple [a, b, c] k2 pt2) pos.line X.env = pure false := by rfl) (hw : swappedStores [.Tuple [.Name x px, .Name y py, .Name z pz] kt pt] (.Tuple [a, b, c] k2 pt2) X.env = pure none := by rfl)
    (ha : (assignEach [.Tuple [.Name x px, .Name y py, .Name z pz] kt pt] X.env).map (·.2) = [assign (.Tuple [.Name x px, .Name y py, .Name z pz] kt pt) X.env] := by rfl) :
    SD X ad w rs G (.Assign [.Tuple [.Name x px, .Name y py, .Name z pz] kt pt] (.Tuple [a, b, c] k2 pt2) pos) (oAsg (tT (tCons' (tN i) (tCons' (tN j) (tCons' (tN l) tNil')))) (dTup (dCons f1 (dCons f2 (dCons f3 dNil))))) := by
  obtain ⟨t, p, k⟩ := de_tupS (n := 3) (x1 := k2) (pos := pt2) (das_cons h1 (das_cons h2 (das_cons h3 das_nil e3) e2) e1) (cntS (cntS (cntS cnt0)))
  refine ⟨_, ps_asg p (pg_tup hc (pgs_cons (pg_name nd hi hx fx) (pgs_cons (pg_name nd hj hy fy) (pgs_cons (pg_name nd hl hz fz) pgs_nil t3) t2) t1) hn hst) hs hw ha, fun H0 ex0 ρ σ H ex De ll fr q => ?_⟩
  refine k ex0 ρ σ H ex _ fr (sat_then ll fr q fun d q => ?_)
  intro v H1 ex1 fp l1 r ndp nw
  cases r with
  | @tup _ ds a' vs _ hT _ hs' =>
  obtain ⟨d, d', d2, e⟩ : ∃ d d' d2, ds = [d, d', d2] := by
    have q : Ok X.K ad w rs G G H0 ex0 H ex De (outOf (tCons' (tN i) (tCons' (tN j) (tCons' (tN l) tNil')) ds ρ)) := q
    clear hs' k p
    rcases ds with _ | ⟨d, _ | ⟨d', _ | ⟨d2, _ | ⟨d3, ds⟩⟩⟩⟩
    · exact q.elim
    · exact q.elim
    · exact q.elim
    · exact ⟨d, d', d2, rfl⟩
    · exact q.elim
  subst e
  cases hs' with
  | @cons _ _ _ _ v _ g1 _ r1 hs' =>
  cases hs' with
  | @cons _ _ _ _ v' _ g2 _ r2 hs' =>
  cases hs' with
  | @cons _ _ _ _ v2 _ g3 _ r3 hs' =>
  cases hs'
  have a1 := rep_fz r1
  have a2 := rep_fz r2
  cases r1
  cases r2
  have g3e : ([] ++ ([] ++ (g3 ++ []))) = g3 := by simp
  rw [g3e] at ndp nw
  refine ⟨a', _, rfl, seqT cut_same hT, rfl, v, _, rfl, v', _, rfl, v2, _, rfl, rfl, ?_⟩
  refine q _ H1 ex1 (ll.trans l1) l1.cuts ?_
  have F3 : Fra X.K ad G ex0 (ρ.set l (some d2)) (σ.set l (some v2)) H1 ex1 := fr.setN l1 (by rw [gl]; exact r3) ndp nw fun a za z0 => nw a za (ll.keep a z0)
  have F2 := (F3.setF gi a1).setF gj a2
  have er : ((ρ.set l (some d2)).set i (some d)).set j (some d') = ((ρ.set i (some d)).set j (some d')).set l (some d2) := by
    rw [List.set_comm _ _ (Ne.symm hil), List.set_comm _ _ (Ne.symm hjl)]
  have es : ((σ.set l (some v2)).set i (some v)).set j (some v') = ((σ.set i (some v)).set j (some v')).set l (some v2) := by
    rw [List.set_comm _ _ (Ne.symm hil), List.set_comm _ _ (Ne.symm hjl)]
  rw [er, es] at F2
  exact F2
end
end DL

set_option Elab.async false
set_option linter.all false
set_option maxRecDepth 100000
set_option maxHeartbeats 4000000
set_option autoImplicit false
/-! DL22: chains as tests; the module's numbers. -/
namespace DL
open PySem PySem.Spec PyProof.Rows L2
def ConI (mg : Str → Option Value) (x : Str) (n : Int) : Prop := ∃ t, mg x = some (.int n t)
section
variable {X : Cx} {ad : Adr} {w : Wi} {rs : Sh} {G G' : Shs} {pos : Pos}
theorem con_i {x : Str} {n : Int} (h : ConI X.mg x n) : ∃ u v, X.mg x = some u ∧ RelV v u ∧ ∀ H, At X.K ad H (.int n) v := by
  obtain ⟨t, h⟩ := h
  exact ⟨_, .int n, h, ⟨t, rfl⟩, fun _ => .int n⟩
theorem dt_chain {op op' : CmpOp} {a b c : Expr} {f g h : Env → R D} {o o' : D → D → R D} (ho : DOp X ad (compareOp op) .fz o) (ho' : DOp X ad (compareOp op') .fz o') (ha : DE X ad w G a .fz f) (hb : DE X ad w G b .fz g) (hc : DE X ad w G c .fz h) (no : ∀ d e c, o d e ≠ .exc c) (no' : ∀ d e c, o' d e ≠ .exc c)
    (hm : lastMarks [op, op'] [b, c] = false := by with_unfolding_all rfl) : DT X ad w G (.Compare a [op, op'] [b, c] pos) (dB (dChain o o' f g h)) := by
  obtain ⟨r, hr, kr⟩ := ho
  obtain ⟨r', hr', kr'⟩ := ho'
  obtain ⟨ta, pa, ka⟩ := ha
  obtain ⟨tb, pb, kb⟩ := hb
  obtain ⟨tc, pc, kc⟩ := hc
  refine ⟨_, pt_chain hr hr' pa pb pc hm, fun ex0 ρ σ H ex Q0 fr q0 => ?_⟩
  have q : Sat (dChain o o' f g h ρ) (Post X.K ad H ex .fz fun x H' => ∃ k, x = .bl k ∧ Q0 k H') (Exc w σ H ex) := by
    unfold dB at q0
    rw [sat_bind] at q0
    exact q0.imp (fun d z => post_b z) fun _ z => z
  show tChain r r' ta tb tc σ H fun x H' => ∃ k, x = .bl k ∧ Q0 k H'
  revert q
  generalize (fun (x : V) H' => ∃ k, x = .bl k ∧ Q0 k H') = Q
  intro q
  refine ka ex0 ρ σ H ex _ fr ?_
  unfold dChain at q
  rw [sat_bind] at q
  refine q.imp (fun d q v H1 ex1 fp l r1 _ _ => ?_) fun _ z => z
  have a1 := rep_fz r1
  refine kb ex0 ρ σ H1 ex1 _ (fr.mono l) ?_
  rw [sat_bind] at q
  refine q.imp (fun e q u H2 ex2 fp l2 r2 _ _ => ?_) fun _ z => z.mono l
  have a2 := rep_fz r2
  have f2 := (fr.mono l).mono l2
  refine kr v u d e H2 ex2 _ f2.exok (a1.mono l2.cuts) a2 ?_
  rw [sat_bind] at q
  cases hh : o d e with
  | exc c => exact absurd hh (no d e c)
  | bad => rw [hh] at q; exact q
  | ok y =>
    rw [hh] at q
    have q : Sat ((asB y).bind _) _ _ := q
    rw [sat_bind] at q
    show Post X.K ad H2 ex2 .fz _ y
    refine post_bv q fun bb H3 ex3 q l3 => ⟨bb, rfl, ?_⟩
    have lt := (l.trans l2).trans l3
    cases bb with
    | false =>
      rw [if_neg Bool.false_ne_true] at q ⊢
      exact post_fz q lt (.bl false)
    | true =>
      rw [if_pos rfl] at q ⊢
      refine kc ex0 ρ σ H3 ex3 _ (f2.mono l3) ?_
      rw [sat_bind] at q
      refine q.imp (fun z q v4 H4 ex4 fp4 l4 r4 _ _ => ?_) fun _ z => z.mono lt
      refine kr' u v4 e z H4 ex4 Q ((f2.mono l3).mono l4).exok (a2.mono (l3.trans l4).cuts) (rep_fz r4) ?_
      cases hh' : o' e z with
      | exc c => exact absurd hh' (no' e z c)
      | bad => rw [hh'] at q; exact q
      | ok y' =>
        rw [hh'] at q
        exact fun v H' ex' fp l5 r5 nd nw => q v H' ex' fp ((lt.trans l4).trans l5) r5 nd fun a z zz => nw a z ((lt.trans l4).keep a zz)
/-- what a def tells of lent things, looked at -/
theorem du_callL {k j n : Nat} {x : Str} {p : Pos} {s : Sh} {F : List D → R D} {e : Expr} {es : List Expr} {f : Env → R (List D)} (c : Cal X.prog X.w X.K X.mg X.base ad k x n s F) (hr : Room j X.A) (hk : k ≤ j) (tk : Tk X ad w) (ha : DUA X ad w G (e :: es) f) (hl : (e :: es).length = n := by rfl) (hg : Gl X x := by rfl)
    (hdb : (x == ("__debug__" : Str)) = false := by decide) (he : starEach (e :: es) X.env = (false, eval e X.env) :: starEach es X.env := by rfl) (hpl : (backTo pos (starEach es X.env)).any (·.1) = false := by rfl) (hn : ∀ ρ ds, f ρ = .ok ds → ds.length = n) :
    DU X ad w G (.Call (.Name x p) (e :: es) [] pos) (dCall F f) := by
  obtain ⟨fa, fd, ps, F1, hm, hkp, hb⟩ := c.ex
  obtain ⟨W, hW, lk⟩ := tk
  obtain ⟨t, pa, ka⟩ := ha
  refine ⟨_, pe_callS F1 (hr.mono hk) hg hm hkp hb (fun σ => passAt hW σ) pa hdb he hpl, fun ex0 ρ σ H ex Q fr q => ?_⟩
  refine ka ex0 ρ σ H ex _ fr ?_
  unfold dCall at q
  rw [sat_bind] at q
  cases e1 : f ρ with
  | exc c => rw [e1] at q; exact q
  | bad => rw [e1] at q; exact q
  | ok ds =>
    rw [e1] at q
    intro vs H1 ex1 l a
    have hc : cut H1 (fun _ => False) = H1 := by
      funext b
      simp [cut]
    refine ⟨by rw [← a.length]; exact hn ρ ds e1, fun _ => False, ds, fun _ z => z.elim, by rw [hc]; exact a, ?_⟩
    refine Sat.imp (show Sat (F ds) (PostU X.K ad H ex Q) (Exc w σ H ex) from q) (fun d q v H2 ex2 fp l2 r nd nw => ?_) fun c q H2 sm => ?_
    · exact q v H2 ex1 (l.trans ⟨l2.same, fun _ z => z, fun _ z => .inl z⟩) r.here
    · exact lk c σ H2 (q H2 ex1 (l.trans ⟨sm, fun _ z => z, fun _ z => .inl z⟩))
end
end DL

set_option Elab.async false
set_option linter.all false
set_option maxRecDepth 100000
set_option maxHeartbeats 4000000
set_option autoImplicit false
/-! DL23: the least number of a tuple. -/
namespace DL
open PySem PySem.Spec PyProof.Rows L2
section
variable {X : Cx}
def rMinT (K : PySem.W.Frag) : List V → Hp → VK → Prop := fun vs H Q => ∃ (a : Addr) (ns : List Int), vs = [V.ref a] ∧ SqT K H a (ns.map V.int) ∧ 0 < ns.length ∧ ∀ m, m ∈ ns → (∀ y ∈ ns, m ≤ y) → Q (.int m) H
theorem cr_minT (hc : X.calm = true) : CallR X (.builtin "min") (rMinT X.K) := by
  intro pins s σ H vs us Q I r h
  obtain ⟨a, ns, rfl, hs, hne, q⟩ := h
  obtain ⟨its, rv, ht, _⟩ := I.tuple hs
  have ht : s.heap.IsTuple a its.toArray := ht
  have hi := rv.ints
  have hlen : its.length = ns.length := hi.length
  rw [Vals.ref1 r]
  have hlt : a < s.heap.objs.size := by
    obtain ⟨_, e, _⟩ := ht
    exact Heap.lt_size e
  have hval : ∀ (i : Nat) (v : Value), its.toArray[i]? = some v → ∃ t, v = Value.int (ns.getD i 0) t := fun i v e => by
    have e : its[i]? = some v := by simpa using e
    have hl : i < ns.length := by
      rw [← hlen]
      exact (List.getElem?_eq_some_iff.mp e).1
    obtain ⟨t, e2⟩ := hi.get i _ (List.getElem?_eq_getElem hl)
    rw [e] at e2
    cases e2
    exact ⟨t, by rw [List.getD_eq_getElem?_getD, List.getElem?_eq_getElem hl]; rfl⟩
  refine call_min_walk (wpAny_pyIter_tuple ht ?_)
  refine ⟨_, _, _, _, _, _, _, rfl, Walks.tuple (A := X.A.in1) (I.ok.hd hc) s.heap.objs.size a (Nat.ne_of_lt hlt) its.toArray, ⟨⟨_, Heap.get?_push_size _ rfl, rfl, rfl⟩, ht.push _⟩, fun b hb => ?_, by simp; omega, CmpOf.ints_lt (fun i => ns.getD i 0) hval, fun v h' tk hP hk => ?_⟩
  · show b < (s.heap.push _).objs.size
    rw [Heap.size_push]
    simp at hb
    rcases hb with rfl | rfl
    · exact Nat.lt_succ_self _
    · exact Nat.lt_succ_of_lt hlt
  · obtain ⟨t, rfl⟩ := hval _ v hP
    obtain ⟨b1, b2⟩ := argBest_lt (fun i => ns.getD i 0) (its.toArray.size - 1)
    have hb : argBest (fun i j => decide (ns.getD i 0 < ns.getD j 0)) (its.toArray.size - 1) < ns.length := by
      have : its.toArray.size = ns.length := by simpa using hlen
      omega
    refine ⟨.int _, H, I.kept (t' := tk) fun b u e => hk b u (fun hm => ?_) (Heap.get?_push_of_some _ e), ⟨t, rfl⟩, q _ ?_ fun y hy => ?_⟩
    · have := Heap.lt_size e
      rw [List.mem_singleton.mp hm] at this
      exact absurd this (Nat.lt_irrefl _)
    · rw [List.getD_eq_getElem?_getD, List.getElem?_eq_getElem hb]
      exact List.getElem_mem hb
    · obtain ⟨i, h1, h2⟩ := List.mem_iff_getElem.mp hy
      have e : ns.getD i 0 = y := by rw [List.getD_eq_getElem?_getD, List.getElem?_eq_getElem h1, ← h2]; rfl
      rw [← e]
      refine b2 i ?_
      have : its.toArray.size = ns.length := by simpa using hlen
      omega
def oMinA : List D → R D
  | [.tup ds] => match intL ds with | some [] => .bad | some ns => .ok (.int (minL ns)) | none => .bad
  | ds => oMin ds
theorem dcu_minA {ad : Adr} (hc : X.calm = true) : DCu X ad (.builtin "min") oMinA := by
  obtain ⟨r, hr, kr⟩ := dcu_min (X := X) (ad := ad) hc
  refine ⟨_, hr.or (cr_minT hc), fun vs ds H Q a q => ?_⟩
  unfold oMinA at q
  split at q
  · rename_i ds
    obtain ⟨v, rfl, a1⟩ := a.one
    cases a1 with
    | tup h hz hs =>
      split at q
      · exact q.elim
      · rename_i ns hne e
        have e2 := ints_of e
        subst e2
        rw [ats_ints hs] at h
        have hn : ns ≠ [] := hne
        refine .inr ⟨_, ns, rfl, h, List.length_pos_iff.mpr hn, fun m h1 h2 => ?_⟩
        have := minL_mem hn
        have hm : m = minL ns := by
          have h3 := this.2 m h1
          have h4 := h2 _ this.1
          omega
        rw [hm]
        exact q _ fl_int
      · exact q.elim
  · exact .inl (kr vs _ H Q a q)
theorem nox_minA : NoX oMinA := by
  intro ds c z
  unfold oMinA at z
  split at z
  · split at z <;> cases z
  · exact nox_min _ _ z
end
end DL

set_option Elab.async false
set_option linter.all false
set_option maxRecDepth 100000
set_option maxHeartbeats 4000000
set_option autoImplicit false
/-! DL24: zip of a list and a tuple. -/
namespace DL
open PySem PySem.Spec PyProof.Rows L2 RZ
theorem apt {x y : Nat} (h : x < y ∨ y < x) : x ≠ y := by omega
/-- a list at a beside a tuple at b, turn by turn -/
def ItzM (K : PySem.W.Frag) (a b : Addr) : It where
  go i H := ∃ xs ys x y, SqL K H a xs ∧ SqT K H b ys ∧ xs[i]? = some x ∧ ys[i]? = some y
  yld i H v H' := ∃ T x y, v = V.ref T ∧ H T = none ∧ H' = upd H T (.tup [x, y]) ∧ (∀ l, SqL K H a l → l[i]? = some x) ∧ (∀ l, SqT K H b l → l[i]? = some y)
  stop i H := ∃ xs ys, SqL K H a xs ∧ SqT K H b ys ∧ i = min xs.length ys.length
def ZqAt (n a b : Nat) (i : Nat) (h : Heap) : Prop :=
  IsZip h (n + 4) (n + 2) (n + 3) .none ∧ IsTupOf2 h (n + 2) (.ref n) (.ref (n + 1)) ∧ (∃ x y, IsTupOf2 h (n + 3) x y) ∧ h.IsListIter n a i ∧ h.IsTupleIter (n + 1) b i
theorem zq_sep {n a b : Nat} (ha : a < n) (hb : b < n) : ZipSep2 (n + 4) (n + 2) (n + 3) n (n + 1) [n, a] [n + 1, b] := by
  constructor <;> simp
  all_goals exact fun e => absurd e (Nat.ne_of_gt (by omega))
theorem zq_cases {n : Nat} {C : Nat → Prop} (c4 : C (n + 4)) (c2 : C (n + 2)) (c3 : C (n + 3)) (c0 : C n) (c1 : C (n + 1)) : ∀ c ∈ [n + 4, n + 2, n + 3, n, n + 1], C c := by
  intro c hc
  simp only [List.mem_cons, List.not_mem_nil, or_false] at hc
  rcases hc with rfl | rfl | rfl | rfl | rfl <;> assumption
theorem turn_zq {P : Program} {w : World} {K : PySem.W.Frag} {elts : List Expr} {kk : Nat} {tpos : Pos} {n a b : Nat} (ha : a < n) (hb : b < n) :
    Turn P w K (.Tuple elts kk tpos) (ItzM K a b) [n + 4, n + 2, n + 3, n, n + 1] (n + 4) (ZqAt n a b) where
  mem := List.mem_cons_self
  obj := by
    rintro i h ⟨q1, q2, ⟨x, y, q3⟩, ⟨o, q4, _, d4⟩, ⟨o', q5, _, d5⟩⟩
    exact zq_cases (C := fun c => ∃ o, h.get? c = some o ∧ ∀ v, o.data ≠ .cell v) ⟨_, q1, nofun⟩ ⟨_, q2, nofun⟩ ⟨_, q3, nofun⟩ ⟨o, q4, fun v z => by rw [d4] at z; cases z⟩ ⟨o', q5, fun v z => by rw [d5] at z; cases z⟩
  keep := by
    rintro i h h' ⟨q1, q2, ⟨x, y, q3⟩, q4, q5⟩ k
    exact ⟨k _ (by simp) _ q1, k _ (by simp) _ q2, ⟨x, y, k _ (by simp) _ q3⟩, q4.at fun o z => k _ (by simp) o z, q5.at fun o z => k _ (by simp) o z⟩
  item := by
    rintro X rfl rfl rfl hc i pins s σ H E I hf ⟨q1, q2, ⟨x0, y0, q3⟩, q4, q5⟩ ⟨xs, ys, x, y, sx, sy, gx, gy⟩
    have hh : X.A.in1.handled = none := I.ok.hd hc
    obtain ⟨as, ra, pa, _⟩ := I.list sx
    obtain ⟨bs, rb, pb, _⟩ := I.tuple sy
    obtain ⟨u, gu, ru⟩ := ra.get gx
    obtain ⟨t, gt, rt⟩ := rb.get gy
    have la : i < as.toArray.size := by
      have := (List.getElem?_eq_some_iff.mp gu).1
      simpa using this
    have lb : i < bs.toArray.size := by
      have := (List.getElem?_eq_some_iff.mp gt).1
      simpa using this
    have z4 : n + 4 < s.heap.objs.size := Heap.lt_size q1
    refine wpAny_pyNext_zipD2_item (zq_sep ha hb) (Draws.list hh n a (apt (by omega)) as.toArray) (Draws.tuple hh (n + 1) b (apt (by omega)) bs.toArray) q1 q2 q3 ⟨q4, pa.isList⟩ ⟨q5, pb⟩ la lb ?_
    intro u' t' h' tk eu et w1 w3 w4 w5 wT wsz wk
    have eu2 : u' = u := by simpa [gu] using eu.symm
    have et2 : t' = t := by simpa [gt] using et.symm
    subst eu2 et2
    refine ⟨_, rfl, ?_⟩
    refine wpAny_letOwnedTupleGo_zip (s := { s with heap := h', toks := tk }) w1 ?_
    intro h2 w1' sb
    have keep : ∀ c o, c ∉ [n + 4, n + 2, n + 3, n, n + 1] → s.heap.get? c = some o → h2.get? c = some o := fun c o hn e => by
      simp only [List.mem_cons, List.not_mem_nil, or_false, not_or] at hn
      rw [sb.2 c hn.1]
      exact wk c o hn.1 hn.2.2.1 hn.2.2.2.1 hn.2.2.2.2 e
    have wT2 : h2.get? s.heap.objs.size = some { cls := .type "tuple", data := .seq #[u', t'] } := by
      rw [sb.2 _ (apt (by omega))]
      exact wT
    have I2 := I.turnedNew (t' := tk) (h' := h2) (T := s.heap.objs.size) (ob := .tup [x, y]) keep hf (Nat.le_refl _) ⟨show 2 ≤ sizeLine by decide, [u', t'], .cons ru (.cons rt .nil), ⟨_, wT2, rfl, _, rfl⟩⟩
    refine ⟨.ref s.heap.objs.size, _, I2, rfl, ⟨_, x, y, rfl, I.hok.fresh (Nat.le_refl _), rfl, fun l hl => ?_, fun l hl => ?_⟩, ⟨w1', ?_, ⟨u', t', ?_⟩, ?_, ?_⟩, fun c hcm => ?_⟩
    · rw [I.list_inj hl sx]; exact gx
    · rw [I.tuple_inj hl sy]; exact gy
    · exact (sb.2 _ (apt (by omega))).trans (wk _ _ (apt (by omega)) (apt (by omega)) (apt (by omega)) (apt (by omega)) q2)
    · exact (sb.2 _ (apt (by omega))).trans w3
    · exact w4.1.at fun o z => (sb.2 _ (apt (by omega))).trans z
    · exact w5.1.at fun o z => (sb.2 _ (apt (by omega))).trans z
    · have hn : c ≠ s.heap.objs.size := by
        have := zq_cases (n := n) (C := fun c => c < n + 5) (by omega) (by omega) (by omega) (by omega) (by omega) c hcm
        exact apt (.inl (by omega))
      rw [upd_ne hn]
      exact (hf c hcm).1
  done := by
    rintro X rfl rfl rfl hc i pins s σ H E I hf ⟨q1, q2, ⟨x0, y0, q3⟩, q4, q5⟩ ⟨xs, ys, sx, sy, hend⟩
    obtain ⟨as, ra, pa, _⟩ := I.list sx
    obtain ⟨bs, rb, pb, _⟩ := I.tuple sy
    have hh : X.A.in1.handled = none := I.ok.hd hc
    have la := ra.length
    have lb := rb.length
    refine wpAny_pyNext_zipD2_end (zq_sep ha hb) (Draws.list hh n a (apt (by omega)) as.toArray) (Draws.tuple hh (n + 1) b (apt (by omega)) bs.toArray) q1 q2 q3 ⟨q4, pa.isList⟩ ⟨q5, pb⟩ ?_ ?_ ?_ ?_
    · simp; omega
    · simp; omega
    · simp; omega
    · intro h' tk wk
      refine ⟨rfl, I.turnedL (t' := tk) (ch := [n + 4, n + 2, n + 3, n, n + 1]) (fun c o hn e => ?_) hf⟩
      simp only [List.mem_cons, List.not_mem_nil, or_false, not_or] at hn
      exact wk c o hn.1 hn.2.2.1 hn.2.2.2.1 hn.2.2.2.2 e
  self := fun A i s Q E st h => wpAny_pyIter_zip st.1 h
def iZipM (K : PySem.W.Frag) (ta : TA) : TI := fun σ H Rr => ta σ H fun vs H1 => ∃ a b xs ys, vs = [.ref a, .ref b] ∧ SqL K H1 a xs ∧ SqT K H1 b ys ∧ Rr (ItzM K a b) H1
theorem pi_zipM {X : Cx} {e e2 : Expr} {ta : TA} {p pos tpos : Pos} {elts : List Expr} {kk : Nat} (hg : Gl X "zip") (hm : X.mg "zip" = none) (ha : PA X [e, e2] ta)
    (hs : starEach [e, e2] X.env = (false, eval e X.env) :: starEach [e2] X.env) (hpl : (backTo pos (starEach [e2] X.env)).any (·.1) = false) :
    PI X (.Tuple elts kk tpos) (.Call (.Name "zip" p) [e, e2] [] pos) (iZipM X.K ta) := by
  refine ⟨fun pins s σ H Rr I h => Call_ (ld_blt I hg hm PyProof.Rows.boot_zip (PyProof.Rows.callWith_type1 (thn (ha.run pos pins s σ H _ I h) ?_) hs hpl))⟩
  rintro us s1 ⟨vs, H1, I1, r1, a, b, xs, ys, rfl, sx, sy, q⟩
  rcases r1 with _ | ⟨ra, _ | ⟨rb, ⟨⟩⟩⟩
  cases ra
  cases rb
  obtain ⟨as, rva, pa, _⟩ := I1.list sx
  obtain ⟨bs, rvb, pb, _⟩ := I1.tuple sy
  have la : a < s1.heap.objs.size := pa.lt
  have lb : b < s1.heap.objs.size := by
    obtain ⟨o, ho, _⟩ := id pb
    exact Heap.lt_size ho
  refine zip_begins2 (begins_list a as.toArray) (begins_tuple b bs.toArray) pa.isList pb ?_
  intro h' w1 w2 w3 w4 w5 wsz wk
  refine wpAny_pyIter_zip w1 ⟨_, _, _, _, H1, rfl, I1.kept (t' := s1.toks) wk, turn_zq la lb, ⟨w1, w2, ⟨_, _, w3⟩, ⟨_, w4, rfl, rfl⟩, ⟨_, w5, rfl, rfl⟩⟩, ?_, q⟩
  have f : ∀ c, s1.heap.objs.size ≤ c → FpOk X pins H1 c := fun c hc => I1.fpOk hc (I1.hok.fresh hc)
  exact zq_cases (f _ (Nat.le_add_right _ _)) (f _ (Nat.le_add_right _ _)) (f _ (Nat.le_add_right _ _)) (f _ (Nat.le_refl _)) (f _ (Nat.le_add_right _ _))
def itZM : List D → R (List D)
  | [.lst ds, .tup es] => .ok ((ds.zip es).map fun p => .tup [p.1, p.2])
  | _ => .bad

theorem walk_zipM {K : PySem.W.Frag} {a b : Addr} {xs ys : List V} {n : Nat} (hn : n = min xs.length ys.length) : Walk (ItzM K a b) n (fun H => SqL K H a xs ∧ SqT K H b ys) (YPair (fun i => xs[i]?) (fun i => ys[i]?)) where
  goes i H hi q := ⟨xs, ys, xs[i]'(by omega), ys[i]'(by omega), q.1, q.2, by simp, by simp⟩
  stops H q := ⟨xs, ys, q.1, q.2, hn⟩
  yields := by
    rintro i H v H' hi q ⟨T, x, y, e1, e2, e3, f1, f2⟩
    exact ⟨T, x, y, e1, e2, e3, f1 xs q.1, f2 ys q.2⟩
section
variable {X : Cx} {ad : Adr} {w : Wi} {G : Shs} {pos : Pos}
theorem di_zipM {e e2 : Expr} {f : Env → R (List D)} {p tpos : Pos} {elts : List Expr} {kk : Nat} (h : DA X ad w G [e, e2] f) (hg : Gl X "zip" := by rfl) (hm : X.mg "zip" = none := by assumption)
    (hs : starEach [e, e2] X.env = (false, eval e X.env) :: starEach [e2] X.env := by rfl) (hpl : (backTo pos (starEach [e2] X.env)).any (·.1) = false := by rfl) :
    DI X ad w G (.Tuple elts kk tpos) (.Call (.Name "zip" p) [e, e2] [] pos) (iA itZM f) := by
  obtain ⟨t, pa, k⟩ := h
  refine ⟨_, pi_zipM hg hm pa hs hpl, fun ex0 ρ σ H ex Rr fr q => k ex0 ρ σ H ex _ fr ?_⟩
  unfold iA at q
  rw [sat_bind] at q
  refine q.imp (fun ds q vs H1 ex1 l a => ?_) fun _ z => z
  unfold itZM at q
  split at q
  · obtain ⟨v, u, rfl, a1, a2⟩ := a.two
    cases a1 with
    | @lst c vs _ h hz hs =>
      cases a2 with
      | @tup d us _ h' hz' hs' =>
        refine ⟨c, d, vs, us, rfl, cut_same.seq h, seqT cut_same h', q (ItzM X.K c d) H1 ex1 (min vs.length us.length) _ _ l ?_ (Nat.le_trans (Nat.min_le_left _ _) hz) (walk_zipM rfl) (fun H' ex' m => ⟨(Same.trans m cut_same).seq h, seqT (Same.trans m cut_same) h'⟩) fun i H' ex' x H'' hi m hex y => zip_turn hs hs' hi m hex y⟩
        rw [List.length_map, List.length_zip, hs.length, hs'.length]
  · exact q.elim
end
end DL

set_option Elab.async false
set_option linter.all false
set_option maxRecDepth 100000
set_option maxHeartbeats 4000000
set_option autoImplicit false
/-! DL25: texts: str, join, split, the signs of a text, the module's texts. -/
namespace DL
open PySem PySem.Spec PyProof.Rows L2
def isP : Sh → Bool
  | .pin _ => true
  | _ => false
theorem noPin_slot2 {K : PySem.W.Frag} {ad : Adr} {G : Shs} {ρ : Env} {σ : L2.St} {H : Hp} {ex : Own} {fps : Nat → List Addr} (h1 : ∀ i d, ρ[i]? = some (some d) → ∃ v, σ[i]? = some (some v) ∧ Rep K ad H ex (sh G i) d v (fps i)) (h3 : ∀ i j a, i ≠ j → a ∈ fps i → a ∉ fps j) {i : Nat} (hgo : isP (sh G i) = false) : NoPin G ρ (fps i) := fun j a d2 ej gj z => by
  obtain ⟨v2, e2, r2⟩ := h1 j d2 ej
  have hji : j ≠ i := fun q => by rw [← q, gj] at hgo; cases hgo
  rw [gj] at r2
  have ha : a ∈ fps j := by
    generalize hq : fps j = q at r2
    cases r2 with
    | pin _ _ _ _ => simp
  exact h3 j i a hji ha z
def ConS (mg : Str → Option Value) (x s : Str) : Prop := ∃ t, mg x = some (.str s t)
section
variable {X : Cx} {ad : Adr} {w : Wi} {rs : Sh} {G G' : Shs} {pos : Pos} {tg : Expr}
def oStr : List D → R D
  | [.int i] => if i.natAbs.log2 < 1920 then .ok (.str (Str.ofString (toString i))) else .bad
  | _ => .bad
theorem dcu_str : DCu X ad (.type "str") oStr := by
  refine ⟨_, call_str_int, fun vs ds H Q a q => ?_⟩
  unfold oStr at q
  split at q
  · obtain ⟨v, rfl, a1⟩ := a.one
    cases a1
    split at q
    · rename_i hh
      exact ⟨_, rfl, hh, q _ fl_str⟩
    · exact q.elim
  · exact q.elim
theorem nox_str : NoX oStr := by
  intro ds c z
  unfold oStr at z
  split at z <;> (try split at z) <;> cases z
/-! lists of texts -/
def strL : List D → Option (List Str)
  | [] => some []
  | .str x :: ds => (strL ds).map (x :: ·)
  | _ => none
theorem ats_strs {K : PySem.W.Frag} {H : Hp} : ∀ {ds : List D} {ys : List Str} {vs : List V}, strL ds = some ys → Ats K ad H ds vs → vs = ys.map V.str
  | [], ys, _, e, .nil => by cases e; rfl
  | d :: ds, ys, _, e, .cons h hs => by
    cases h with
    | str x =>
      obtain ⟨zs, e1, rfl⟩ := Option.map_eq_some_iff.mp (show (strL ds).map (x :: ·) = some ys from e)
      rw [ats_strs e1 hs]
      rfl
    | _ => cases e
theorem strs_ats {K : PySem.W.Frag} {H : Hp} : ∀ (ys : List Str), Ats K ad H (ys.map D.str) (ys.map V.str)
  | [] => .nil
  | y :: ys => .cons (.str y) (strs_ats ys)
def asS : D → R Str
  | .str a => .ok a
  | _ => .bad
/-! join -/
def oJoin (a : Str) : D → R D
  | .lst ds => (match strL ds with
    | some ys => if (ys.map (·.length)).sum + ys.length * a.length ≤ 16777216 then .ok (.str (Txt.join a ys)) else .bad
    | none => .bad)
  | _ => .bad
def dJoin (f g : Env → R D) : Env → R D := fun ρ => (f ρ).bind fun x => (asS x).bind fun a => (g ρ).bind fun y => oJoin a y
theorem de_join {o e : Expr} {f g : Env → R D} {apos : Pos} (ho : DE X ad w G o .fz f) (he : DU X ad w G e g) (hs : starEach [e] X.env = [(false, eval e X.env)] := by rfl) (hbase : attributeBase o "join" X.env (eval o X.env) = eval o X.env := by rfl) (hline : (apos.endLine == pos.line) = true := by rfl) :
    DE X ad w G (.Call (.Attribute o "join" apos) [e] [] pos) .fz (dJoin f g) := by
  obtain ⟨to, po, ko⟩ := ho
  obtain ⟨te, pe, ke⟩ := he
  refine ⟨_, pe_join po pe hs hbase hline, fun ex0 ρ σ H ex Q fr q => ko ex0 ρ σ H ex _ fr ?_⟩
  unfold dJoin at q
  rw [sat_bind] at q
  refine q.imp (fun d q v H1 ex1 fp l r _ _ => ?_) fun _ z => z
  have a1 := rep_fz r
  rw [sat_bind] at q
  cases a1 with
  | str a =>
    have q : Sat ((g ρ).bind fun y => oJoin a y) (Post X.K ad H ex .fz Q) (Exc w σ H ex) := q
    rw [sat_bind] at q
    refine ⟨⟨a, rfl⟩, ke ex0 ρ σ H1 ex1 _ (fr.mono l) (q.imp (fun e q u H2 ex2 l2 a2 => ?_) fun _ z => z.mono l)⟩
    cases a2 with
    | @lst p vs ds h hz hh =>
      have q : Sat (match strL ds with
        | some ys => if (ys.map (·.length)).sum + ys.length * a.length ≤ 16777216 then R.ok (D.str (Txt.join a ys)) else .bad
        | none => .bad) (Post X.K ad H ex .fz Q) (Exc w σ H ex) := q
      split at q
      · rename_i ys ey
        split at q
        · rename_i hc
          have := ats_strs ey hh
          subst this
          exact ⟨a, p, ys, rfl, rfl, .inl h, hc, post_fz q (l.trans l2) (.str _)⟩
        · exact q.elim
      · exact q.elim
    | _ => exact q.elim
  | _ => exact q.elim
/-! split -/
def oSplit (a : Str) : D → R D
  | .str b => if (b.length == 0) = false ∧ a.length + 2 ≤ sizeLine then .ok (.lst ((Txt.split a b).map .str)) else .bad
  | _ => .bad
def dSplit (f g : Env → R D) : Env → R D := fun ρ => (f ρ).bind fun x => (asS x).bind fun a => (g ρ).bind fun y => oSplit a y
theorem de_split {o e : Expr} {f g : Env → R D} {apos : Pos} (ho : DE X ad w G o .fz f) (he : DE X ad w G e .fz g) (hs : starEach [e] X.env = [(false, eval e X.env)] := by rfl) (hbase : attributeBase o "split" X.env (eval o X.env) = eval o X.env := by rfl) (hline : (apos.endLine == pos.line) = true := by rfl) :
    DE X ad w G (.Call (.Attribute o "split" apos) [e] [] pos) (.own .fz) (dSplit f g) := by
  obtain ⟨to, po, ko⟩ := ho
  obtain ⟨te, pe, ke⟩ := he
  refine ⟨_, pe_split po pe hs hbase hline, fun ex0 ρ σ H ex Q fr q => ko ex0 ρ σ H ex _ fr ?_⟩
  unfold dSplit at q
  rw [sat_bind] at q
  refine q.imp (fun d q v H1 ex1 fp l r _ _ => ?_) fun _ z => z
  have a1 := rep_fz r
  rw [sat_bind] at q
  cases a1 with
  | str a =>
    have q : Sat ((g ρ).bind fun y => oSplit a y) (Post X.K ad H ex (.own .fz) Q) (Exc w σ H ex) := q
    rw [sat_bind] at q
    have fr1 := fr.mono l
    refine ⟨⟨a, rfl⟩, ke ex0 ρ σ H1 ex1 _ fr1 (q.imp (fun e q u H2 ex2 fp2 l2 r2 _ _ => ?_) fun _ z => z.mono l)⟩
    have a2 := rep_fz r2
    cases a2 with
    | str b =>
      have q : Sat (if (b.length == 0) = false ∧ a.length + 2 ≤ sizeLine then R.ok (D.lst ((Txt.split a b).map .str)) else .bad) (Post X.K ad H ex (.own .fz) Q) (Exc w σ H ex) := q
      split at q
      · rename_i hc
        refine ⟨a, b, rfl, rfl, hc.1, hc.2, fun p hp => ?_⟩
        have q : Post X.K ad H2 ex2 (.own .fz) Q (.lst ((Txt.split a b).map .str)) := fun v H' ex' fp l3 r3 nd nw => (show Post X.K ad H ex (.own .fz) Q _ from q) v H' ex' fp ((l.trans l2).trans l3) r3 nd fun a z zz => nw a z ((l.trans l2).keep a zz)
        refine post_lst q (strs_ats _) ?_ (fr1.mono l2).exok hp
        rw [List.length_map]
        exact Nat.le_trans (PyProof.Rows.split_le a b) hc.2
      · exact q.elim
    | _ => exact q.elim
  | _ => exact q.elim
/-! the module's texts -/
theorem con_s {x s : Str} (h : ConS X.mg x s) : ∃ u v, X.mg x = some u ∧ RelV v u ∧ ∀ H, At X.K ad H (.str s) v := by
  obtain ⟨t, h⟩ := h
  exact ⟨_, .str s, h, ⟨t, rfl⟩, fun H => .str s⟩
/-! the signs of a text -/
def itStr : D → R (List D)
  | .str x => if x.length ≤ sizeLine then .ok (x.cps.toList.map fun c => .str ⟨#[c]⟩) else .bad
  | _ => .bad
def iStrs (f : Env → R D) : Env → R (List D) := fun ρ => (f ρ).bind itStr
theorem di_str {e : Expr} {f : Env → R D} (h : DE X ad w G e .fz f) : DI X ad w G tg e (iStrs f) := by
  obtain ⟨t, p, k⟩ := h
  refine ⟨_, pi_str p, fun ex0 ρ σ H ex Rr fr q => k ex0 ρ σ H ex _ fr ?_⟩
  unfold iStrs at q
  rw [sat_bind] at q
  refine q.imp (fun d q v H1 ex1 fp l r _ _ => ?_) fun _ z => z
  have a := rep_fz r
  cases a with
  | str x =>
    unfold itStr at q
    dsimp only at q
    split at q
    · rename_i hz
      refine ⟨x, rfl, q (Its x) H1 ex1 x.cps.size _ _ l (by simp) hz walk_str (fun H' ex' m => trivial) fun i H' ex' y H'' hi m _ z => ?_⟩
      obtain ⟨rfl, c, hc, rfl⟩ := z
      exact ⟨_, by simp [hc], Le.refl _ _, .str _⟩
    · exact q.elim
  | _ => exact q.elim
/-- a tuple of things looked at -/
theorem du_tup {es : List Expr} {x1} {f : Env → R (List D)} {n : Nat} (h : DUA X ad w G es f) (hn : ∀ ρ ds, f ρ = .ok ds → ds.length = n) (hz : n ≤ 16777216 := by decide) : DU X ad w G (.Tuple es x1 pos) (dTup f) := by
  obtain ⟨t, p, k⟩ := h
  refine ⟨_, pe_tup p, fun ex0 ρ σ H ex Q fr q => k ex0 ρ σ H ex _ fr ?_⟩
  unfold dTup at q
  rw [sat_bind] at q
  cases e : f ρ with
  | exc c => rw [e] at q; exact q
  | bad => rw [e] at q; exact q
  | ok ds =>
    rw [e] at q
    intro vs H1 ex1 l a
    have hl : vs.length ≤ sizeLine := by
      rw [← a.length, hn ρ ds e]
      exact sq16 hz
    refine ⟨hl, fun pp hp => ?_⟩
    have q : PostU X.K ad H ex Q (.tup ds) := q
    have l2 : Le H1 ex1 (upd H1 pp (.tup vs)) ex1 := Le.lay hp
    exact q _ _ ex1 (l.trans l2) (.tup (SqT.of upd_same) hl (a.mono l2.same))
theorem dV_some {ρ : Env} {i : Nat} {d : D} (h : dV i ρ = .ok d) : ρ[i]? = some (some d) := by
  unfold dV at h
  split at h
  · rename_i e
    cases h
    exact e
  · cases h
/-- return (x, y, z), each as its slot holds it -/
theorem sds_retT3 (i j k : Nat) {s1 s2 s3 : Sh} {x y z : Str} {p1 p2 p3 pt : Pos} {kt : Nat} (hN : X.N[i]? = some x := by rfl) (hN2 : X.N[j]? = some y := by rfl) (hN3 : X.N[k]? = some z := by rfl) (hg : sh G i = s1 := by rfl) (hg2 : sh G j = s2 := by rfl) (hg3 : sh G k = s3 := by rfl) (hij : i ≠ j := by decide) (hik : i ≠ k := by decide) (hjk : j ≠ k := by decide) (hp1 : isP s1 = false := by rfl) (hp2 : isP s2 = false := by rfl) (hp3 : isP s3 = false := by rfl)
    (hv : Vis X.env.scope x := by first | exact Or.inl rfl | exact Or.inr (Or.inl rfl) | exact Or.inr (Or.inr rfl)) (hd : (x == ("__debug__" : Str)) = false := by decide) (hcd : (x == ("__classdict__" : Str)) = false := by decide)
    (hv2 : Vis X.env.scope y := by first | exact Or.inl rfl | exact Or.inr (Or.inl rfl) | exact Or.inr (Or.inr rfl)) (hd2 : (y == ("__debug__" : Str)) = false := by decide) (hcd2 : (y == ("__classdict__" : Str)) = false := by decide)
    (hv3 : Vis X.env.scope z := by first | exact Or.inl rfl | exact Or.inr (Or.inl rfl) | exact Or.inr (Or.inr rfl)) (hd3 : (z == ("__debug__" : Str)) = false := by decide) (hcd3 : (z == ("__classdict__" : Str)) = false := by decide)
    (h1 : starEach [.Name x p1, .Name y p2, .Name z p3] X.env = (false, eval (.Name x p1) X.env) :: starEach [.Name y p2, .Name z p3] X.env := by rfl) (h2 : starEach [.Name y p2, .Name z p3] X.env = (false, eval (.Name y p2) X.env) :: starEach [.Name z p3] X.env := by rfl)
    (h3 : starEach [.Name z p3] X.env = (false, eval (.Name z p3) X.env) :: starEach [] X.env := by rfl) :
    SDs X ad w (.tup [s1, s2, s3]) G G' [.Return (some (.Tuple [.Name x p1, .Name y p2, .Name z p3] kt pt)) pos] (oRet (dTup (dCons (dV i) (dCons (dV j) (dCons (dV k) dNil))))) := by
  refine ⟨_, pss_one (ps_ret (pe_tup (pa_cons (pe_var hN hv hd hcd) (pa_cons (pe_var hN2 hv2 hd2 hcd2) (pa_cons (pe_var hN3 hv3 hd3 hcd3) pa_nil h3) h2) h1))), fun H0 ex0 ρ σ H ex De l f q => ?_⟩
  unfold oRet dTup dCons dNil at q
  cases e1 : dV i ρ with
  | exc c => rw [e1] at q; exact absurd e1 (by unfold dV; split <;> exact fun z => by cases z)
  | bad => rw [e1] at q; exact q.elim
  | ok d =>
  rw [e1] at q
  cases e2 : dV j ρ with
  | exc c => rw [e2] at q; exact absurd e2 (by unfold dV; split <;> exact fun z => by cases z)
  | bad => rw [e2] at q; exact q.elim
  | ok d' =>
  rw [e2] at q
  cases e3 : dV k ρ with
  | exc c => rw [e3] at q; exact absurd e3 (by unfold dV; split <;> exact fun z => by cases z)
  | bad => rw [e3] at q; exact q.elim
  | ok d2 =>
  rw [e3] at q
  obtain ⟨fps, f1, f2, f3, f4⟩ := f.slots
  obtain ⟨v, w1, r⟩ := f1 i d (dV_some e1)
  obtain ⟨v', w2, r'⟩ := f1 j d' (dV_some e2)
  obtain ⟨v2, w3, r2⟩ := f1 k d2 (dV_some e3)
  rw [hg] at r
  rw [hg2] at r'
  rw [hg3] at r2
  refine ⟨v, w1, v', w2, v2, w3, show 3 ≤ sizeLine by rw [sizeLine_eq]; omega, fun p hp => ?_⟩
  have ll : Le H ex (upd H p (.tup [v, v', v2])) ex := Le.lay hp
  have hnx : ¬ ex p := fun z => by
    obtain ⟨o, h⟩ := f.exok p z
    rw [hp] at h
    cases h
  have q : Ok X.K ad w (.tup [s1, s2, s3]) G G' H0 ex0 H ex De (.rt (.tup [d, d', d2]) ρ) := q
  have np1 := noPin_slot2 f1 f3 (i := i) (by rw [hg]; exact hp1)
  have np2 := noPin_slot2 f1 f3 (i := j) (by rw [hg2]; exact hp2)
  have np3 := noPin_slot2 f1 f3 (i := k) (by rw [hg3]; exact hp3)
  refine q (.ref p) σ _ ex (fps i ++ (fps j ++ (fps k ++ []))) (l.trans ll) ll.cuts (.tup (SqT.of (cut_of hnx upd_same)) (show 3 ≤ sizeLine by rw [sizeLine_eq]; omega) (.cons (r.mono ll) (.cons (r'.mono ll) (.cons (r2.mono ll) .nil)))) ?_ (fun a z => ?_) (f.mono ll).frz (np1.append (np2.append (np3.append NoPin.nil)))
  · rw [List.append_nil]
    refine List.nodup_append.mpr ⟨f2 i, List.nodup_append.mpr ⟨f2 j, f2 k, fun a ha b hb hab => f3 j k a hjk ha (hab ▸ hb)⟩, fun a ha b hb hab => ?_⟩
    rcases List.mem_append.mp hb with hb | hb
    · exact f3 i j a hij ha (hab ▸ hb)
    · exact f3 i k a hik ha (hab ▸ hb)
  · rw [List.append_nil] at z
    rcases List.mem_append.mp z with z | z
    · exact (f4 i a z).2
    · rcases List.mem_append.mp z with z | z
      · exact (f4 j a z).2
      · exact (f4 k a z).2
end
end DL

set_option Elab.async false
set_option linter.all false
set_option maxRecDepth 100000
set_option maxHeartbeats 4000000
set_option autoImplicit false
/-! DL26: lists of lists of one's own. -/
namespace DL
open PySem PySem.Spec PyProof.Rows L2
abbrev nest : Sh := .own (.own .fz)
section
variable {K : PySem.W.Frag} {ad : Adr} {G : Shs} {ex0 ex : Own} {ρ : Env} {σ : L2.St} {H : Hp}
theorem rep_k {n k : Nat} {s : Sh} (h : k < n) : (List.replicate n s)[k]? = some s := by
  rw [List.getElem?_replicate, if_pos h]
theorem Fra.ownN (f : Fra K ad G ex0 ρ σ H ex) {i k : Nat} {ds xs : List D} (e : ρ[i]? = some (some (.lst ds))) (g : sh G i = nest) (hd : ds[k]? = some (.lst xs)) :
    ∃ p vs a us, σ[i]? = some (some (.ref p)) ∧ H p = some (.lst vs) ∧ vs[k]? = some (.ref a) ∧ ex a ∧ ¬ ex0 a ∧ H a = some (.lst us) ∧ us.length ≤ sizeLine ∧ Ats K ad (cut H ex) xs us ∧
      ∀ H2 ex2, Le H ex H2 ex2 → ∀ xs' us', us'.length ≤ sizeLine → Ats K ad (cut H2 ex2) xs' us' → Fra K ad G ex0 (ρ.set i (some (.lst (ds.set k (.lst xs'))))) σ (upd H2 a (.lst us')) ex2 := by
  obtain ⟨fps, h1, h2, h3, h4⟩ := f.slots
  obtain ⟨v, e1, r⟩ := h1 i _ e
  rw [g] at r
  generalize hfp : fps i = fp at r
  have hi : i < ρ.length := (List.getElem?_eq_some_iff.mp e).1
  have hkn : k < ds.length := (List.getElem?_eq_some_iff.mp hd).1
  cases r with
  | flt z _ => cases z
  | @own _ _ p vs fq hex0 hHp hzp hs =>
  have nd : (p :: fq).Nodup := hfp ▸ h2 i
  have ndq := (List.nodup_cons.mp nd).2
  obtain ⟨a, us, q1, q2, hex, hH, hz, hA, _⟩ := hs.kth ndq (rep_k hkn) hd
  have hpa : p ≠ a := fun z => (List.nodup_cons.mp nd).1 (z ▸ q2)
  have ha : a ∈ fps i := by rw [hfp]; exact List.mem_cons_of_mem _ q2
  refine ⟨p, vs, a, us, e1, hHp, q1, hex, (h4 i a ha).2, hH, hz, hA, fun H2 ex2 l xs' us' hz' hA' => ?_⟩
  obtain ⟨a', us2, q1', _, hex', _, _, _, wr⟩ := (hs.mono l).kth ndq (rep_k hkn) hd
  rw [q1] at q1'
  cases q1'
  have fm := f.mono l
  refine ⟨by rw [List.length_set, f.len], fun b z => ?_, fps, fun j d' ej => ?_, h2, h3, fun j b z => ⟨l.keep b (h4 j b z).1, (h4 j b z).2⟩⟩
  · by_cases hb : b = a
    · subst hb
      exact ⟨_, upd_same⟩
    · rw [upd_ne hb]
      exact fm.exok b z
  · by_cases hj : j = i
    · subst hj
      rw [List.getElem?_set_self hi] at ej
      cases ej
      refine ⟨_, e1, ?_⟩
      rw [g, hfp]
      refine .own (l.keep p hex0) ((upd_ne hpa).trans (l.same p _ hHp)) hzp ?_
      rw [List.length_set]
      exact wr xs' us' hz' hA'
    · rw [List.getElem?_set_ne (Ne.symm hj)] at ej
      obtain ⟨v', e2, r'⟩ := h1 j d' ej
      refine ⟨v', e2, (r'.mono l).keep (own_same hex') fun b z => ⟨l.keep b (h4 j b z).1, upd_ne fun q => ?_⟩⟩
      subst q
      exact h3 j i b hj z ha
end
section
variable {X : Cx} {ad : Adr} {w : Wi} {rs : Sh} {G G' : Shs} {pos : Pos}
/-- [x, y, ..], each a list of one's own -/
theorem de_lstO {es : List Expr} {f : Env → R (List D)} {n : Nat} (h : DAS X ad w G es (List.replicate n (.own .fz)) f) (hn : ∀ ρ ds, f ρ = .ok ds → ds.length = n) (hz : n ≤ 16777216 := by decide) : DE X ad w G (.List es pos) nest (dLst f) := by
  obtain ⟨t, p, k⟩ := h
  refine ⟨_, pe_lst p, fun ex0 ρ σ H ex Q fr q => k ex0 ρ σ H ex _ fr ?_⟩
  unfold dLst at q
  rw [sat_bind] at q
  cases e : f ρ with
  | exc c => rw [e] at q; exact q
  | bad => rw [e] at q; exact q
  | ok ds =>
    rw [e] at q
    intro vs H1 ex1 fp l r nd nw
    have hlen := (Reps.at (G := H1) cut_same r fun _ _ => rfl).length
    have hd := hn ρ ds e
    have hl : vs.length ≤ sizeLine := by
      rw [← hlen, hd]
      exact sq16 hz
    have q : Post X.K ad H ex nest Q (.lst ds) := q
    refine ⟨hl, fun pp hp => ?_⟩
    have ll : Le H1 ex1 (upd H1 pp (.lst vs)) (plus ex1 pp) := Le.own hp
    have hnx : ∀ a ∈ fp, a ≠ pp := fun a ha z => by
      obtain ⟨_, o, h⟩ := r.in a ha
      rw [z, hp] at h
      cases h
    refine q (.ref pp) _ (plus ex1 pp) (pp :: fp) (l.trans ll) (.own (.inr rfl) upd_same hl ?_) (List.nodup_cons.mpr ⟨fun z => hnx pp z rfl, nd⟩) fun a z => ?_
    · rw [hd]
      exact r.mono ll
    · rcases List.mem_cons.mp z with rfl | z
      · intro hx
        obtain ⟨o, h⟩ := fr.exok a hx
        have := l.same a o h
        rw [hp] at this
        cases this
      · exact nw a z
/-- x[k].m(..), x a list of lists of one's own at slot i -/
def oMutN (i k : Nat) (o : List D → List D → R (List D)) (f : Env → R (List D)) : Env → Out := fun ρ => match dV i ρ with
  | .ok (.lst ds) => (match ds[k]? with
    | some (.lst xs) => (f ρ).then ρ fun es => match o xs es with
      | .ok ys => .nx (ρ.set i (some (.lst (ds.set k (.lst ys)))))
      | _ => .bad
    | _ => .bad)
  | _ => .bad
theorem sd_mutN (i k : Nat) {kk : Int} {x : Str} {p1 p2 p3 apos cpos : Pos} {jj} {name : Str} {id : String} {e : Expr} {es : List Expr} {f : Env → R (List D)} {o : List D → List D → R (List D)} (hm : DMt X ad id o) (slot : Slot "list" name id) (hty : typeOf (.builtin id) = pure (.type "method_descriptor")) (ha : DA X ad w G (e :: es) f)
    (hkk : kk = k := by rfl) (hN : X.N[i]? = some x := by rfl) (hg : sh G i = nest := by rfl) (hv : Vis X.env.scope x := by first | exact Or.inl rfl | exact Or.inr (Or.inl rfl) | exact Or.inr (Or.inr rfl)) (hd : (x == ("__debug__" : Str)) = false := by decide) (hcd : (x == ("__classdict__" : Str)) = false := by decide)
    (hbase : attributeBase (.Subscript (.Name x p1) (.Constant (.int kk) jj p2) p3) name X.env (eval (.Subscript (.Name x p1) (.Constant (.int kk) jj p2) p3) X.env) = eval (.Subscript (.Name x p1) (.Constant (.int kk) jj p2) p3) X.env := by rfl)
    (hfew : ((backTo cpos (starEach (e :: es) X.env)).all (fun x => !x.1) && (backToKw cpos (keywordEach [] X.env)).all (fun x => x.1.isSome)
      && decide ((e :: es).length + ([] : List Keyword).length + (if ([] : List Keyword).isEmpty then 0 else 1) < 30)) = true := by rfl)
    (hline : (apos.endLine == cpos.line) = true := by rfl) (hs : starEach (e :: es) X.env = (false, eval e X.env) :: starEach es X.env := by rfl) (hplain : (backTo cpos (starEach es X.env)).any (·.1) = false := by rfl)
    (hsw : swapsWith (.Call (.Attribute (.Subscript (.Name x p1) (.Constant (.int kk) jj p2) p3) name apos) (e :: es) [] cpos) none pos.line X.env = pure false := by rfl) :
    SD X ad w rs G (.Expr (.Call (.Attribute (.Subscript (.Name x p1) (.Constant (.int kk) jj p2) p3) name apos) (e :: es) [] cpos) pos) (oMutN i k o f) := by
  obtain ⟨r, mr, kr⟩ := hm
  obtain ⟨t, pa, ka⟩ := ha
  refine ⟨_, ps_expr (pe_bm PySem.F.plainAttrs_list slot hty mr (pe_ix ix_seq (pe_var hN hv hd hcd) pe_int (fun _ _ => rfl)) pa hbase hfew hline hs hplain) hsw, fun H0 ex0 ρ σ H ex De l f q => ?_⟩
  unfold oMutN at q
  cases e1 : dV i ρ with
  | exc c => rw [e1] at q; exact q.elim
  | bad => rw [e1] at q; exact q.elim
  | ok d =>
  rw [e1] at q
  have er := dV_some e1
  cases d <;> first | exact q.elim | skip
  rename_i ds
  dsimp only at q
  split at q
  · rename_i xs ek
    obtain ⟨p, vs, a, us, eσ, hP, ev, hex, hn, hH, hz, hA, wr⟩ := f.ownN er hg ek
    refine ⟨_, eσ, .inl ⟨p, vs, kk, .ref a, rfl, rfl, SqL.of hP, ?_, .inl ⟨rfl, _, SqL.of hH⟩, ?_⟩⟩
    · rw [hkk]
      exact atI_nat ev
    · refine ka ex0 ρ σ H ex _ f (sat_then l f q fun es q => ?_)
      intro ws H2 ex2 l2 hA2
      refine kr a us ws xs es H2 ex2 _ (l2.same a _ hH) (l2.keep a hex) hz (hA.mono l2.cuts) hA2 ?_
      cases ho : o xs es with
      | exc c => rw [ho] at q; exact q
      | bad => rw [ho] at q; exact q
      | ok ys =>
        rw [ho] at q
        intro vs2 v hz2 hA3
        exact q σ _ ex2 (own_le (l.trans l2) (l2.keep a hex) hn) (l2.cuts.trans (own_mo (l2.keep a hex))) (wr H2 ex2 l2 ys vs2 hz2 hA3)
  · exact q.elim
end
end DL

set_option Elab.async false
set_option linter.all false
set_option maxRecDepth 100000
set_option maxHeartbeats 4000000
set_option autoImplicit false
/-! DL27: a list of one's own, walked while its place is kept. -/
namespace DL
open PySem PySem.Spec PyProof.Rows L2
/-- slot i, a list that stands at a -/
def pinS (G : Shs) (i : Nat) (a : Addr) : Shs := (i, .pin a) :: G
theorem pinS_at {G : Shs} {i : Nat} {a : Addr} : sh (pinS G i a) i = .pin a := by
  unfold sh pinS
  rw [List.lookup_cons]
  simp
theorem pinS_out {G : Shs} {i j : Nat} {a : Addr} (h : j ≠ i) : sh (pinS G i a) j = sh G j := by
  unfold sh pinS
  rw [List.lookup_cons]
  have : (j == i) = false := by simpa using h
  rw [this]
section
variable {K : PySem.W.Frag} {ad : Adr} {G : Shs} {ex0 ex : Own} {ρ : Env} {σ : L2.St} {H : Hp}
theorem Fra.pin (f : Fra K ad G ex0 ρ σ H ex) {i : Nat} {a : Addr} {vs : List V} {ds : List D} (e : ρ[i]? = some (some (.lst ds))) (g : sh G i = .own .fz) (ea : σ[i]? = some (some (.ref a))) : Fra K ad (pinS G i a) ex0 ρ σ H ex := by
  obtain ⟨fps, h1, h2, h3, h4⟩ := f.slots
  refine ⟨f.len, f.exok, fps, fun j d ej => ?_, h2, h3, h4⟩
  obtain ⟨v, e1, r⟩ := h1 j d ej
  refine ⟨v, e1, ?_⟩
  by_cases hj : j = i
  · subst hj
    rw [e] at ej
    cases ej
    rw [ea] at e1
    cases e1
    rw [pinS_at]
    rw [g] at r
    generalize fps j = fp at r
    cases r with
    | flt z _ => cases z
    | own hex hH hz hs =>
      obtain ⟨rfl, hA⟩ := hs.fzs
      exact .pin hex hH hz hA
  · rw [pinS_out hj]
    exact r
theorem Fra.unpin {i : Nat} {a : Addr} (f : Fra K ad (pinS G i a) ex0 ρ σ H ex) (g : sh G i = .own .fz) : Fra K ad G ex0 ρ σ H ex := by
  obtain ⟨fps, h1, h2, h3, h4⟩ := f.slots
  refine ⟨f.len, f.exok, fps, fun j d ej => ?_, h2, h3, h4⟩
  obtain ⟨v, e1, r⟩ := h1 j d ej
  refine ⟨v, e1, ?_⟩
  by_cases hj : j = i
  · subst hj
    rw [pinS_at] at r
    rw [g]
    generalize fps j = fp at r
    cases r with
    | pin hex hH hz hA => exact .own hex hH hz hA.reps
  · rw [pinS_out hj] at r
    exact r
theorem Fra.pinned {i : Nat} {a : Addr} (f : Fra K ad (pinS G i a) ex0 ρ σ H ex) {d : D} (e : ρ[i]? = some (some d)) : ∃ ds vs, d = .lst ds ∧ σ[i]? = some (some (.ref a)) ∧ ex a ∧ ¬ ex0 a ∧ H a = some (.lst vs) ∧ vs.length ≤ sizeLine ∧ Ats K ad (cut H ex) ds vs := by
  obtain ⟨fps, h1, h2, h3, h4⟩ := f.slots
  obtain ⟨v, e1, r⟩ := h1 i d e
  rw [pinS_at] at r
  generalize hfp : fps i = fp at r
  cases r with
  | @pin ds _ vs hex hH hz hA => exact ⟨ds, vs, rfl, e1, hex, (h4 i a (by rw [hfp]; simp)).2, hH, hz, hA⟩
end
section
variable {X : Cx} {ad : Adr} {w : Wi} {rs : Sh} {G G' : Shs} {pos : Pos} {i : Nat} {a : Addr}
theorem de_up {e : Expr} {s : Sh} {f : Env → R D} (h : DE X ad w G e s f) (g : sh G i = .own .fz := by rfl) : DE X ad w (pinS G i a) e s f := by
  obtain ⟨t, p, k⟩ := h
  exact ⟨t, p, fun ex0 ρ σ H ex Q fr q => k ex0 ρ σ H ex Q (fr.unpin g) q⟩
theorem du_up {e : Expr} {f : Env → R D} (h : DU X ad w G e f) (g : sh G i = .own .fz := by rfl) : DU X ad w (pinS G i a) e f := by
  obtain ⟨t, p, k⟩ := h
  exact ⟨t, p, fun ex0 ρ σ H ex Q fr q => k ex0 ρ σ H ex Q (fr.unpin g) q⟩
theorem da_up {e : List Expr} {f : Env → R (List D)} (h : DA X ad w G e f) (g : sh G i = .own .fz := by rfl) : DA X ad w (pinS G i a) e f := by
  obtain ⟨t, p, k⟩ := h
  exact ⟨t, p, fun ex0 ρ σ H ex Q fr q => k ex0 ρ σ H ex Q (fr.unpin g) q⟩
theorem dt_up {e : Expr} {f : Env → R Bool} (h : DT X ad w G e f) (g : sh G i = .own .fz := by rfl) : DT X ad w (pinS G i a) e f := by
  obtain ⟨t, p, k⟩ := h
  exact ⟨t, p, fun ex0 ρ σ H ex Q fr q => k ex0 ρ σ H ex Q (fr.unpin g) q⟩
theorem walk_pin {K : PySem.W.Frag} {a : Addr} {n : Nat} : Walk (Itl K a) n (fun H => ∃ vs, SqL K H a vs ∧ vs.length = n) (fun i H v H' => H' = H ∧ ∀ vs, SqL K H a vs → vs[i]? = some v) where
  goes := by
    rintro i H hi ⟨vs, q, rfl⟩
    exact ⟨vs, vs[i], q, List.getElem?_eq_getElem hi⟩
  stops := by
    rintro H ⟨vs, q, rfl⟩
    exact ⟨vs, q, Nat.le_refl _⟩
  yields := by
    rintro i H v H' hi _ ⟨e, y⟩
    exact ⟨e, y⟩
/-- as many turns as the list is long, which no turn changes -/
def loopQ (i : Nat) (h : D → Env → R Env) (g : Env → Out) : Nat → Nat → Env → Out
  | 0, k, ρ => match dV i ρ with
    | .ok (.lst ds) => if ds.length = k then .nx ρ else .bad
    | _ => .bad
  | n + 1, k, ρ => match dV i ρ with
    | .ok (.lst ds) => if ds.length = k + (n + 1) then (match ds[k]? with
      | some d => (match h d ρ with
        | .ok ρ1 => (g ρ1).seq (loopQ i h g n (k + 1))
        | _ => .bad)
      | none => .bad) else .bad
    | _ => .bad
def oForP (i : Nat) (h : D → Env → R Env) (g : Env → Out) : Env → Out := fun ρ => match dV i ρ with
  | .ok (.lst ds) => loopQ i h g ds.length 0 ρ
  | _ => .bad
theorem sd_forP (i : Nat) {x : Str} {px : Pos} {tg : Expr} {body : List Stmt} {vs : List Nat} {h : D → Env → R Env} {g : Env → Out} (hp : PassesOwn (model X.prog X.w) X.A X.env X.xe) (hc : X.calm = true) (hg : ∀ a, DG X ad (pinS G i a) tg vs h) (hb : ∀ a, SDs X ad w rs (pinS G i a) (pinS G i a) body g)
    (hN : X.N[i]? = some x := by rfl) (hsh : sh G i = .own .fz := by rfl) (hv : Vis X.env.scope x := by first | exact Or.inl rfl | exact Or.inr (Or.inl rfl) | exact Or.inr (Or.inr rfl)) (hd : (x == ("__debug__" : Str)) = false := by decide) (hcd : (x == ("__classdict__" : Str)) = false := by decide)
    (hs : ∀ z, foldedSetIterable (.Name x px) X.env z = pure z := by intro _; rfl) : SD X ad w rs G (.For tg (.Name x px) body [] pos) (oForP i h g) := by
  let gt : TG := fun v σ H Q => ∃ a t, PG X tg t ∧ (∀ ex0 ρ σ H ex d v Q, Fra X.K ad (pinS G i a) ex0 ρ σ H ex → At X.K ad (cut H ex) d v → Sat (h d ρ) (fun ρ' => ∀ σ', Fra X.K ad (pinS G i a) ex0 ρ' σ' H ex → (∀ us : List Nat, (∀ i ∈ vs, i ∈ us) → L2.wipe σ' us = L2.wipe σ us) → Q σ' H) (fun _ => False) → t v σ H Q) ∧ t v σ H Q
  let tb : TS := fun De σ H => ∃ t, PSs X body t ∧ t De σ H
  have pg : PG X tg gt := ⟨fun pins s σ H v u Q I r ⟨a, t, p, _, z⟩ => p.run pins s σ H v u Q I r z⟩
  have pb : PSs X body tb := ⟨fun pins s σ H De I ⟨t, p, z⟩ => p.run pins s σ H De I z⟩
  refine ⟨_, ps_for hp hc (pi_lt (pe_var hN hv hd hcd)) pg pb hs, fun H0 ex0 ρ σ H ex De l f q => ?_⟩
  unfold oForP at q
  cases e1 : dV i ρ with
  | exc c => rw [e1] at q; exact q.elim
  | bad => rw [e1] at q; exact q.elim
  | ok d =>
  rw [e1] at q
  have er := dV_some e1
  cases d <;> first | exact q.elim | skip
  rename_i ds
  have q : Ok X.K ad w rs G G H0 ex0 H ex De (loopQ i h g ds.length 0 ρ) := q
  obtain ⟨a, us, ds', ed, eσ, hex, hn, hH, hz, hA, _⟩ := f.own er (by rw [hsh]; rfl)
  cases ed
  have fp := f.pin (vs := us) er hsh eσ
  refine ⟨_, eσ, a, rfl, .inl ⟨⟨us, SqL.of hH⟩, ?_⟩⟩
  refine for_it (walk_pin (n := ds.length)) (fun k σ' H' => ∃ ρ' ex', Le H0 ex0 H' ex' ∧ Fra X.K ad (pinS G i a) ex0 ρ' σ' H' ex' ∧ Ok X.K ad w rs G G H0 ex0 H' ex' De (loopQ i h g (ds.length - k) k ρ')) ⟨ρ, ex, l, fp, q⟩ ?_ ?_ ?_
  · rintro k σ' H' hk ⟨ρ', ex', l', f', q'⟩
    have : ∃ es, dV i ρ' = .ok (.lst es) ∧ es.length = ds.length := by
      by_cases hz : ds.length - k = 0
      · rw [hz] at q'
        unfold loopQ at q'
        split at q'
        · rename_i es ee
          split at q'
          · exact ⟨es, ee, by omega⟩
          · exact q'.elim
        · exact q'.elim
      · obtain ⟨m, hm⟩ : ∃ m, ds.length - k = m + 1 := ⟨ds.length - k - 1, by omega⟩
        rw [hm] at q'
        unfold loopQ at q'
        split at q'
        · rename_i es ee
          split at q'
          · exact ⟨es, ee, by omega⟩
          · exact q'.elim
        · exact q'.elim
    obtain ⟨es, ee, he⟩ := this
    obtain ⟨ds2, vs2, e2, _, _, _, hH2, _, hA2⟩ := f'.pinned (dV_some ee)
    cases e2
    exact ⟨vs2, SqL.of hH2, by rw [← hA2.length, he]⟩
  · rintro k x σ' H' H'' hk ⟨ρ', ex', l', f', q'⟩ ⟨rfl, gy⟩
    obtain ⟨m, hm⟩ : ∃ m, ds.length - k = m + 1 := ⟨ds.length - k - 1, by omega⟩
    rw [hm] at q'
    unfold loopQ at q'
    split at q'
    · rename_i es ee
      split at q'
      · rename_i hes
        split at q'
        · rename_i d hd2
          obtain ⟨ds2, vs3, e2, _, hex2, _, hH2, _, hA2⟩ := f'.pinned (dV_some ee)
          cases e2
          obtain ⟨d', hd3, ha⟩ := hA2.getV (gy vs3 (SqL.of hH2))
          rw [hd2] at hd3
          cases hd3
          obtain ⟨t, p, kg⟩ := hg a
          refine ⟨a, t, p, kg, kg ex0 ρ' σ' H'' ex' d x _ f' ha ?_⟩
          cases hh : h d ρ' with
          | exc c => rw [hh] at q'; exact q'
          | bad => rw [hh] at q'; exact q'
          | ok ρ2 =>
            rw [hh] at q'
            intro σ2 f2 _
            obtain ⟨t2, p2, kb⟩ := hb a
            refine ⟨t2, p2, kb H0 ex0 ρ2 σ2 H'' ex' _ l' f2 ?_⟩
            dsimp only at q'
            cases hg' : g ρ2 with
            | nx ρ3 =>
              rw [hg'] at q'
              have hm2 : ds.length - (k + 1) = m := by omega
              exact fun σ3 H3 ex3 l3 m3 f3 => ⟨ρ3, ex3, l3, f3, by rw [hm2]; exact q'.from m3⟩
            | rt d ρ3 =>
              rw [hg'] at q'
              have up : ∀ j, isO (sh G j) = false → sh (pinS G i a) j = sh G j := fun j hj => pinS_out fun z => by
                subst z
                rw [hsh] at hj
                cases hj
              exact fun v σ3 H3 ex3 fp l3 m3 r nd n0 f3 np => q' v σ3 H3 ex3 fp l3 m3 r nd n0 (Frz.up f3 up) (np.up up)
            | xc c ρ3 =>
              rw [hg'] at q'
              exact fun σ3 H3 ex3 l3 m3 f3 => q' σ3 H3 ex3 l3 m3 (Frz.up f3 fun j hj => pinS_out fun z => by
                subst z
                rw [hsh] at hj
                cases hj)
            | bad => rw [hg'] at q'; exact q'
        · exact q'.elim
      · exact q'.elim
    · exact q'.elim
  · rintro σ' H' ⟨ρ', ex', l', f', q'⟩
    rw [Nat.sub_self] at q'
    unfold loopQ at q'
    split at q'
    · split at q'
      · exact q' σ' H' ex' l' Mo.refl (f'.unpin hsh)
      · exact q'.elim
    · exact q'.elim
end
end DL

set_option Elab.async false
set_option linter.all false
set_option maxRecDepth 100000
set_option maxHeartbeats 4000000
set_option autoImplicit false
/-! DL28: calls with no argument; a text, so many times. -/
namespace DL
open PySem PySem.Spec PyProof.Rows L2
/-- a text so many times -/
def repS (x : Str) (n : Int) : Str := if n < 1 then Str.empty else if (n == 1 || x.length == 0) = true then x else ⟨(List.replicate n.toNat x.cps).foldl (· ++ ·) #[]⟩
def rMulS : R2 := fun x y H Q => ∃ (z : Str) (n : Int), x = V.str z ∧ y = .int n ∧ -(2 ^ 62) ≤ n ∧ n ≤ 16777216 ∧ z.length * n.toNat ≤ sizeLine ∧ (repS z n).length ≤ sizeLine ∧ Q (.str (repS z n)) H
section
variable {X : Cx}
theorem op_mulS : OpR X (binaryOp .Mult) rMulS := by
  intro pins s σ H x y v u Q I rx ry h
  obtain ⟨z, n, rfl, rfl, h1, h2, h3, h4, q⟩ := h
  obtain ⟨t, rfl⟩ := rx
  obtain ⟨t2, rfl⟩ := ry
  have e1 : ¬ n < -(2 ^ 63 : Int) := by omega
  have e2 : ¬ n ≥ 2 ^ 63 := by omega
  refine PySem.P.mul_str (by rw [decide_eq_false e1, decide_eq_false e2]; rfl) (fun a b => ?_) (fun a b => ?_) ?_
  · refine Int.not_lt.mpr (Int.le_ediv_of_mul_le (by omega) ?_)
    have h3' : ((z.length * n.toNat : Nat) : Int) ≤ (sizeLine : Nat) := Int.ofNat_le.mpr h3
    rw [Int.natCast_mul, show ((n.toNat : Nat) : Int) = n by omega, sizeLine_eq] at h3'
    omega
  · unfold Builtin.Str.tooLong
    exact decide_eq_false (by omega)
  · unfold repS at q h4
    by_cases c : n < 1
    · rw [if_pos c] at q h4 ⊢
      exact ⟨h4, .str _, H, I.tok _, ⟨_, rfl⟩, q⟩
    · rw [if_neg c] at q h4 ⊢
      by_cases c2 : (n == 1 || z.length == 0) = true
      · rw [if_pos c2] at q h4 ⊢
        exact ⟨.str z, H, I, ⟨t, rfl⟩, q⟩
      · rw [if_neg c2] at q h4 ⊢
        exact ⟨h4, .str _, H, I.tok _, ⟨_, rfl⟩, q⟩
variable {ad : Adr}
def oMulS : D → D → R D
  | .str z, .int n => if -(2 ^ 62) ≤ n ∧ n ≤ 16777216 ∧ z.length * n.toNat ≤ 16777216 ∧ (repS z n).length ≤ 16777216 then .ok (.str (repS z n)) else .bad
  | _, _ => .bad
theorem dop_mulS : DOp X ad (binaryOp .Mult) .fz oMulS := by
  refine ⟨_, op_mulS, fun x y d e H ex Q hx a b q => ?_⟩
  cases a <;> cases b <;> first | exact q.elim | skip
  unfold oMulS at q
  dsimp only at q
  split at q
  · rename_i hh
    exact ⟨_, _, rfl, rfl, hh.1, hh.2.1, by rw [sizeLine_eq]; exact hh.2.2.1, by rw [sizeLine_eq]; exact hh.2.2.2, post_fz q (Le.refl _ _) (.str _)⟩
  · exact q.elim
theorem no_mulS : ∀ d e c, oMulS d e ≠ .exc c := by
  intro d e c z
  unfold oMulS at z
  split at z <;> (try split at z) <;> cases z
end
section
variable {X : Cx} {ad : Adr} {w : Wi} {G : Shs} {pos : Pos}
theorem de_call0 {k j : Nat} {x : Str} {p : Pos} {F : List D → R D} {s : Sh} (c : Cal X.prog X.w X.K X.mg X.base ad k x 0 s F) (hr : Room j X.A) (hk : k ≤ j) (tk : Tk X ad w) (hg : Gl X x := by rfl) (hdb : (x == ("__debug__" : Str)) = false := by decide) :
    DE X ad w G (.Call (.Name x p) [] [] pos) s (dCall F dNil) := by
  obtain ⟨fa, fd, ps, F1, hm, hkp, hb⟩ := c.ex
  obtain ⟨W, hW, lk⟩ := tk
  have pe : PE X (.Call (.Name x p) [] [] pos) (fun σ H Q => spD X.K ad 0 s F [] H Q fun e u H' => W e u σ H') := ⟨fun pins s0 σ H Q I h => by
    refine wpAny_Call_Name_kw (ld_glob I hg hm ?_ hdb)
    exact PySem.W.callWith_K0 I.kIn hkp (run_fnS F1 (hr.mono hk) hb (passAt hW σ) I .nil h)⟩
  refine ⟨_, pe, fun ex0 ρ σ H ex Q fr q => ?_⟩
  refine ⟨rfl, ex, [], fr.exok, .nil, ?_⟩
  refine Sat.imp (show Sat (F []) (Post X.K ad H ex s Q) (Exc w σ H ex) from q) (fun d q v H2 ex2 fp l2 r nd nw => ?_) fun c q H2 sm => ?_
  · exact q v H2 ex2 fp l2 r nd nw
  · exact lk c σ H2 (q H2 ex ⟨sm, fun _ z => z, fun _ z => .inl z⟩)
end
end DL

set_option Elab.async false
set_option linter.all false
set_option maxRecDepth 100000
set_option maxHeartbeats 4000000
set_option autoImplicit false
/-! DL29: x.extend(a tuple). -/
namespace PySem
open Sem (wp)
open Builtin AutoSeq1
theorem extend_tupleW (l b : Addr) (xs ys : Array Value) (n n2 : Nat) (dd : Option Addr) (sl : Array (Option Value)) (hz : xs.size + ys.size ≤ sizeLine) (hx : ¬ (!xs.isEmpty && Builtin.List.listTooLong (xs.size + ys.size)) = true) :
    Meets (Builtin.«list.extend» ⟨[.ref l, .ref b], []⟩) (fun _ R s => s.heap.get? l = some { cls := .type "list", dict := none, data := .seq xs n, slots := #[] } ∧ s.heap.get? b = some { cls := .type "tuple", dict := dd, data := .seq ys n2, slots := sl } ∧
      R (.ok (.ret Value.none)) { s with heap := s.heap.update l (Obj.mapSeq fun x => x ++ ys), toks := s.toks }) :=
  .of_wp fun prog w A R s h => by
    obtain ⟨hp, g, d, tk, os⟩ := s
    obtain ⟨hl, hb, h⟩ := h
    have g1 := idx_int
    have g2 := sub_tuple_tuple
    have g3 := sub_list_list
    have g4 := sub_tuple_list
    have g5 := sub_list_tuple
    have z1 : xs.size ≤ sizeLine := by omega
    have z2 : (xs ++ ys).size ≤ sizeLine + 1 := by
      rw [Array.size_append]
      omega
    wp_walk using (wpAny_updateSeq hl rfl (hz := z1) (_hz' := z2)), wpAny_loadPart' hl, wpAny_loadPart' hb
    exact ⟨_, rfl, h⟩
end PySem
namespace DL
open PySem PySem.Spec PyProof.Rows L2
section
variable {X : Cx} {ad : Adr}
def rExtT (K : PySem.W.Frag) : V → List V → Hp → VK → Prop := fun x vs H Q => ∃ l b xs zs, x = .ref l ∧ vs = [.ref b] ∧ H l = some (.lst xs) ∧ SqT K H b zs ∧ xs.length + zs.length ≤ sizeLine ∧ Q .non (upd H l (.lst (xs ++ zs)))
theorem mt_extT : MtM X "list.extend" (rExtT X.K) := by
  intro pins s σ H x vs v us Q I rx rv h
  obtain ⟨l, b, xs, zs, rfl, rfl, hH, hB, hz, q⟩ := h
  cases rx
  obtain ⟨u, rfl, ru⟩ := rv.one
  cases ru
  obtain ⟨z, its, n, r, hl, e⟩ := I.lstM hH
  obtain ⟨its2, r2, ⟨⟨cls, dd, data, sl⟩, ho, hc, n2, hd⟩, hl2⟩ := I.tuple hB
  dsimp only at hc hd
  subst hc hd
  have l2 := r2.length
  have hsz : its.toArray.size + its2.toArray.size ≤ sizeLine := by rw [List.size_toArray, List.size_toArray]; omega
  refine call_meets PySem.F.slot_list_extend ⟨_, e, rfl⟩ PySem.F.entry_list_extend (PySem.F.args_list_extend_2 _ _) (PySem.extend_tupleW l b its.toArray its2.toArray n n2 dd sl hsz (by rw [notLongL hsz, Bool.and_false]; exact Bool.false_ne_true)) ⟨e, ho, ?_⟩
  refine ⟨.non, _, I.lset (its' := its ++ its2) hH e (by simp) (r.append r2) ?_, rfl, q⟩
  rw [List.length_append]
  omega
def mExtT (xs ds : List D) : R (List D) := match ds with
  | [.tup es] => if xs.length + es.length ≤ 16777216 then .ok (xs ++ es) else .bad
  | _ => .bad
theorem dmt_extT : DMt X ad "list.extend" mExtT := by
  refine ⟨_, mt_extT, fun a vs us xs ds H ex Q hH hex hz hA hB q => ?_⟩
  unfold mExtT at q
  split at q
  · rename_i es
    obtain ⟨v, rfl, a1⟩ := hB.one
    cases a1 with
    | @tup b ws _ hT hz2 hs =>
      split at q
      · rename_i hl
        rw [hA.length, hs.length] at hl
        refine ⟨a, b, vs, ws, rfl, rfl, hH, seqT cut_same hT, by rw [sizeLine_eq]; exact hl, q _ _ ?_ (hA.append hs)⟩
        rw [List.length_append, sizeLine_eq]
        exact hl
      · exact q.elim
  · exact q.elim
end
end DL

set_option Elab.async false
set_option linter.all false
set_option maxRecDepth 100000
set_option maxHeartbeats 4000000
set_option autoImplicit false
/-! DL30: defs that change the list they are handed first. -/
namespace DL
open PySem PySem.Spec PyProof.Rows L2
/-- what such a def comes to: its answer, and what the list then holds -/
inductive RM where
  | ok (d : D) (ys : List D) | exc (c : Ex) (ys : List D) | bad
def SatM (x : RM) (p : D → List D → Prop) (q : Ex → List D → Prop) : Prop := match x with
  | .ok d ys => p d ys
  | .exc c ys => q c ys
  | .bad => False
@[simp] theorem satM_ok {d : D} {ys : List D} {p : D → List D → Prop} {q : Ex → List D → Prop} : SatM (.ok d ys) p q = p d ys := rfl
@[simp] theorem satM_exc {c : Ex} {ys : List D} {p : D → List D → Prop} {q : Ex → List D → Prop} : SatM (.exc c ys) p q = q c ys := rfl
@[simp] theorem satM_bad {p : D → List D → Prop} {q : Ex → List D → Prop} : SatM .bad p q = False := rfl
theorem SatM.imp {x : RM} {p p' : D → List D → Prop} {q q' : Ex → List D → Prop} (h : SatM x p q) (hp : ∀ d ys, p d ys → p' d ys) (hq : ∀ c ys, q c ys → q' c ys) : SatM x p' q' := by
  cases x with
  | ok d ys => exact hp d ys h
  | exc c ys => exact hq c ys h
  | bad => exact h
/-- the heap without a -/
def hide1 (H : Hp) (a : Addr) : Hp := fun b => if b = a then none else H b
theorem hide1_same {H : Hp} {a : Addr} : Same (hide1 H a) H := fun b o e => by
  unfold hide1 at e
  split at e
  · cases e
  · exact e
theorem hide1_ne {H : Hp} {a b : Addr} (h : b ≠ a) : hide1 H a b = H b := by
  unfold hide1
  rw [if_neg h]
theorem hide1_at {H : Hp} {a : Addr} : hide1 H a a = none := by
  unfold hide1
  rw [if_pos rfl]
/-- all grows, but for what stands at a -/
abbrev LeM (a : Addr) (H : Hp) (ex : Own) (H' : Hp) (ex' : Own) : Prop := Le (hide1 H a) (less ex [a]) H' ex'
theorem leM_start {a : Addr} {H : Hp} {ex : Own} (hx : ex a) {o : HO} (h : H a = some o) : LeM a H ex H ex := by
  refine ⟨hide1_same, fun b z => z.1, fun b z => ?_⟩
  by_cases hb : b = a
  · subst hb
    exact .inr ⟨hide1_at, o, h⟩
  · exact .inl ⟨z, by simpa using hb⟩
theorem leM_mo {a : Addr} {H H' : Hp} {ex ex' : Own} (hx : ex a) (l : LeM a H ex H' ex') : Mo H ex H' ex' := fun b o e => by
  obtain ⟨n, e⟩ := of_cut e
  have hb : b ≠ a := fun z => n (z ▸ hx)
  exact l.cuts b o (cut_of (fun z => n z.1) (by rw [hide1_ne hb]; exact e))
theorem leM_le {a : Addr} {H0 H H' : Hp} {ex0 ex ex' : Own} (l : Le H0 ex0 H ex) (hx : ex a) (n0 : ¬ ex0 a) (lm : LeM a H ex H' ex') (ha : ∃ o, H' a = some o) : Le H0 ex0 H' ex' := by
  have h0 : H0 a = none := (l.new a hx).elim (fun z => absurd z n0) fun z => z.1
  refine ⟨fun b o e => ?_, fun b z => lm.keep b ⟨l.keep b z, ?_⟩, fun b z => ?_⟩
  · have hb : b ≠ a := fun z => by rw [z, h0] at e; cases e
    exact lm.same b o (by rw [hide1_ne hb]; exact l.same b o e)
  · have : b ≠ a := fun q => n0 (q ▸ z)
    simpa using this
  · rcases lm.new b z with z1 | ⟨z1, o, z2⟩
    · have hb : b ≠ a := by simpa using z1.2
      rcases l.new b z1.1 with q | ⟨q, o, q2⟩
      · exact .inl q
      · exact .inr ⟨q, o, lm.same b o (by rw [hide1_ne hb]; exact q2)⟩
    · by_cases hb : b = a
      · subst hb
        exact .inr ⟨h0, ha⟩
      · rw [hide1_ne hb] at z1
        exact .inr ⟨l.same.free z1, o, z2⟩
/-- .. once more -/
theorem LeM.then {a : Addr} {H H1 H2 : Hp} {ex ex1 ex2 : Own} (l : LeM a H ex H1 ex1) (l2 : Le H1 ex1 H2 ex2) : LeM a H ex H2 ex2 := l.trans l2
section
variable {K : PySem.W.Frag} {ad : Adr} {G : Shs} {ex0 ex : Own} {ρ : Env} {σ : L2.St} {H : Hp}
/-- where a list of ours at slot i stands, and what is known when it was changed elsewhere -/
theorem Fra.ownM (f : Fra K ad G ex0 ρ σ H ex) {i : Nat} {d : D} (e : ρ[i]? = some (some d)) (g : ownL (sh G i) = true) (nf : flat d = false := by rfl) :
    ∃ a vs ds, d = .lst ds ∧ σ[i]? = some (some (.ref a)) ∧ ex a ∧ ¬ ex0 a ∧ H a = some (.lst vs) ∧ vs.length ≤ sizeLine ∧ Ats K ad (cut H ex) ds vs ∧
      ∀ H' ex' ds' vs', LeM a H ex H' ex' → ex' a → H' a = some (.lst vs') → vs'.length ≤ sizeLine → Ats K ad (cut H' ex') ds' vs' → Fra K ad G ex0 (ρ.set i (some (.lst ds'))) σ H' ex' := by
  obtain ⟨fps, h1, h2, h3, h4⟩ := f.slots
  obtain ⟨v, e1, r⟩ := h1 i d e
  have key : ∃ a vs ds, d = .lst ds ∧ v = .ref a ∧ fps i = [a] ∧ ex a ∧ H a = some (.lst vs) ∧ vs.length ≤ sizeLine ∧ Ats K ad (cut H ex) ds vs ∧
      ∀ (H' : Hp) (ex' : Own) ds' vs', ex' a → H' a = some (.lst vs') → vs'.length ≤ sizeLine → Ats K ad (cut H' ex') ds' vs' → Rep K ad H' ex' (sh G i) (.lst ds') (.ref a) (fps i) := by
    generalize hs : sh G i = s at r g
    generalize hfp : fps i = fp at r
    cases r with
    | flt z _ => rw [nf] at z; cases z
    | @own s ds a vs fp' hex hH hz hs' =>
      cases s <;> first | cases g | skip
      obtain ⟨e2, hA⟩ := hs'.fzs
      subst e2
      exact ⟨a, vs, ds, rfl, rfl, rfl, hex, hH, hz, hA, fun H' ex' ds' vs' h0 h1 h2 h3 => .own h0 h1 h2 h3.reps⟩
    | @pin ds a vs hex hH hz hA => exact ⟨a, vs, ds, rfl, rfl, rfl, hex, hH, hz, hA, fun H' ex' ds' vs' h0 h1 h2 h3 => .pin h0 h1 h2 h3⟩
    | fz _ => cases g
    | tup _ _ _ => cases g
  obtain ⟨a, vs, ds, rfl, rfl, hfp, hex, hH, hz, hA, mk⟩ := key
  have ha : a ∈ fps i := by rw [hfp]; exact List.mem_cons_self
  refine ⟨a, vs, ds, rfl, e1, hex, (h4 i a ha).2, hH, hz, hA, fun H' ex' ds' vs' lm hx' hH' hz' hA' => ?_⟩
  have m := leM_mo hex lm
  have hi : i < ρ.length := (List.getElem?_eq_some_iff.mp e).1
  have kp : ∀ b, ex b → b ≠ a → ex' b ∧ H' b = H b := fun b z hb => by
    obtain ⟨o, h⟩ := f.exok b z
    refine ⟨lm.keep b ⟨z, by simpa using hb⟩, ?_⟩
    rw [h]
    exact lm.same b o (by rw [hide1_ne hb]; exact h)
  refine ⟨by rw [List.length_set, f.len], fun b z => ?_, fps, fun j d' ej => ?_, h2, h3, fun j b z => ⟨?_, (h4 j b z).2⟩⟩
  · rcases lm.new b z with z1 | ⟨_, z2⟩
    · have hb : b ≠ a := by simpa using z1.2
      obtain ⟨o, h⟩ := f.exok b z1.1
      exact ⟨o, by rw [(kp b z1.1 hb).2]; exact h⟩
    · exact z2
  · by_cases hj : j = i
    · subst hj
      rw [List.getElem?_set_self hi] at ej
      cases ej
      exact ⟨_, e1, mk H' ex' ds' vs' hx' hH' hz' hA'⟩
    · rw [List.getElem?_set_ne (Ne.symm hj)] at ej
      obtain ⟨v', e2, r'⟩ := h1 j d' ej
      refine ⟨v', e2, r'.keep m fun b z => kp b (h4 j b z).1 fun q => ?_⟩
      subst q
      exact h3 j i b hj z ha
  · by_cases hb : b = a
    · subst hb
      exact hx'
    · exact (kp b (h4 j b z).1 hb).1
end
/-- a def that changes its first argument, over data -/
def spM (K : PySem.W.Frag) (ad : Adr) (n : Nat) (rs : Sh) (F : List D → List D → RM) : Sp := fun vs H Q E => vs.length = n + 1 ∧ ∃ (ex : Own) (a : Addr) (us : List V) (xs ds : List D) (ws : List V), vs = .ref a :: ws ∧ (∀ b, ex b → ∃ o, H b = some o) ∧ ex a ∧ H a = some (.lst us) ∧ us.length ≤ sizeLine ∧ Ats K ad (cut H ex) xs us ∧ Ats K ad (cut H ex) ds ws ∧
  SatM (F xs ds) (fun d ys => ∀ v H' ex' fp us', LeM a H ex H' ex' → ex' a → H' a = some (.lst us') → us'.length ≤ sizeLine → Ats K ad (cut H' ex') ys us' → Rep K ad H' ex' rs d v fp → fp.Nodup → (∀ b ∈ fp, ¬ ex b) → Q v H')
    (fun c ys => ∀ H' ex' us', LeM a H ex H' ex' → ex' a → H' a = some (.lst us') → us'.length ≤ sizeLine → Ats K ad (cut H' ex') ys us' → E (.ref (ad c)) none H')
structure CalM (P : Program) (wd : World) (K : PySem.W.Frag) (mg : Str → Option Value) (base : Heap) (ad : Adr) (k : Nat) (x : Str) (n : Nat) (rs : Sh) (F : List D → List D → RM) : Prop where
  ex : ∃ f fd ps, FnOk P wd K mg base (L2.CX P wd) k f fd ps (spM K ad n rs F) ∧ mg x = some (.ref f) ∧ PySem.W.keepIn K (.ref f) = true ∧ Binds K fd ps []
/-- what the first slot holds -/
def cont (ρ : Env) (k : List D → RM) : RM := match ρ[0]? with
  | some (some (D.lst ys)) => k ys
  | _ => .bad
/-- the run of such a def; z: whether it may fall through -/
def runM (m : Nat) (z : Bool) (g : Env → Out) : List D → List D → RM := fun xs ds => match g ((.lst xs :: ds).map some ++ List.replicate m none) with
  | .nx ρ => if z = true then cont ρ (.ok .non) else .bad
  | .rt d ρ => cont ρ (.ok d)
  | .xc c ρ => cont ρ (.exc c)
  | .bad => .bad
theorem satM_cont {ρ : Env} {k : List D → RM} {p : D → List D → Prop} {q : Ex → List D → Prop} (h : SatM (cont ρ k) p q) : ∃ ys, ρ[0]? = some (some (.lst ys)) ∧ SatM (k ys) p q := by
  unfold cont at h
  split at h
  · exact ⟨_, by assumption, h⟩
  · exact h.elim
/-- what stands at the first slot of a frame whose place is known -/
theorem Fra.first {K : PySem.W.Frag} {ad : Adr} {G : Shs} {ex0 ex : Own} {ρ : Env} {σ : L2.St} {H : Hp} {a : Addr} {ys : List D} (f : Fra K ad G ex0 ρ σ H ex) (g : sh G 0 = .pin a) (e : ρ[0]? = some (some (.lst ys))) : ∃ us, ex a ∧ H a = some (.lst us) ∧ us.length ≤ sizeLine ∧ Ats K ad (cut H ex) ys us := by
  obtain ⟨fps, h1, _⟩ := f.slots
  obtain ⟨v, e1, r⟩ := h1 0 _ e
  rw [g] at r
  generalize fps 0 = fp at r
  cases r with
  | @pin _ _ us hex hH hz hA => exact ⟨us, hex, hH, hz, hA⟩
section
variable {P : Program} {wd : World} {K : PySem.W.Frag} {mg : Str → Option Value} {base : Heap} {ad : Adr}
theorem fn_mkM {x : Str} {st : Stmt} {f : Addr} {fd : FuncData} {N ps : List Str} {k n : Nat} (m : Nat) {rs : Sh} (G : Shs) {z : Bool} {g : Env → Out} (F : Fun K x x st f fd) (S : FnScope N ps (defScope st)) (hn : ps.length = n + 1) (hN : N.length = n + 1 + m)
    (hz : z = false ∨ rs = .fz)
    (body : ∀ (a : Addr) (cdv : Value) (A : Around) (outer : List PySem.Env) (s : Shared) (H : Hp) (E : XK), Room k (A.deeper (envOfC x (defScope st) s.heap.objs.size f cdv)) → ∀ w : Wi,
      Tk (cxOf (L2.CX P wd) P wd K mg base N x (defScope st) f cdv A outer s H E) ad w → PassesOwn (model P wd) (A.deeper (envOfC x (defScope st) s.heap.objs.size f cdv)) (envOfC x (defScope st) s.heap.objs.size f cdv) (cxOf (L2.CX P wd) P wd K mg base N x (defScope st) f cdv A outer s H E).xe →
      ∃ G', sh G' 0 = .pin a ∧ SDs (cxOf (L2.CX P wd) P wd K mg base N x (defScope st) f cdv A outer s H E) ad w rs (pinS G 0 a) G' (defBody st) g)
    (hG : ((List.range (n + 1)).all fun i => (G.lookup i).isNone) = true := by rfl) :
    FnOk P wd K mg base (L2.CX P wd) (k + 1) f fd ps (spM K ad n rs (runM m z g)) := by
  refine F.okX S (fun vs H Q E h => h.1.trans hn.symm) (fun cdv A outer s H vs Q E hr h => ?_)
  obtain ⟨hl, ex, a, us, xs, ds, ws, rfl, hex, hxa, hHa, hza, hA, ha, q⟩ := h
  obtain ⟨G', hG1, t, p, kk⟩ := body a cdv A outer s H E hr (wOf ad E) ⟨fun cls d _ H => E cls d H, takes_of rfl rfl rfl rfl, fun c σ H h => h⟩ (passes_of rfl)
  refine ⟨t, p, ?_⟩
  have hl2 : ws.length = n := by simpa using hl
  have hpl : N.length - (V.ref a :: ws).length = m := by rw [hl]; omega
  unfold L2.start
  rw [hpl]
  have shO : ∀ i, i < n + 1 → i ≠ 0 → sh (pinS G 0 a) i = .fz := fun i hi h0 => by
    rw [pinS_out h0]
    have := List.all_eq_true.mp hG i (List.mem_range.mpr hi)
    unfold sh
    cases e2 : G.lookup i with
    | none => rfl
    | some s => rw [e2] at this; cases this
  have fr : Fra K ad (pinS G 0 a) (less ex [a]) ((.lst xs :: ds).map some ++ List.replicate m none) ((V.ref a :: ws).map some ++ List.replicate m none) H ex := by
    refine ⟨by simp [ha.length], hex, fun j => if j = 0 then [a] else [], fun i d e => ?_, fun i => ?_, fun i j b hij hi hj => ?_, fun i b hb => ?_⟩
    · by_cases h0 : i = 0
      · subst h0
        have e : some (some (D.lst xs)) = some (some d) := by simpa using e
        cases e
        refine ⟨.ref a, by simp, ?_⟩
        dsimp only
        rw [pinS_at, if_pos rfl]
        exact .pin hxa hHa hza hA
      · obtain ⟨j, rfl⟩ : ∃ j, i = j + 1 := ⟨i - 1, by omega⟩
        have e : (ds.map some ++ List.replicate m none)[j]? = some (some d) := by simpa using e
        obtain ⟨v, e1, h⟩ := ha.some_get (m' := m) e
        refine ⟨v, by simpa using e1, ?_⟩
        have hj : j < n := by
          by_cases hj : j < ds.length
          · rw [← hl2, ← ha.length]; exact hj
          · rw [List.getElem?_append_right (by simpa using hj), List.getElem?_replicate] at e
            split at e <;> cases e
        dsimp only
        rw [shO (j + 1) (by omega) (by omega), if_neg (by omega)]
        exact .fz h
    · dsimp only
      split
      · simp
      · exact List.nodup_nil
    · dsimp only at hi hj
      split at hi
      · split at hj
        · omega
        · cases hj
      · cases hi
    · dsimp only at hb
      split at hb
      · have hb : b = a := by simpa using hb
        subst hb
        exact ⟨hxa, fun z => z.2 (by simp)⟩
      · cases hb
  refine kk (hide1 H a) (less ex [a]) _ _ H ex _ (leM_start hxa hHa) fr ?_
  unfold runM at q
  cases e : g ((.lst xs :: ds).map some ++ List.replicate m none) with
  | nx ρ1 =>
    rw [e] at q
    intro σ' H' ex' l _ f1
    dsimp only at q
    rcases hz with hz | hr
    · rw [hz, if_neg Bool.false_ne_true] at q
      exact q.elim
    · split at q
      · obtain ⟨ys, e0, q⟩ := satM_cont q
        obtain ⟨us', h1, h2, h3, h4⟩ := f1.first hG1 e0
        subst hr
        exact q .non H' ex' [] us' l h1 h2 h3 h4 (.fz .non) List.nodup_nil fun _ z => by cases z
      · exact q.elim
  | rt d ρ1 =>
    rw [e] at q
    intro v σ' H' ex' fp l _ r nd nw f1 np
    obtain ⟨ys, e0, q⟩ := satM_cont q
    have e0h := hide_of (G := pinS G 0 a) e0 (by rw [pinS_at]; rfl)
    obtain ⟨us', h1, h2, h3, h4⟩ := Fra.first f1 pinS_at e0h
    refine q v H' ex' fp us' l h1 h2 h3 h4 r nd fun b hb hx => ?_
    by_cases hba : b = a
    · subst hba
      exact np 0 b _ e0 pinS_at hb
    · exact nw b hb ⟨hx, by simpa using hba⟩
  | xc c ρ1 =>
    rw [e] at q
    intro σ' H' ex' l _ f1
    obtain ⟨ys, e0, q⟩ := satM_cont q
    have e0h := hide_of (G := pinS G 0 a) e0 (by rw [pinS_at]; rfl)
    obtain ⟨us', h1, h2, h3, h4⟩ := Fra.first f1 pinS_at e0h
    exact q H' ex' us' l h1 h2 h3 h4
  | bad => rw [e] at q; exact q
theorem cal_mkM {x : Str} {st : Stmt} {f : Addr} {fd : FuncData} {N ps : List Str} {k n : Nat} (m : Nat) {rs : Sh} (G : Shs) {z : Bool} {g : Env → Out} (F : Fun K x x st f fd) (hm : mg x = some (.ref f)) (hb : Binds K fd ps []) (S : FnScope N ps (defScope st)) (hn : ps.length = n + 1) (hN : N.length = n + 1 + m)
    (hz : z = false ∨ rs = .fz)
    (body : ∀ (a : Addr) (cdv : Value) (A : Around) (outer : List PySem.Env) (s : Shared) (H : Hp) (E : XK), Room k (A.deeper (envOfC x (defScope st) s.heap.objs.size f cdv)) → ∀ w : Wi,
      Tk (cxOf (L2.CX P wd) P wd K mg base N x (defScope st) f cdv A outer s H E) ad w → PassesOwn (model P wd) (A.deeper (envOfC x (defScope st) s.heap.objs.size f cdv)) (envOfC x (defScope st) s.heap.objs.size f cdv) (cxOf (L2.CX P wd) P wd K mg base N x (defScope st) f cdv A outer s H E).xe →
      ∃ G', sh G' 0 = .pin a ∧ SDs (cxOf (L2.CX P wd) P wd K mg base N x (defScope st) f cdv A outer s H E) ad w rs (pinS G 0 a) G' (defBody st) g)
    (hG : ((List.range (n + 1)).all fun i => (G.lookup i).isNone) = true := by rfl) :
    CalM P wd K mg base ad (k + 1) x n rs (runM m z g) := ⟨f, fd, ps, fn_mkM m G F S hn hN hz body hG, hm, F.kp, hb⟩
end
section
variable {X : Cx} {ad : Adr} {w : Wi} {rs rs2 : Sh} {G G' : Shs} {pos : Pos}
/-- such a call, as an expression -/
theorem pe_callM {k j n : Nat} {x : Str} {p : Pos} {F : List D → List D → RM} {es : List Expr} {f : Env → R (List D)} (c : CalM X.prog X.w X.K X.mg X.base ad k x n rs2 F) (hr : Room j X.A) (hk : k ≤ j) (tk : Tk X ad w) (i : Nat) {y : Str} {py : Pos} (ha : DA X ad w G es f)
    (hN : X.N[i]? = some y) (hgs : ownL (sh G i) = true) (hv : Vis X.env.scope y) (hd : (y == ("__debug__" : Str)) = false) (hcd : (y == ("__classdict__" : Str)) = false) (hg : Gl X x)
    (hdb : (x == ("__debug__" : Str)) = false) (he : starEach (.Name y py :: es) X.env = (false, eval (.Name y py) X.env) :: starEach es X.env) (hpl : (backTo pos (starEach es X.env)).any (·.1) = false) (hn : ∀ ρ ds, f ρ = .ok ds → ds.length = n) :
    ∃ t, PE X (.Call (.Name x p) (.Name y py :: es) [] pos) t ∧ ∀ H0 ex0 ρ σ H ex Q, Le H0 ex0 H ex → Fra X.K ad G ex0 ρ σ H ex → ∀ xs, (dV i ρ).bind isL = .ok xs →
      Sat (f ρ) (fun ds => SatM (F xs ds) (fun d ys => ∀ v H' ex' fp, Le H0 ex0 H' ex' → Mo H ex H' ex' → Fra X.K ad G ex0 (ρ.set i (some (.lst ys))) σ H' ex' → Rep X.K ad H' ex' rs2 d v fp → fp.Nodup → (∀ b ∈ fp, ¬ ex b) → Q v H')
        (fun c ys => ∀ H' ex', Le H0 ex0 H' ex' → Mo H ex H' ex' → Fra X.K ad G ex0 (ρ.set i (some (.lst ys))) σ H' ex' → w c σ H')) (Exc w σ H ex) → t σ H Q := by
  obtain ⟨fa, fd, ps, F1, hm, hkp, hb⟩ := c.ex
  obtain ⟨W, hW, lk⟩ := tk
  obtain ⟨t, pa, ka⟩ := ha
  refine ⟨_, pe_callS F1 (hr.mono hk) hg hm hkp hb (fun σ => passAt hW σ) (pa_cons (pe_var hN hv hd hcd) pa he) hdb he hpl, fun H0 ex0 ρ σ H ex Q l fr xs e1 q => ?_⟩
  have er := slot_own e1
  obtain ⟨a, vs, ds0, ed, eσ, hex, hn0, hH, hz, hA, _⟩ := fr.ownM er hgs
  cases ed
  refine ⟨_, eσ, ka ex0 ρ σ H ex _ fr ?_⟩
  cases e2 : f ρ with
  | exc c => rw [e2] at q; exact q
  | bad => rw [e2] at q; exact q
  | ok ds =>
    rw [e2] at q
    intro ws H1 ex1 l1 a1
    have fr1 := fr.mono l1
    obtain ⟨a', vs', ds0', ed', eσ', hex', hn', hH', hz', hA', wr⟩ := fr1.ownM er hgs
    cases ed'
    rw [eσ] at eσ'
    cases eσ'
    refine ⟨by rw [List.length_cons, ← a1.length, hn ρ ds e2], ex1, a, vs', xs, ds, ws, rfl, fr1.exok, hex', hH', hz', hA', a1, ?_⟩
    refine SatM.imp (show SatM (F xs ds) _ _ from q) (fun d ys q v H' ex' fp us' lm hx' hU hzu hAu r nd nw => ?_) fun c ys q H' ex' us' lm hx' hU hzu hAu => ?_
    · exact q v H' ex' fp (leM_le (l.trans l1) hex' hn' lm ⟨_, hU⟩) (l1.cuts.trans (leM_mo hex' lm)) (wr H' ex' ys us' lm hx' hU hzu hAu) r nd fun b hb z => nw b hb (l1.keep b z)
    · exact lk c σ H' (q H' ex' (leM_le (l.trans l1) hex' hn' lm ⟨_, hU⟩) (l1.cuts.trans (leM_mo hex' lm)) (wr H' ex' ys us' lm hx' hU hzu hAu))
def oCallM (i : Nat) (F : List D → List D → RM) (f : Env → R (List D)) : Env → Out := fun ρ => match (dV i ρ).bind isL with
  | .ok xs => (f ρ).then ρ fun ds => match F xs ds with
    | .ok _ ys => .nx (ρ.set i (some (.lst ys)))
    | .exc c ys => .xc c (ρ.set i (some (.lst ys)))
    | .bad => .bad
  | _ => .bad
/-- f(y, ..) alone -/
theorem sd_callM {k j n : Nat} {x : Str} {p cpos : Pos} {F : List D → List D → RM} {es : List Expr} {f : Env → R (List D)} (c : CalM X.prog X.w X.K X.mg X.base ad k x n rs2 F) (hr : Room j X.A) (hk : k ≤ j) (tk : Tk X ad w) (i : Nat) {y : Str} {py : Pos} (ha : DA X ad w G es f) (hn : ∀ ρ ds, f ρ = .ok ds → ds.length = n)
    (hN : X.N[i]? = some y := by rfl) (hgs : ownL (sh G i) = true := by rfl) (hv : Vis X.env.scope y := by first | exact Or.inl rfl | exact Or.inr (Or.inl rfl) | exact Or.inr (Or.inr rfl)) (hd : (y == ("__debug__" : Str)) = false := by decide) (hcd : (y == ("__classdict__" : Str)) = false := by decide) (hg : Gl X x := by rfl)
    (hdb : (x == ("__debug__" : Str)) = false := by decide) (he : starEach (.Name y py :: es) X.env = (false, eval (.Name y py) X.env) :: starEach es X.env := by rfl) (hpl : (backTo cpos (starEach es X.env)).any (·.1) = false := by rfl)
    (hs : swapsWith (.Call (.Name x p) (.Name y py :: es) [] cpos) none pos.line X.env = pure false := by rfl) :
    SD X ad w rs G (.Expr (.Call (.Name x p) (.Name y py :: es) [] cpos) pos) (oCallM i F f) := by
  obtain ⟨t, pt, kt⟩ := pe_callM c hr hk tk i ha hN hgs hv hd hcd hg hdb he hpl hn
  refine ⟨_, ps_expr pt hs, fun H0 ex0 ρ σ H ex De l fr q => ?_⟩
  unfold oCallM at q
  cases e1 : (dV i ρ).bind isL with
  | exc c => rw [e1] at q; exact q.elim
  | bad => rw [e1] at q; exact q.elim
  | ok xs =>
  rw [e1] at q
  refine kt H0 ex0 ρ σ H ex _ l fr xs e1 (sat_then l fr q fun ds q => ?_)
  cases e2 : F xs ds with
  | ok d ys =>
    rw [e2] at q
    exact fun v H' ex' fp l' m' f' r nd nw => q σ H' ex' l' m' f'
  | exc c ys =>
    rw [e2] at q
    exact fun H' ex' l' m' f' => q σ H' ex' l' m' f'.frz
  | bad => rw [e2] at q; exact q
def oAsgM (h : D → Env → R Env) (i : Nat) (F : List D → List D → RM) (f : Env → R (List D)) : Env → Out := fun ρ => match (dV i ρ).bind isL with
  | .ok xs => (f ρ).then ρ fun ds => match F xs ds with
    | .ok d ys => outOf (h d (ρ.set i (some (.lst ys))))
    | .exc c ys => .xc c (ρ.set i (some (.lst ys)))
    | .bad => .bad
  | _ => .bad
/-- target = f(y, ..) -/
theorem sd_asgM {k j n : Nat} {x : Str} {p cpos : Pos} {tg : Expr} {vs : List Nat} {h : D → Env → R Env} {F : List D → List D → RM} {es : List Expr} {f : Env → R (List D)} (c : CalM X.prog X.w X.K X.mg X.base ad k x n .fz F) (hr : Room j X.A) (hk : k ≤ j) (tk : Tk X ad w) (i : Nat) {y : Str} {py : Pos} (ha : DA X ad w G es f) (hn : ∀ ρ ds, f ρ = .ok ds → ds.length = n) (ht : DG X ad G tg vs h)
    (hN : X.N[i]? = some y := by rfl) (hgs : ownL (sh G i) = true := by rfl) (hv : Vis X.env.scope y := by first | exact Or.inl rfl | exact Or.inr (Or.inl rfl) | exact Or.inr (Or.inr rfl)) (hd : (y == ("__debug__" : Str)) = false := by decide) (hcd : (y == ("__classdict__" : Str)) = false := by decide) (hg : Gl X x := by rfl)
    (hdb : (x == ("__debug__" : Str)) = false := by decide) (he : starEach (.Name y py :: es) X.env = (false, eval (.Name y py) X.env) :: starEach es X.env := by rfl) (hpl : (backTo cpos (starEach es X.env)).any (·.1) = false := by rfl)
    (hs : swapsWithSole [tg] (.Call (.Name x p) (.Name y py :: es) [] cpos) pos.line X.env = pure false := by rfl) (hw : swappedStores [tg] (.Call (.Name x p) (.Name y py :: es) [] cpos) X.env = pure none := by rfl)
    (h1 : (assignEach [tg] X.env).map (·.2) = [assign tg X.env] := by rfl) :
    SD X ad w rs G (.Assign [tg] (.Call (.Name x p) (.Name y py :: es) [] cpos) pos) (oAsgM h i F f) := by
  obtain ⟨t, pt, kt⟩ := pe_callM c hr hk tk i ha hN hgs hv hd hcd hg hdb he hpl hn
  obtain ⟨g, pg, kg⟩ := ht
  refine ⟨_, ps_asg pt pg hs hw h1, fun H0 ex0 ρ σ H ex De l fr q => ?_⟩
  unfold oAsgM at q
  cases e1 : (dV i ρ).bind isL with
  | exc c => rw [e1] at q; exact q.elim
  | bad => rw [e1] at q; exact q.elim
  | ok xs =>
  rw [e1] at q
  refine kt H0 ex0 ρ σ H ex _ l fr xs e1 (sat_then l fr q fun ds q => ?_)
  cases e2 : F xs ds with
  | ok d ys =>
    rw [e2] at q
    intro v H' ex' fp l' m' f' r nd nw
    refine kg ex0 _ σ H' ex' d v _ f' (rep_fz r) ?_
    dsimp only at q
    cases e : h d (ρ.set i (some (.lst ys))) with
    | ok ρ' => rw [e] at q; exact fun σ' f2 _ => q σ' H' ex' l' m' f2
    | exc c => rw [e] at q; exact q
    | bad => rw [e] at q; exact q
  | exc c ys =>
    rw [e2] at q
    exact fun H' ex' l' m' f' => q σ H' ex' l' m' f'.frz
  | bad => rw [e2] at q; exact q
end
end DL

set_option Elab.async false
set_option linter.all false
set_option maxRecDepth 100000
set_option maxHeartbeats 4000000
set_option autoImplicit false
/-! DL31: lists of lists of one's own made by comprehensions, read and changed at any place. -/
namespace DL
open PySem PySem.Spec PyProof.Rows L2
theorem Reps.snoc {K : PySem.W.Frag} {ad : Adr} {H : Hp} {ex : Own} {s : Sh} {d : D} {v : V} {fp : List Addr} (r : Rep K ad H ex s d v fp) : ∀ {n : Nat} {ds : List D} {vs : List V} {fa : List Addr}, Reps K ad H ex (List.replicate n s) ds vs fa → Reps K ad H ex (List.replicate (n + 1) s) (ds ++ [d]) (vs ++ [v]) (fa ++ (fp ++ []))
  | 0, _, _, _, h => by
    cases h
    exact Reps.cons (f := fp) (fs := []) r .nil
  | n + 1, _, _, _, h => by
    rw [List.replicate_succ] at h
    cases h with
    | cons h hs =>
      rw [List.replicate_succ, List.append_assoc]
      exact .cons h (Reps.snoc r hs)
section
variable {X : Cx} {ad : Adr} {w : Wi} {rs : Sh} {G G' : Shs} {pos : Pos} {tg : Expr}
/-- what a comprehension's run comes to -/
theorem lc_runS {s : Sh} {wi : TI} {vs own : List Nat} {fi : Env → R (List D)} {h : D → Env → R Env} {tst : Env → R Bool} {fe : Env → R D} {ex0 : L2.St → Prop} (hv : ∀ i ∈ vs, i ∈ own)
    (ki : ∀ ex0 ρ σ H ex Rr, Fra X.K ad G ex0 ρ σ H ex → Sat (fi ρ) (fun ds => ∀ J H1 ex1 n Gd Y, Le H ex H1 ex1 → n = ds.length → n ≤ sizeLine → Walk J n Gd Y → (∀ H' ex', Mo H1 ex1 H' ex' ∧ Same H1 H' → Gd H') →
      (∀ i H' ex' x H'', i < n → Mo H1 ex1 H' ex' ∧ Same H1 H' → (∀ b, ex' b → ∃ o, H' b = some o) → Y i H' x H'' → ∃ d, ds[i]? = some d ∧ Le H' ex' H'' ex' ∧ At X.K ad (cut H'' ex') d x) → Rr J H1) (Exc w σ H ex) → wi σ H Rr) :
    ∀ ex0 ρ σ H ex Q, Fra X.K ad G ex0 ρ σ H ex → Sat (dLc own fi h tst fe ρ) (Post X.K ad H ex (.own s) Q) (Exc w σ H ex) → tLc wi (cG X.K ad G vs h) (cT X.K ad G tst) (cE X.K ad G s fe) own σ H Q := by
  intro ex0 ρ σ H ex Q fr q
  refine ki ex0 ρ σ H ex _ fr ?_
  unfold dLc at q
  rw [sat_bind] at q
  refine q.imp (fun ds q => ?_) fun _ z => z
  intro J H1 ex1 n Gd Y l1 hn hz wk hG hY Dl hD
  subst hn
  cases hes : lcF own h tst fe ρ ds with
  | exc c => rw [hes] at q; exact q.elim
  | bad => rw [hes] at q; exact q.elim
  | ok es =>
  rw [hes] at q
  have q : Post X.K ad H ex (.own s) Q (.lst es) := q
  have fr1 := fr.mono l1
  have nD : ¬ ex1 Dl := fun z => by
    obtain ⟨o, e⟩ := fr1.exok Dl z
    rw [hD] at e
    cases e
  have back : ∀ {H' : Hp} {ex' : Own}, Le (upd H1 Dl (.lst [])) (plus ex1 Dl) (upd H' Dl (.lst [])) ex' → Same H1 H' := fun {H' ex'} l' b o e => by
    have hb : b ≠ Dl := fun z => by rw [z, hD] at e; cases e
    have e2 := l'.same b o (by rw [upd_ne hb]; exact e)
    rw [upd_ne hb] at e2
    exact e2
  have len_le : ∀ (ds : List D) es, lcF own h tst fe ρ ds = .ok es → es.length ≤ ds.length := by
    intro ds
    induction ds with
    | nil => intro es e; cases e; exact Nat.le_refl _
    | cons d ds ih =>
      intro es e
      unfold lcF at e
      split at e
      · split at e
        · split at e
          · split at e
            · split at e
              · cases e
                rename_i es' e'
                have := ih es' e'
                simp only [List.length_cons]
                omega
              · cases e
            · cases e
          · split at e
            · cases e
              rename_i es' e'
              have := ih _ e'
              simp only [List.length_cons]
              omega
            · cases e
        · cases e
      · cases e
  refine lc_it wk (fun i H' => ∃ (ex' : Own) (done : List D) (rest : List D) (acc : List V) (fa : List Addr), Le (upd H1 Dl (.lst [])) (plus ex1 Dl) (upd H' Dl (.lst [])) ex' ∧ ex' Dl ∧ H' Dl = some (.lst acc) ∧ Reps X.K ad H' ex' (List.replicate done.length s) done acc fa ∧ fa.Nodup ∧ (∀ a ∈ fa, a ≠ Dl ∧ ¬ ex1 a) ∧
      done.length ≤ i ∧ lcF own h tst fe ρ (ds.drop i) = .ok rest ∧ es = done ++ rest) ?_ ?_ ?_ ?_
  · refine ⟨plus ex1 Dl, [], es, [], [], ?_, .inr rfl, upd_same, .nil, List.nodup_nil, fun _ z => (by cases z), Nat.le_refl _, hes, rfl⟩
    rw [upd_upd]
    exact Le.refl _ _
  · rintro i H' _ ⟨ex', done, rest, acc, fa, l', exD, hDl, ha, hfa, hfn, _, _, _⟩
    have m : Mo H1 ex1 H' ex' := by
      have m1 : Mo H1 ex1 (upd H1 Dl (.lst [])) (plus ex1 Dl) := (Le.own hD).cuts
      have m2 := l'.cuts
      intro b o hb
      have z := m2 b o (m1 b o hb)
      obtain ⟨n1, e1⟩ := of_cut z
      have : b ≠ Dl := fun e => n1 (e ▸ exD)
      rw [upd_ne this] at e1
      exact cut_of n1 e1
    exact hG H' ex' ⟨m, back l'⟩
  · rintro i x H' H'' hi ⟨ex', done, rest, acc, fa, l', exD, hDl, ha, hfa, hfn, hdl, hrest, hsum⟩ y
    have hlen' : done.length = acc.length := (Reps.at (G := H') cut_same ha fun _ _ => rfl).length
    have m : Mo H1 ex1 H' ex' := by
      have m1 : Mo H1 ex1 (upd H1 Dl (.lst [])) (plus ex1 Dl) := (Le.own hD).cuts
      intro b o hb
      have z := l'.cuts b o (m1 b o hb)
      obtain ⟨n1, e1⟩ := of_cut z
      have : b ≠ Dl := fun e => n1 (e ▸ exD)
      rw [upd_ne this] at e1
      exact cut_of n1 e1
    have lH : Le (upd H1 Dl (.lst [])) (plus ex1 Dl) (upd H' Dl (.lst [])) ex' := l'
    have keep1 : ∀ a, ex1 a → ex' a := fun a z => l'.keep a (.inl z)
    have frH : Fra X.K ad G ex0 ρ σ H' ex' := by
      -- from H1 to H': the new list at Dl is owned, all else grows
      obtain ⟨fps, f1, f2, f3, f4⟩ := fr1.slots
      have bk : ∀ b, b ≠ Dl → ∀ o, (upd H' Dl (.lst [])) b = some o → H' b = some o := fun b hb o e => by rw [upd_ne hb] at e; exact e
      refine ⟨fr.len, fun b z => ?_, fps, fun j d e => ?_, f2, f3, fun j a z => ?_⟩
      · by_cases hb : b = Dl
        · subst hb
          exact ⟨_, hDl⟩
        · rcases l'.new b z with z1 | ⟨_, o, e⟩
          · rcases z1 with z1 | z1
            · obtain ⟨o, e⟩ := fr1.exok b z1
              have e2 := l'.same b o (by rw [upd_ne hb]; exact e)
              exact ⟨o, bk b hb o e2⟩
            · exact absurd z1 hb
          · exact ⟨o, bk b hb o e⟩
      · obtain ⟨v, e1, r⟩ := f1 j d e
        refine ⟨v, e1, r.keep m fun a z => ?_⟩
        obtain ⟨z1, o, z2⟩ := r.in a z
        have hb : a ≠ Dl := fun e => nD (e ▸ z1)
        exact ⟨l'.keep a (.inl z1), (bk a hb o (l'.same a o (by rw [upd_ne hb]; exact z2))).trans z2.symm⟩
      · exact ⟨l'.keep a (.inl (f4 j a z).1), (f4 j a z).2⟩
    obtain ⟨d, hd, l2, a⟩ := hY i H' ex' x H'' hi ⟨m, back l'⟩ frH.exok y
    have e : ds.drop i = d :: ds.drop (i + 1) := by
      rw [List.drop_eq_getElem_cons hi]
      rw [List.getElem?_eq_getElem hi] at hd
      cases hd
      rfl
    rw [e] at hrest
    unfold lcF at hrest
    have frW := (frH.mono l2).wipe own
    refine ⟨ex0, _, ex', d, frW, a, ?_⟩
    -- steps on from a state (H3, ex3) behind the turn's work
    have on : ∀ {Ha Hb : Hp} {exa exb : Own}, Le Ha exa Hb exb → Ha Dl = some (.lst acc) → exa Dl → Hb Dl = some (.lst acc) ∧ exb Dl := fun {Ha Hb exa exb} l hA xA => ⟨l.same _ _ hA, l.keep _ xA⟩
    have lay : ∀ {Hb : Hp} {exb : Own}, Le H' ex' Hb exb → Le (upd H1 Dl (.lst [])) (plus ex1 Dl) (upd Hb Dl (.lst [])) exb := fun {Hb exb} l => by
      refine l'.trans ⟨fun b o e => ?_, l.keep, fun b z => ?_⟩
      · by_cases hb : b = Dl
        · subst hb
          rw [upd_same] at e ⊢
          exact e
        · rw [upd_ne hb] at e ⊢
          exact l.same b o e
      · rcases l.new b z with z1 | ⟨z1, o, z2⟩
        · exact .inl z1
        · have hb : b ≠ Dl := fun e => by rw [e, hDl] at z1; cases z1
          exact .inr ⟨by rw [upd_ne hb]; exact z1, o, by rw [upd_ne hb]; exact z2⟩
    cases hh : h d (wipeR ρ own) with
    | exc c => rw [hh] at hrest; cases hrest
    | bad => rw [hh] at hrest; cases hrest
    | ok ρ1 =>
    rw [hh] at hrest
    dsimp only at hrest
    intro σ1 fr1' w1
    refine ⟨(w1 own hv).trans wipe_idem, ex0, ρ1, ex', fr1', ?_⟩
    cases ht : tst ρ1 with
    | exc c => rw [ht] at hrest; cases hrest
    | bad => rw [ht] at hrest; cases hrest
    | ok b =>
    rw [ht] at hrest
    dsimp only at hrest
    intro H3 ex3 l3
    cases b with
    | false =>
      rw [if_neg Bool.false_ne_true] at hrest ⊢
      have lt := l2.trans l3
      have k := on lt hDl exD
      refine ⟨ex3, done, rest, acc, fa, lay lt, k.2, k.1, ha.mono lt, hfa, hfn, by omega, ?_, hsum⟩
      split at hrest
      · rename_i es' e'
        cases hrest
        exact e'
      · cases hrest
    | true =>
      rw [if_pos rfl] at hrest ⊢
      refine ⟨ex0, ρ1, ex3, fr1'.mono l3, ?_⟩
      cases hf : fe ρ1 with
      | exc c => rw [hf] at hrest; cases hrest
      | bad => rw [hf] at hrest; cases hrest
      | ok e1 =>
      rw [hf] at hrest
      dsimp only at hrest
      intro v H4 ex4 fp l4 r4 nd4 nw4
      have lt := (l2.trans l3).trans l4
      have k := on lt hDl exD
      split at hrest
      · rename_i es' e'
        cases hrest
        have hlen : acc.length < sizeLine := by omega
        have h4D : ∀ a ∈ fp, a ≠ Dl := fun a hz z => nw4 a hz (z ▸ (on (l2.trans l3) hDl exD).2)
        have h4f : ∀ a ∈ fp, a ∉ fa := fun a hz z => nw4 a hz ((l2.trans l3).keep a (ha.in a z).1)
        refine ⟨acc, k.1, hlen, ex4, done ++ [e1], es', acc ++ [v], fa ++ (fp ++ []), ?_, k.2, upd_same, ?_, ?_, ?_, by rw [List.length_append, List.length_singleton]; omega, e', by rw [hsum, List.append_assoc]; rfl⟩
        · rw [upd_upd]
          exact lay lt
        · have mm : Same (cut H4 ex4) (cut (upd H4 Dl (.lst (acc ++ [v]))) ex4) := fun b o e => by
            obtain ⟨n1, e1⟩ := of_cut e
            have hb : b ≠ Dl := fun z => n1 (z ▸ k.2)
            exact cut_of n1 (by rw [upd_ne hb]; exact e1)
          have ra := ha.mono lt
          rw [List.length_append, List.length_singleton]
          exact Reps.snoc (r4.keep mm fun b z => ⟨(r4.in b z).1, upd_ne (h4D b z)⟩) (ra.keep mm fun b z => ⟨(ra.in b z).1, upd_ne (hfn b z).1⟩)
        · rw [List.append_nil]
          exact List.nodup_append.mpr ⟨hfa, nd4, fun a ha b hb hab => h4f b hb (hab ▸ ha)⟩
        · intro a hz
          rw [List.append_nil] at hz
          rcases List.mem_append.mp hz with hz | hz
          · exact hfn a hz
          · exact ⟨h4D a hz, fun z => nw4 a hz ((l2.trans l3).keep a (keep1 a z))⟩
      · cases hrest
  · rintro H' ⟨ex', done, rest, acc, fa, l', exD, hDl, ha, hfa, hfn, hdl, hrest, hsum⟩
    rw [List.drop_length] at hrest
    cases hrest
    rw [List.append_nil] at hsum
    subst hsum
    have hlen' : es.length = acc.length := (Reps.at (G := H') cut_same ha fun _ _ => rfl).length
    have hza : acc.length ≤ sizeLine := by omega
    have n1 : ∀ b o, H1 b = some o → b ≠ Dl := fun b o e z => by rw [z, hD] at e; cases e
    refine q (.ref Dl) H' ex' (Dl :: fa) ⟨fun b o e => ?_, fun b z => l'.keep b (.inl (l1.keep b z)), fun b z => ?_⟩ (.own exD hDl hza ha) (List.nodup_cons.mpr ⟨fun z => (hfn Dl z).1 rfl, hfa⟩) fun a z => ?_
    · have e1 := l1.same b o e
      have hb := n1 b o e1
      have e2 := l'.same b o (by rw [upd_ne hb]; exact e1)
      rw [upd_ne hb] at e2
      exact e2
    · by_cases hb : b = Dl
      · subst hb
        exact .inr ⟨l1.same.free hD, _, hDl⟩
      · rcases l'.new b z with (z1 | z1) | ⟨z1, o, z2⟩
        · rcases l1.new b z1 with z3 | ⟨z3, o, z4⟩
          · exact .inl z3
          · have e2 := l'.same b o (by rw [upd_ne hb]; exact z4)
            rw [upd_ne hb] at e2
            exact .inr ⟨z3, o, e2⟩
        · exact absurd z1 hb
        · rw [upd_ne hb] at z1 z2
          exact .inr ⟨l1.same.free z1, o, z2⟩
    · rcases List.mem_cons.mp z with rfl | z
      · exact fun x => nD (l1.keep _ x)
      · exact fun x => (hfn a z).2 (l1.keep _ x)
/-- a comprehension -/
theorem de_lcS {s : Sh} {elt iter : Expr} {ifs : List Expr} {scope : Scope} (own : List (Str × Nat)) {vs : List Nat} {fi : Env → R (List D)} {h : D → Env → R Env} {tst : Env → R Bool} {fe : Env → R D} (hc : X.calm = true) (hN : X.N.Nodup) (ok : blkC X.N X.env.scope scope own = true)
    (hi : DJ X ad w G tg iter fi) (hg : InBlk X scope fun Y => DG Y ad G tg vs h) (ht : InBlk X scope fun Y => DTs Y ad w0 G ifs tst) (he : InBlk X scope fun Y => DE Y ad w0 G elt s fe) (hv : ∀ i ∈ vs, i ∈ own.map (·.2) := by decide) (hs : ∀ x, foldedSetIterable iter X.env x = pure x := by intro _; rfl) :
    DE X ad w G (.ListComp elt [⟨tg, iter, ifs, 0⟩] scope pos) (.own s) (dLc (own.map (·.2)) fi h tst fe) := by
  obtain ⟨wi, pi, ki⟩ := hi
  refine ⟨_, pe_lc (own := own) (g := cG X.K ad G vs h) (tt := cT X.K ad G tst) (te := cE X.K ad G s fe) hc hN pi (blkOk_by ok) (fun s H C cl fp => ?_) (fun s H C cl fp => ?_) (fun s H C cl fp => ?_) hs, lc_runS (ex0 := fun _ => True) hv ki⟩
  · obtain ⟨t, p, k⟩ := hg s H C cl fp
    exact pg_up p fun v σ H Q ⟨ex0, ρ, ex, d, f, a, q⟩ => k ex0 ρ σ H ex d v Q f a q
  · obtain ⟨t, p, k⟩ := ht s H C cl fp
    exact pts_up p fun σ H Q ⟨ex0, ρ, ex, f, q⟩ => k ex0 ρ σ H ex Q f (sat_f q)
  · obtain ⟨t, p, k⟩ := he s H C cl fp
    exact pe_up p fun σ H Q ⟨ex0, ρ, ex, f, q⟩ => k ex0 ρ σ H ex Q f (sat_f q)
/-- y = a comprehension, on one line -/
theorem sd_setLcS {s : Sh} (i : Nat) {y : Str} {py : Pos} {spos : Pos} {elt iter : Expr} {ifs : List Expr} {scope : Scope} (own : List (Str × Nat)) {vs : List Nat} {fi : Env → R (List D)} {h : D → Env → R Env} {tst : Env → R Bool} {fe : Env → R D} (hc : X.calm = true) (hN : X.N.Nodup) (ok : blkC X.N X.env.scope scope own = true)
    (hi : DJ X ad w G tg iter fi) (hg : InBlk X scope fun Y => DG Y ad G tg vs h) (ht : InBlk X scope fun Y => DTs Y ad w0 G ifs tst) (he : InBlk X scope fun Y => DE Y ad w0 G elt s fe) (hsw : swapsWith (.ListComp elt [⟨tg, iter, ifs, 0⟩] scope pos) (some (.Name y py)) spos.line X.env = pure true)
    (hy : X.N[i]? = some y := by rfl) (hyl : X.env.scope.names.lookup y = some .local := by rfl) (hsh : sh G i = .own s := by rfl) (hv : ∀ i ∈ vs, i ∈ own.map (·.2) := by decide) (hs : ∀ x, foldedSetIterable iter X.env x = pure x := by intro _; rfl) :
    SD X ad w rs G (.Assign [.Name y py] (.ListComp elt [⟨tg, iter, ifs, 0⟩] scope pos) spos) (oSet i (dLc (own.map (·.2)) fi h tst fe)) := by
  obtain ⟨wi, pi, ki⟩ := hi
  refine ⟨_, ps_setLc (own := own) (g := cG X.K ad G vs h) (tt := cT X.K ad G tst) (te := cE X.K ad G s fe) hc hN hy hyl hsw pi (blkOk_by ok) (fun s H C cl fp => ?_) (fun s H C cl fp => ?_) (fun s H C cl fp => ?_) hs, fun H0 ex0 ρ σ H ex De l f q => ?_⟩
  · obtain ⟨t, p, k⟩ := hg s H C cl fp
    exact pg_up p fun v σ H Q ⟨ex0, ρ, ex, d, f, a, q⟩ => k ex0 ρ σ H ex d v Q f a q
  · obtain ⟨t, p, k⟩ := ht s H C cl fp
    exact pts_up p fun σ H Q ⟨ex0, ρ, ex, f, q⟩ => k ex0 ρ σ H ex Q f (sat_f q)
  · obtain ⟨t, p, k⟩ := he s H C cl fp
    exact pe_up p fun σ H Q ⟨ex0, ρ, ex, f, q⟩ => k ex0 ρ σ H ex Q f (sat_f q)
  · refine lc_runS (ex0 := fun _ => True) hv ki ex0 ρ σ H ex _ f (sat_then l f q fun d q => ?_)
    intro v H' ex' fp l' r nd nw
    exact q (σ.set i (some v)) H' ex' (l.trans l') l'.cuts (f.setN l' (by rw [hsh]; exact r) nd nw fun a z zz => nw a z (l.keep a zz))

/-- x[k], x a list of lists of one's own, walked -/
def kIxE (i : Nat) (fk : Env → R D) : Env → R (List D) := fun ρ => (dV i ρ).bind fun d => match d with
  | .lst ds => (fk ρ).bind fun k => match k with
    | .int z => if 0 ≤ z ∧ z < ds.length then (match ds[z.toNat]? with
      | some (.lst xs) => .ok xs
      | _ => .bad) else .bad
    | _ => .bad
  | _ => .bad
theorem dj_ixN {ke : Expr} (i : Nat) {x : Str} {p1 : Pos} {fk : Env → R D} (hk : DE X ad w G ke .fz fk) (hs : PlainIx ke := by exact fun _ _ => rfl) (hN : X.N[i]? = some x := by rfl) (hg : sh G i = nest := by rfl) (hv : Vis X.env.scope x := by first | exact Or.inl rfl | exact Or.inr (Or.inl rfl) | exact Or.inr (Or.inr rfl)) (hd : (x == ("__debug__" : Str)) = false := by decide)
    (hcd : (x == ("__classdict__" : Str)) = false := by decide) : DJ X ad w G tg (.Subscript (.Name x p1) ke pos) (kIxE i fk) := by
  obtain ⟨t, pk, kk⟩ := hk
  refine ⟨_, pi_list (pe_ix ix_seq (pe_var hN hv hd hcd) pk hs), fun ex0 ρ σ H ex Rr fr q => ?_⟩
  unfold kIxE at q
  cases e1 : dV i ρ with
  | exc c => rw [e1] at q; exact absurd e1 (by unfold dV; split <;> exact fun z => by cases z)
  | bad => rw [e1] at q; exact q.elim
  | ok d =>
  rw [e1] at q
  have er := dV_some e1
  cases d <;> first | exact q.elim | skip
  rename_i ds
  obtain ⟨v, eσ⟩ : ∃ v, σ[i]? = some (some v) := by
    obtain ⟨fps, h1, _⟩ := fr.slots
    obtain ⟨v, e, _⟩ := h1 i _ er
    exact ⟨v, e⟩
  refine ⟨v, eσ, kk ex0 ρ σ H ex _ fr ?_⟩
  dsimp only [R.bind_ok] at q
  rw [sat_bind] at q
  refine q.imp (fun kd q u H1 ex1 fp l1 r1 _ _ => ?_) fun _ z => z
  have a1 := rep_fz r1
  cases a1 <;> first | exact q.elim | skip
  rename_i z
  dsimp only at q
  split at q
  · rename_i hz
    split at q
    · rename_i xs ek
      obtain ⟨p, vs, a, us, eσ', hP, ev, hex, hn, hH, hzu, hA, _⟩ := (fr.mono l1).ownN er hg ek
      rw [eσ] at eσ'
      cases eσ'
      refine .inl ⟨p, vs, z, .ref a, rfl, rfl, SqL.of hP, ?_, ?_⟩
      · have := atI_nat ev
        rw [Int.toNat_of_nonneg hz.1] at this
        exact this
      refine ⟨a, rfl, ⟨us, SqL.of hH⟩, q (Itl X.K a) H1 ex1 us.length _ _ l1 hA.length.symm hzu walk_list (fun H' ex' m => m.2.seq (SqL.of hH)) fun i H' ex' x H'' hi m _ y => ?_⟩
      obtain ⟨e1, e2⟩ := y
      subst e1
      obtain ⟨d, hd, ha⟩ := hA.getV e2
      exact ⟨d, hd, Le.refl _ _, ha.mono m.1⟩
    · exact q.elim
  · exact q.elim
/-- x[k].m(..), x a list of lists of one's own at slot i, k any number -/
def oMutNX (i : Nat) (fk : Env → R D) (o : List D → List D → R (List D)) (f : Env → R (List D)) : Env → Out := fun ρ => match dV i ρ with
  | .ok (.lst ds) => (fk ρ).then ρ fun k => (match k with
    | .int z => if 0 ≤ z ∧ z < ds.length then (match ds[z.toNat]? with
      | some (.lst xs) => (f ρ).then ρ fun es => (match o xs es with
        | .ok ys => .nx (ρ.set i (some (.lst (ds.set z.toNat (.lst ys)))))
        | _ => .bad)
      | _ => .bad) else .bad
    | _ => .bad)
  | _ => .bad
theorem sd_mutNX (i : Nat) {ke : Expr} {x : Str} {p1 p3 apos cpos : Pos} {name : Str} {id : String} {e : Expr} {es : List Expr} {fk : Env → R D} {f : Env → R (List D)} {o : List D → List D → R (List D)} (hm : DMt X ad id o) (slot : Slot "list" name id) (hty : typeOf (.builtin id) = pure (.type "method_descriptor")) (hk : DE X ad w G ke .fz fk) (ha : DA X ad w G (e :: es) f)
    (hs0 : PlainIx ke := by exact fun _ _ => rfl) (hN : X.N[i]? = some x := by rfl) (hg : sh G i = nest := by rfl) (hv : Vis X.env.scope x := by first | exact Or.inl rfl | exact Or.inr (Or.inl rfl) | exact Or.inr (Or.inr rfl)) (hd : (x == ("__debug__" : Str)) = false := by decide) (hcd : (x == ("__classdict__" : Str)) = false := by decide)
    (hbase : attributeBase (.Subscript (.Name x p1) ke p3) name X.env (eval (.Subscript (.Name x p1) ke p3) X.env) = eval (.Subscript (.Name x p1) ke p3) X.env := by rfl)
    (hfew : ((backTo cpos (starEach (e :: es) X.env)).all (fun x => !x.1) && (backToKw cpos (keywordEach [] X.env)).all (fun x => x.1.isSome)
      && decide ((e :: es).length + ([] : List Keyword).length + (if ([] : List Keyword).isEmpty then 0 else 1) < 30)) = true := by rfl)
    (hline : (apos.endLine == cpos.line) = true := by rfl) (hs : starEach (e :: es) X.env = (false, eval e X.env) :: starEach es X.env := by rfl) (hplain : (backTo cpos (starEach es X.env)).any (·.1) = false := by rfl)
    (hsw : swapsWith (.Call (.Attribute (.Subscript (.Name x p1) ke p3) name apos) (e :: es) [] cpos) none pos.line X.env = pure false := by rfl) :
    SD X ad w rs G (.Expr (.Call (.Attribute (.Subscript (.Name x p1) ke p3) name apos) (e :: es) [] cpos) pos) (oMutNX i fk o f) := by
  obtain ⟨r, mr, kr⟩ := hm
  obtain ⟨tk, pk, kk⟩ := hk
  obtain ⟨t, pa, ka⟩ := ha
  refine ⟨_, ps_expr (pe_bm PySem.F.plainAttrs_list slot hty mr (pe_ix ix_seq (pe_var hN hv hd hcd) pk hs0) pa hbase hfew hline hs hplain) hsw, fun H0 ex0 ρ σ H ex De l f q => ?_⟩
  unfold oMutNX at q
  cases e1 : dV i ρ with
  | exc c => rw [e1] at q; exact q.elim
  | bad => rw [e1] at q; exact q.elim
  | ok d =>
  rw [e1] at q
  have er := dV_some e1
  cases d <;> first | exact q.elim | skip
  rename_i ds
  dsimp only at q
  obtain ⟨v, eσ⟩ : ∃ v, σ[i]? = some (some v) := by
    obtain ⟨fps, h1, _⟩ := f.slots
    obtain ⟨v, e, _⟩ := h1 i _ er
    exact ⟨v, e⟩
  refine ⟨v, eσ, kk ex0 ρ σ H ex _ f (sat_then l f q fun kd q => ?_)⟩
  intro u H1 ex1 fp l1 r1 _ _
  have a1 := rep_fz r1
  cases a1 <;> first | exact q.elim | skip
  rename_i z
  dsimp only at q
  split at q
  · rename_i hz
    split at q
    · rename_i xs ek
      have f1 := f.mono l1
      have lt1 := l.trans l1
      have q := q.from l1.cuts
      obtain ⟨p, vs, a, us, eσ', hP, ev, hex, hn, hH, hzu, hA, wr⟩ := f1.ownN er hg ek
      rw [eσ] at eσ'
      cases eσ'
      refine .inl ⟨p, vs, z, .ref a, rfl, rfl, SqL.of hP, ?_, .inl ⟨rfl, _, SqL.of hH⟩, ?_⟩
      · have := atI_nat ev
        rw [Int.toNat_of_nonneg hz.1] at this
        exact this
      · refine ka ex0 ρ σ H1 ex1 _ f1 (sat_then lt1 f1 q fun es q => ?_)
        intro ws H2 ex2 l2 hA2
        refine kr a us ws xs es H2 ex2 _ (l2.same a _ hH) (l2.keep a hex) hzu (hA.mono l2.cuts) hA2 ?_
        cases ho : o xs es with
        | exc c => rw [ho] at q; exact q
        | bad => rw [ho] at q; exact q
        | ok ys =>
          rw [ho] at q
          intro vs2 v hz2 hA3
          exact q σ _ ex2 (own_le (lt1.trans l2) (l2.keep a hex) hn) (l2.cuts.trans (own_mo (l2.keep a hex))) (wr H2 ex2 l2 ys vs2 hz2 hA3)
    · exact q.elim
  · exact q.elim
/-- y = x.pop() -/
def oPopV (i j : Nat) : Env → Out := fun ρ => match (dV i ρ).bind isL with
  | .ok xs => (match xs[xs.length - 1]? with
    | some d => .nx ((ρ.set i (some (.lst xs.dropLast))).set j (some d))
    | none => .bad)
  | _ => .bad
theorem sd_popV (i j : Nat) {x y : Str} {p1 py apos cpos : Pos} (hNd : X.N.Nodup) (hN : X.N[i]? = some x := by rfl) (hg : ownL (sh G i) = true := by rfl) (hv : Vis X.env.scope x := by first | exact Or.inl rfl | exact Or.inr (Or.inl rfl) | exact Or.inr (Or.inr rfl)) (hd : (x == ("__debug__" : Str)) = false := by decide) (hcd : (x == ("__classdict__" : Str)) = false := by decide)
    (hj : X.N[j]? = some y := by rfl) (hy : Loc X.env.scope y := by first | exact Or.inl rfl | exact Or.inr rfl) (hgj : sh G j = .fz := by rfl)
    (hf : X.fn y = true ∨ X.env.scope.names.lookup y = some .local := by first | exact .inl rfl | exact .inr rfl | assumption)
    (hbase : attributeBase (.Name x p1) "pop" X.env (eval (.Name x p1) X.env) = eval (.Name x p1) X.env := by rfl) (hline : (apos.endLine == cpos.line) = true := by rfl)
    (hs : swapsWith (.Call (.Attribute (.Name x p1) "pop" apos) [] [] cpos) (some (.Name y py)) pos.line X.env = pure false := by rfl) :
    SD X ad w rs G (.Assign [.Name y py] (.Call (.Attribute (.Name x p1) "pop" apos) [] [] cpos) pos) (oPopV i j) := by
  refine ⟨_, ps_set hNd hj hy (pe_bm0 PySem.F.plainAttrs_list PySem.F.slot_list_pop PySem.F.type_list_pop mt_pop (pe_var hN hv hd hcd) hbase hline) hs hf, fun H0 ex0 ρ σ H ex De l f q => ?_⟩
  unfold oPopV at q
  cases e1 : (dV i ρ).bind isL with
  | exc c => rw [e1] at q; exact q.elim
  | bad => rw [e1] at q; exact q.elim
  | ok xs =>
  rw [e1] at q
  have er := slot_own e1
  obtain ⟨a, vs, ds, ed, eσ, hex, hn, hH, hz, hA, wr⟩ := f.own er hg
  cases ed
  dsimp only at q
  split at q
  · rename_i d e2
    obtain ⟨v, e3, hv⟩ := hA.get e2
    rw [hA.length] at e3
    refine ⟨_, eσ, .inl ⟨rfl, _, SqL.of hH⟩, a, vs, v, rfl, rfl, hH, e3, ?_⟩
    have f2 := wr xs.dropLast vs.dropLast (by rw [List.length_dropLast]; omega) hA.dropLast
    have m2 : Mo H ex (upd H a (.lst vs.dropLast)) ex := own_mo hex
    exact q _ _ ex (own_le l hex hn) m2 (f2.setF hgj (hv.mono m2))
  · exact q.elim
end
end DL

set_option Elab.async false
set_option linter.all false
set_option maxRecDepth 100000
set_option maxHeartbeats 4000000
set_option autoImplicit false
/-! DL32: tables of sets with up to 8192 slots. -/
namespace DL
open PySem PySem.Spec PyProof.Rows L2
/-! ### x -> 5 x + 1 meets all, by any power of two -/
def xs5 : Nat → Nat
  | 0 => 0
  | n + 1 => 5 * xs5 n + 1
theorem xs5_add (a : Nat) : ∀ b, xs5 (a + b) = 5 ^ b * xs5 a + xs5 b
  | 0 => by simp [xs5]
  | b + 1 => by
    show 5 * xs5 (a + b) + 1 = 5 ^ (b + 1) * xs5 a + (5 * xs5 b + 1)
    rw [xs5_add a b, Nat.mul_add, Nat.pow_succ, Nat.mul_comm (5 ^ b) 5, Nat.mul_assoc]
    omega
theorem five_odd (n : Nat) : ∃ t, 5 ^ n = 4 * t + 1 := by
  induction n with
  | zero => exact ⟨0, rfl⟩
  | succ n ih =>
    obtain ⟨t, e⟩ := ih
    exact ⟨5 * t + 1, by rw [Nat.pow_succ, e]; omega⟩
theorem xs5_two : ∀ k, ∃ o, xs5 (2 ^ k) = 2 ^ k * (2 * o + 1)
  | 0 => ⟨0, rfl⟩
  | k + 1 => by
    obtain ⟨o, e⟩ := xs5_two k
    obtain ⟨t, ht⟩ := five_odd (2 ^ k)
    refine ⟨(2 * t + 1) * o + t, ?_⟩
    rw [Nat.pow_succ, Nat.mul_two, xs5_add, ht, e]
    have : (4 * t + 1) * (2 ^ k * (2 * o + 1)) + 2 ^ k * (2 * o + 1) = 2 ^ k * ((2 * o + 1) * (4 * t + 2)) := by
      rw [Nat.mul_left_comm, ← Nat.mul_add, Nat.mul_comm (2 * o + 1) (4 * t + 2)]
      congr 1
      generalize 2 * o + 1 = z
      rw [show 4 * t + 2 = (4 * t + 1) + 1 by omega, Nat.add_mul (4 * t + 1) 1 z, Nat.one_mul]
    rw [this, ← Nat.mul_two, Nat.mul_assoc]
    congr 1
    have h1 : (2 * o + 1) * (4 * t + 2) = 2 * ((2 * o + 1) * (2 * t + 1)) := by
      rw [Nat.mul_left_comm]
      congr 1
      omega
    rw [h1]
    congr 1
    rw [Nat.add_mul, Nat.one_mul, Nat.mul_assoc, Nat.mul_comm o (2 * t + 1)]
    omega
theorem xs5_all : ∀ k j, j < 2 ^ k → ∃ b, b < 2 ^ k ∧ xs5 b % 2 ^ k = j
  | 0, j, h => ⟨0, by decide, by simp at h; subst h; rfl⟩
  | k + 1, j, h => by
    have hp : 0 < 2 ^ k := Nat.pow_pos (by decide)
    obtain ⟨b, hb, e⟩ := xs5_all k (j % 2 ^ k) (Nat.mod_lt _ hp)
    obtain ⟨o, eo⟩ := xs5_two k
    obtain ⟨t, et⟩ := five_odd b
    have e2 : 2 ^ (k + 1) = 2 * 2 ^ k := by rw [Nat.pow_succ, Nat.mul_comm]
    have e3 : xs5 (2 ^ k + b) = 2 ^ k * (2 * (4 * t * o + o + 2 * t) + 1) + xs5 b := by
      rw [xs5_add, eo, et, Nat.mul_left_comm]
      congr 2
      rw [Nat.add_mul, Nat.mul_add, Nat.one_mul, Nat.mul_one, ← Nat.mul_assoc, Nat.mul_comm (4 * t) 2, Nat.mul_assoc]
      omega
    rw [e2] at h ⊢
    generalize hM : 2 ^ k = M at *
    generalize 4 * t * o + o + 2 * t = u at e3
    -- the rest by 2 M of what is known by M
    have d1 := Nat.div_add_mod (xs5 b) M
    have d2 := Nat.div_add_mod j M
    have hj : j / M < 2 := by
      rw [Nat.div_lt_iff_lt_mul hp]
      omega
    have par : ∀ q : Nat, (M * q + j % M) % (2 * M) = M * (q % 2) + j % M := fun q => by
      have hq := Nat.div_add_mod q 2
      have hl := Nat.mod_lt j hp
      have h2 := Nat.mod_lt q (show 0 < 2 by decide)
      have : M * q = 2 * M * (q / 2) + M * (q % 2) := by rw [Nat.mul_comm 2 M, Nat.mul_assoc, ← Nat.mul_add, hq]
      have : M * q + j % M = (M * (q % 2) + j % M) + 2 * M * (q / 2) := by omega
      rw [this, Nat.add_mul_mod_self_left, Nat.mod_eq_of_lt]
      have : q % 2 = 0 ∨ q % 2 = 1 := by omega
      rcases this with z | z <;> rw [z] <;> omega
    rw [e] at d1
    by_cases c : (xs5 b / M) % 2 = j / M
    · refine ⟨b, by omega, ?_⟩
      rw [← d1, par, c]
      exact d2
    · refine ⟨M + b, by omega, ?_⟩
      have : xs5 (M + b) = M * (xs5 b / M + (2 * u + 1)) + j % M := by
        have := Nat.mul_add M (xs5 b / M) (2 * u + 1)
        rw [e3]
        omega
      rw [this, par]
      have : (xs5 b / M + (2 * u + 1)) % 2 = j / M := by
        clear this d1 d2 e3 par
        generalize xs5 b / M = y at *
        generalize j / M = x at *
        omega
      rw [this]
      exact d2
/-- the masks of such tables -/
def MP (m : Nat) : Prop := ∃ k, m + 1 = 2 ^ k ∧ 3 ≤ k ∧ k ≤ 13
theorem round_x {m : Nat} (a : Nat) : ∀ k, lcgI m (xs5 a % (m + 1)) k = xs5 (a + k) % (m + 1)
  | 0 => rfl
  | k + 1 => by
    show (lcgI m (xs5 a % (m + 1)) k * 5 + 1) % (m + 1) = (5 * xs5 (a + k) + 1) % (m + 1)
    rw [round_x a k, Nat.add_mod, Nat.mul_mod, Nat.mod_mod, ← Nat.mul_mod, ← Nat.add_mod, Nat.mul_comm]
theorem MP.meets {m : Nat} (hm : MP m) {i j : Nat} (hi : i ≤ m) (hj : j ≤ m) : ∃ k, k ≤ m ∧ lcgI m i k = j := by
  obtain ⟨k, e, _, _⟩ := hm
  obtain ⟨a, ha, ea⟩ := xs5_all k i (by omega)
  obtain ⟨b, hb, eb⟩ := xs5_all k j (by omega)
  obtain ⟨o, eo⟩ := xs5_two k
  rw [← e] at ea eb eo ha hb
  rw [← ea]
  by_cases c : a ≤ b
  · exact ⟨b - a, by omega, by rw [round_x, show a + (b - a) = b by omega, eb]⟩
  · refine ⟨m + 1 + b - a, by omega, ?_⟩
    rw [round_x, show a + (m + 1 + b - a) = m + 1 + b by omega, xs5_add, eo, Nat.mul_left_comm, Nat.mul_add_mod, eb]
theorem MP.odd {m : Nat} (hm : MP m) : m % 2 = 1 := by
  obtain ⟨k, e, h3, _⟩ := hm
  obtain ⟨j, rfl⟩ : ∃ j, k = j + 1 := ⟨k - 1, by omega⟩
  rw [Nat.pow_succ] at e
  omega
theorem MP.le {m : Nat} (hm : MP m) : m ≤ 8191 := by
  obtain ⟨k, e, _, h⟩ := hm
  have := Nat.pow_le_pow_right (n := 2) (by decide) h
  omega
theorem MP.runs {m : Nat} (hm : MP m) (h : Int) {j : Nat} (hj : j ≤ m) : ∃ n, n ≤ m + 12 ∧ runI m (SetTable.bits h) n = j := by
  obtain ⟨k, a, b⟩ := hm.meets (runI_le m (SetTable.bits h) 12) hj
  exact ⟨12 + k, by omega, (runI_tail (bits_lt h) k).trans b⟩
theorem MP.step {m : Nat} (hm : MP m) (h : Int) {j : Nat} (hj : j ≤ m) : ∃ k, k < 10 * SetTable.turns m ∧ way m h k = j := by
  obtain ⟨n, a, b⟩ := hm.runs h hj
  obtain ⟨k, c, d⟩ := run_nth m (SetTable.bits h) n
  have : SetTable.turns m = m + 15 := rfl
  exact ⟨k, by omega, (congrArg SetTable.Probe.j d).trans b⟩
theorem way_in {m : Nat} (h : Int) (k : Nat) : way m h k ≤ m := by
  have h0 : SetTable.bits h % (m + 1) ≤ m := Nat.lt_succ_iff.mp (Nat.mod_lt _ (Nat.succ_pos m))
  have h1 := runEnd_bd h0
  unfold way
  generalize SetTable.bits h % (m + 1) = i at *
  have h2 := nth_in (m := m) k (runAt m i (SetTable.bits h)) (by
    show i + (SetTable.runEnd m i - i) ≤ m
    omega)
  exact Nat.le_trans (Nat.le_add_right _ _) h2
/-! ### tables -/
/-- each hash leads to its slot -/
structure Tb (t : SetTable) (hs : List Int) : Prop where
  up : Ris t.place.toList
  dum : t.dummies = #[]
  cnt : t.place.toList.length = hs.length
  mp : MP t.mask
  le : ∀ x ∈ t.place.toList, x ≤ t.mask
  fnd : ∀ {i : Nat} {h : Int} {j : Nat}, hs[i]? = some h → t.place.toList[i]? = some j → ∃ k, way t.mask h k = j ∧ ∀ c, c < k → way t.mask h c ∈ t.place.toList
section
variable {t : SetTable} {hs : List Int}
/-- where a hash's way comes to a free slot -/
theorem Tb.free (T : Tb t hs) (hl : hs.length ≤ t.mask) (h : Int) : ∃ K, K < 10 * SetTable.turns t.mask ∧ way t.mask h K ∉ t.place.toList ∧ ∀ c, c < K → way t.mask h c ∈ t.place.toList := by
  obtain ⟨j, h1, h2⟩ := st_missing t.place.toList (t.mask + 1) (by rw [T.cnt]; omega)
  obtain ⟨k, h3, h4⟩ := T.mp.step h (Nat.lt_succ_iff.mp h1)
  obtain ⟨K, a, b, c⟩ := st_least (p := fun c => way t.mask h c ∉ t.place.toList) k (by rw [h4]; exact h2)
  exact ⟨K, by omega, b, fun c' hc => Classical.not_not.mp (c c' hc)⟩
theorem Tb.ahead (T : Tb t hs) {h : Int} {K i j : Nat} (hK : way t.mask h K ∉ t.place.toList) (hi : hs[i]? = some h) (hj : t.place.toList[i]? = some j) : ∃ k, k < K ∧ way t.mask h k = j := by
  obtain ⟨k, e, b⟩ := T.fnd hi hj
  have n1 : k ≠ K := fun z => hK (by rw [← z, e]; exact List.mem_of_getElem? hj)
  have n2 : ¬ K < k := fun z => hK (b K z)
  exact ⟨k, by omega, e⟩
/-- one more, at the free slot of its way -/
theorem Tb.more (T : Tb t hs) {h : Int} {K : Nat} (hK : way t.mask h K ∉ t.place.toList) (hb : ∀ c, c < K → way t.mask h c ∈ t.place.toList) :
    let j := way t.mask h K
    let p := SetTable.below t.place j
    p ≤ hs.length ∧ Tb (t.put j).1 (hs.take p ++ h :: hs.drop p) ∧ (t.put j).1.fill = hs.length + 1 := by
  intro j p
  have hpl : p ≤ t.place.toList.length := (below_cut T.up j).1
  have hph : p ≤ hs.length := T.cnt ▸ hpl
  have new : ∀ {x}, x ∈ (t.put j).1.place.toList ↔ x = j ∨ x ∈ t.place.toList := fun {x} => by rw [put_place]; exact mem_ins
  have cnt' : (t.put j).1.place.toList.length = (hs.take p ++ h :: hs.drop p).length := by
    rw [put_place, len_ins _ hpl, len_ins _ hph, T.cnt]
  have away : t.place[p]? ≠ some j := fun z => hK (List.mem_of_getElem? (i := p) (by rw [Array.getElem?_toList]; exact z))
  refine ⟨hph, ⟨ris_insert T.up away, put_dm T.dum j, cnt', T.mp, fun x hx => ?_, fun {i h' j'} h1 h2 => ?_⟩, ?_⟩
  · rcases new.mp hx with rfl | hx
    · exact way_in h K
    · exact T.le x hx
  · have wide : ∀ {i'}, hs[i']? = some h' → t.place.toList[i']? = some j' → ∃ k, way t.mask h' k = j' ∧ ∀ c, c < k → way t.mask h' c ∈ (t.put j).1.place.toList := fun a b => by
      obtain ⟨k, e, z⟩ := T.fnd a b
      exact ⟨k, e, fun c hc => new.mpr (.inr (z c hc))⟩
    rw [tins_get hs hph] at h1
    rw [put_place, tins_get _ hpl] at h2
    show ∃ k, way t.mask h' k = j' ∧ ∀ c, c < k → way t.mask h' c ∈ (t.put j).1.place.toList
    rcases Nat.lt_trichotomy i p with q | q | q
    · rw [if_pos q] at h1 h2
      exact wide h1 h2
    · subst q
      rw [if_neg (Nat.lt_irrefl _), if_pos rfl] at h1 h2
      cases h1
      cases h2
      exact ⟨K, rfl, fun c hc => new.mpr (.inr (hb c hc))⟩
    · have q1 : ¬ i < p := by omega
      have q2 : i ≠ p := by omega
      rw [if_neg q1, if_neg q2] at h1 h2
      exact wide h1 h2
  · have : (t.put j).1.fill = (t.put j).1.place.toList.length + (t.put j).1.dummies.size := rfl
    rw [this, put_dm T.dum, cnt', len_ins _ hph]
    rfl
end
/-! ### tables laid anew -/
section
variable {m : Nat} {done : List Int} {owner : Array (Option Nat)}
/-- the free slot that a hash comes to -/
theorem lay_free (hm : MP m) (h : Int) {j : Nat} (hj : j ≤ m) (hf : oAt owner j = none) :
    ∃ K, SetTable.layClean.free m owner (SetTable.turns m) (SetTable.bits h % (m + 1)) (SetTable.bits h) = some (way m h K) ∧ oAt owner (way m h K) = none ∧ ∀ c, c < K → oAt owner (way m h c) ≠ none := by
  obtain ⟨n, hn, e⟩ := hm.runs h hj
  have at_j : way m h (off m (SetTable.bits h % (m + 1)) (SetTable.bits h) n) = j := by
    have := nth_off m n (SetTable.bits h % (m + 1)) (SetTable.bits h)
    rw [itL_run] at this
    exact (congrArg SetTable.Probe.j this).trans e
  obtain ⟨K, k1, k2, k3⟩ := st_least (p := fun c => oAt owner (way m h c) = none) _ (show oAt owner (way m h (off m (SetTable.bits h % (m + 1)) (SetTable.bits h) n)) = none by rw [at_j]; exact hf)
  refine ⟨K, free_spec m owner _ n _ _ K (show n < m + 15 by omega) k1 (fun c hc => ?_) ?_, k2, k3⟩
  · cases z : oAt owner (way m h c) with
    | none => exact absurd z (k3 c hc)
    | some x => rfl
  · exact congrArg Option.isNone k2
theorem lay_one (hm : MP m) (W : L2.Own m done owner) (hl : done.length ≤ m) (h : Int) :
    ∃ j, SetTable.layClean.free m owner (SetTable.turns m) (SetTable.bits h % (m + 1)) (SetTable.bits h) = some j ∧ L2.Own m (done ++ [h]) (owner.setIfInBounds j (some done.length)) := by
  obtain ⟨ps, pl, pin⟩ := W.ps
  obtain ⟨x, hx, nx⟩ := st_missing ps (m + 1) (by omega)
  have fx : oAt owner x = none := Classical.not_not.mp fun z => nx (pin x (Nat.lt_succ_iff.mp hx) z)
  obtain ⟨K, e, free, busy⟩ := lay_free hm h (Nat.lt_succ_iff.mp hx) fx
  have inr : way m h K < owner.size := by
    have := way_in (m := m) h K
    rw [W.sz]
    omega
  have here := oAt_set_self (some done.length) inr
  have there : ∀ {i}, i ≠ way m h K → oAt (owner.setIfInBounds (way m h K) (some done.length)) i = oAt owner i := fun z => oAt_set_ne _ z
  have stay : ∀ {i}, oAt owner i ≠ none → oAt (owner.setIfInBounds (way m h K) (some done.length)) i ≠ none := fun {i} z => by
    rcases Classical.em (i = way m h K) with q | q
    · rw [q, free] at z
      exact absurd rfl z
    · rw [there q]
      exact z
  refine ⟨way m h K, e, { sz := (Array.size_setIfInBounds ..).trans W.sz, at_ := fun j k hj ej => ?_, all := fun k hk => ?_, ps := ⟨way m h K :: ps, by simp [pl], fun j hj z => ?_⟩ }⟩
  · rcases Classical.em (j = way m h K) with q | q
    · subst q
      rw [here] at ej
      cases ej
      exact ⟨h, K, by simp, rfl, fun c hc => stay (busy c hc)⟩
    · rw [there q] at ej
      obtain ⟨h', K', g1, g2, g3⟩ := W.at_ j k hj ej
      have lk : k < done.length := (List.getElem?_eq_some_iff.mp g1).1
      exact ⟨h', K', by rw [List.getElem?_append_left lk]; exact g1, g2, fun c hc => stay (g3 c hc)⟩
  · rcases Nat.lt_or_ge k done.length with q | q
    · obtain ⟨j, g1, g2⟩ := W.all k q
      refine ⟨j, g1, ?_⟩
      rw [there fun z => by rw [z, free] at g2; cases g2]
      exact g2
    · have : k = done.length := by simp at hk; omega
      subst this
      exact ⟨_, way_in h K, here⟩
  · rcases Classical.em (j = way m h K) with q | q
    · exact q ▸ List.mem_cons_self
    · rw [there q] at z
      exact List.mem_cons_of_mem _ (pin j hj z)
theorem lay_fold (hm : MP m) : ∀ (more done : List Int) (owner : Array (Option Nat)), L2.Own m done owner → done.length + more.length ≤ m →
    ∃ o2, more.foldl (stepF m) (some (owner, done.length)) = some (o2, (done ++ more).length) ∧ L2.Own m (done ++ more) o2
  | [], done, owner, W, _ => ⟨owner, by simp, by simpa using W⟩
  | h :: more, done, owner, W, hl => by
    simp only [List.length_cons] at hl
    obtain ⟨j, e, W1⟩ := lay_one hm W (by omega) h
    obtain ⟨o2, f, W2⟩ := lay_fold hm more (done ++ [h]) _ W1 (by simp; omega)
    refine ⟨o2, ?_, by simpa using W2⟩
    rw [List.foldl_cons, stepF_some e]
    simpa using f
theorem lay_all (hm : MP m) {hs : Array Int} (hn : hs.size ≤ m) : ∃ owner, SetTable.layClean m hs = some owner ∧ L2.Own m hs.toList owner := by
  obtain ⟨o2, f, W⟩ := lay_fold hm hs.toList [] _ (L2.Own.init m) (by simpa using hn)
  exact ⟨o2, by rw [layClean_eq]; exact congrArg (Option.map _) f, by simpa using W⟩
/-- a table laid anew, of the mask m -/
theorem lay_tb (t : SetTable) {hs : Array Int} {wanted : Nat} (hw : SetTable.sizeAbove wanted = m + 1) (hm : MP m) (hn : hs.size ≤ m) :
    ∃ t' order, t.relaid hs wanted = some (t', order) ∧ order.toList.Perm (List.range hs.size) ∧ Tb t' (order.toList.map fun i => hs.getD i 0) ∧ t'.mask = m ∧ t'.led = t.led ∧ t'.plain = t.plain := by
  obtain ⟨owner, e, W⟩ := lay_all hm hn
  have hr : t.relaid hs wanted = some (tabOf t m owner, ((liveOf m owner).map (·.2)).toArray) := by
    rw [relaid_eq, show SetTable.sizeAbove wanted - 1 = m by omega, e]
    rfl
  obtain ⟨asc, within⟩ : Ris ((liveOf m owner).map (·.1)) ∧ ∀ x ∈ (liveOf m owner).map (·.1), x ∈ List.range (m + 1) := ris_live (fun j => owner.getD j none) (List.range (m + 1)) List.pairwise_lt_range
  have all2 : ∀ k, k < hs.size → k ∈ (liveOf m owner).map (·.2) := fun k hk => by
    obtain ⟨j, b1, b2⟩ := W.all k (by simpa using hk)
    exact List.mem_map.mpr ⟨(j, k), (mem_live W.sz).mpr ⟨b1, b2⟩, rfl⟩
  have len : (liveOf m owner).length = hs.size := by
    obtain ⟨ps, p1, p2⟩ := W.ps
    have le1 := nat_nodup_len _ ps (asc.imp Nat.ne_of_lt) fun x hx => by
      obtain ⟨⟨y, k⟩, hq, rfl⟩ := List.mem_map.mp hx
      have := (mem_live W.sz).mp hq
      exact p2 y this.1 fun z => by rw [this.2] at z; cases z
    have le2 := nat_nodup_len (List.range hs.size) ((liveOf m owner).map (·.2)) List.nodup_range fun k hk => all2 k (List.mem_range.mp hk)
    simp at le1 le2 p1
    omega
  refine ⟨_, _, hr, perm_range _ _ (by simp [len]) all2, ⟨asc, rfl, by simp [tabOf], hm, fun x hx => Nat.lt_succ_iff.mp (List.mem_range.mp (within x hx)), fun {i h j} h1 h2 => ?_⟩, rfl, rfl, rfl⟩
  have h2 : ((liveOf m owner).map (·.1))[i]? = some j := h2
  simp only [List.getElem?_map] at h1 h2
  cases hq : (liveOf m owner)[i]? with
  | none => rw [hq] at h2; cases h2
  | some q =>
    obtain ⟨y, k⟩ := q
    rw [hq] at h2
    cases h2
    simp [hq] at h1
    obtain ⟨b1, b2⟩ := (mem_live W.sz).mp (List.mem_of_getElem? hq)
    obtain ⟨h0, K, a1, a2, a3⟩ := W.at_ y k b1 b2
    have : hs.getD k 0 = h0 := by
      rw [Array.getD_eq_getD_getElem?, ← Array.getElem?_toList, a1]
      rfl
    have e0 : h0 = h := by
      rw [← this]
      simpa [Array.getD_eq_getD_getElem?] using h1
    subst e0
    refine ⟨K, a2, fun c hc => ?_⟩
    show way m h0 c ∈ (liveOf m owner).map (·.1)
    cases z : oAt owner (way m h0 c) with
    | none => exact absurd z (a3 c hc)
    | some k2 => exact List.mem_map.mpr ⟨(way m h0 c, k2), (mem_live W.sz).mpr ⟨way_in h0 c, z⟩, rfl⟩
end
end DL

set_option Elab.async false
set_option linter.all false
set_option maxRecDepth 100000
set_option maxHeartbeats 4000000
set_option autoImplicit false
/-! DL33: sets of up to 4914 rows. -/
namespace DL
open PySem PySem.Spec PyProof.Rows L2
/-- a search's c-th step -/
def stp (t : SetTable) (hk : Int) (c : Nat) : SetTable.Probe := nth t.mask (t.probeStart hk) c
theorem stp_j (t : SetTable) (hk : Int) (c : Nat) : (stp t hk c).j = way t.mask hk c := rfl
theorem stp_add (t : SetTable) (hk : Int) (c q : Nat) : nth t.mask (stp t hk c) q = stp t hk (c + q) := (nth_add t.mask c _ q).symm
theorem nth_dum {m : Nat} : ∀ (c : Nat) (p : SetTable.Probe), p.dummy = none → (nth m p c).dummy = none
  | 0, _, h => h
  | c + 1, p, h => nth_dum c _ (by unfold adv; split <;> exact h)
/-- what a probe from the c-th step on comes to -/
theorem probe_way {t : SetTable} (up : Ris t.place.toList) (dum : t.dummies = #[]) (ha : Nat → Int) (hk : Int) {c K : Nat} (hc : c ≤ K) (hK : K < 10 * SetTable.turns t.mask) (busy : ∀ q, q < K → way t.mask hk q ∈ t.place.toList) (free : way t.mask hk K ∉ t.place.toList) :
    (∃ q i, c ≤ q ∧ q < K ∧ t.place.toList[i]? = some (way t.mask hk q) ∧ ha i = hk ∧ (∀ q' i', c ≤ q' → q' < q → t.place.toList[i']? = some (way t.mask hk q') → ha i' ≠ hk) ∧ t.probe ha hk (stp t hk c) = some (.candidate (way t.mask hk q) i (stp t hk (q + 1)))) ∨
    ((∀ q' i', c ≤ q' → q' < K → t.place.toList[i']? = some (way t.mask hk q') → ha i' ≠ hk) ∧ t.probe ha hk (stp t hk c) = some (.empty (way t.mask hk K) none)) := by
  have ej : ∀ q, (nth t.mask (stp t hk c) q).j = way t.mask hk (c + q) := fun q => congrArg SetTable.Probe.j (stp_add t hk c q)
  have eK : c + (K - c) = K := by omega
  rcases go_spec t up dum ha hk (10 * SetTable.turns t.mask) (K - c) (stp t hk c) (nth_dum c _ rfl) (by omega) (fun q hq => by rw [ej]; exact busy _ (by omega)) (by rw [ej, eK]; exact free) with ⟨q, i, a1, a2, a3, a4, a5⟩ | ⟨a1, a2⟩
  · rw [ej] at a2
    rw [ej, stp_add] at a5
    refine .inl ⟨c + q, i, by omega, by omega, a2, a3, fun q' i' h1 h2 h3 => a4 (q' - c) i' (by omega) ?_, a5⟩
    rw [ej, show c + (q' - c) = q' by omega]
    exact h3
  · rw [ej, eK] at a2
    refine .inr ⟨fun q' i' h1 h2 h3 => a1 (q' - c) i' (by omega) ?_, a2⟩
    rw [ej, show c + (q' - c) = q' by omega]
    exact h3
/-- the masks by which such sets grow -/
def Mk (m : Nat) : Prop := m = 7 ∨ m = 31 ∨ m = 127 ∨ m = 511 ∨ m = 2047 ∨ m = 8191
theorem Mk.mp {m : Nat} (h : Mk m) : MP m := by
  rcases h with rfl | rfl | rfl | rfl | rfl | rfl
  · exact ⟨3, rfl, by decide, by decide⟩
  · exact ⟨5, rfl, by decide, by decide⟩
  · exact ⟨7, rfl, by decide, by decide⟩
  · exact ⟨9, rfl, by decide, by decide⟩
  · exact ⟨11, rfl, by decide, by decide⟩
  · exact ⟨13, rfl, by decide, by decide⟩
/-- the set at a has the rows L, each once -/
structure SG (P : Program) (w : World) (h : Heap) (a : Addr) (L : List (Addr × List Int)) (es : Array (Int × Value)) (ep : Nat) (t : SetTable) : Prop where
  ob : ∃ o, h.get? a = some o ∧ o.ExactSet ∧ o.data = .set es ep t
  rows : es.toList = rowsOf P w L
  tb : Tb t (L.map fun p => thash P w p.2)
  mask : Mk t.mask
  once : (L.map (·.2)).Nodup
  tup : ∀ p ∈ L, IsT P w h p.2 p.1
  plain : t.plain = true
  led : w.params.followText "set-order" = true ∨ t.led = true
  room : L.length * 5 < t.mask * 3
section
variable {P : Program} {w : World} {A : Around} {E : Value → Shared → Prop} {s : Shared} {a : Addr} {L : List (Addr × List Int)} {es : Array (Int × Value)} {ep : Nat} {t : SetTable}
theorem rows_size (h : es.toList = rowsOf P w L) : es.size = L.length := by
  have := congrArg List.length h
  simpa [rowsOf] using this
theorem SG.fits {h : Heap} (R : SG P w h a L es ep t) : t.fits es.size = true := by
  have h1 : t.place.size = L.length := by simpa using R.tb.cnt
  have h2 := R.room
  have h3 : t.fill = L.length := by
    show t.place.size + t.dummies.size = _
    rw [R.tb.dum, h1]
    rfl
  unfold SetTable.fits
  rw [h3, h1, rows_size R.rows]
  simp
  omega
theorem SG.at {h : Heap} (R : SG P w h a L es ep t) {i : Nat} {p : Addr × List Int} (hp : L[i]? = some p) : es[i]? = some (thash P w p.2, Value.ref p.1) := by
  have : es.toList[i]? = (L.map fun p => (thash P w p.2, Value.ref p.1))[i]? := congrArg (·[i]?) R.rows
  rw [List.getElem?_map, hp, Array.getElem?_toList] at this
  exact this
theorem SG.few {h : Heap} (R : SG P w h a L es ep t) : L.length ≤ 4914 := by
  have := R.room
  have := R.mask.mp.le
  omega
/-- the search -/
theorem sg_search (R : SG P w s.heap a L es ep t) {x : Addr} {k : List Int} (hx : IsT P w s.heap k x) (hu : A.units < cLine) {K : Nat} (hKf : K < 10 * SetTable.turns t.mask)
    (free : way t.mask (thash P w k) K ∉ t.place.toList) (busy : ∀ c, c < K → way t.mask (thash P w k) c ∈ t.place.toList) {Q : SetFound → Shared → Prop}
    (hin : k ∈ L.map (·.2) → Q (.there none) s) (hout : k ∉ L.map (·.2) → Q (.free (way t.mask (thash P w k) K) false) s) :
    ∀ (f c : Nat) (sd : Option SetTable.Probe), sd.getD (t.probeStart (thash P w k)) = stp t (thash P w k) c → c ≤ K → K - c < f →
      (∀ (i : Nat) p, L[i]? = some p → p.2 = k → ∃ q, c ≤ q ∧ q < K ∧ t.place.toList[i]? = some (way t.mask (thash P w k) q)) →
      wpAny (model P w) A (setSearchFrom a (.ref x) (thash P w k) true f sd) Q E s
  | 0, _, _, _, _, hf, _ => absurd hf (Nat.not_lt_zero _)
  | f + 1, c, sd, hsd, hc, hf, later => by
    obtain ⟨o, ho, hex, hd⟩ := R.ob
    have load : ∀ {Z : Array (Int × Value) × Nat × SetTable → Shared → Prop}, Z (es, ep, t) s → wpAny (model P w) A (setState a) Z E s := fun z => wpAny_setState_of ho hd R.fits z
    have gw : ¬ t.gaveWay = true := by
      unfold SetTable.gaveWay
      rw [R.mask.mp.odd]
      decide
    have hash : ∀ {i : Nat} {p : Addr × List Int}, L[i]? = some p → (es[i]?.map (·.1)).getD 0 = thash P w p.2 := fun hp => by rw [R.at hp]; rfl
    rw [setSearchFrom_succ]
    refine wpAny_bind (load ?_)
    dsimp only
    refine wp_if_neg gw ?_
    try refine wpAny_bind (wpAny_pure ?_)
    rcases probe_way R.tb.up R.tb.dum (fun i => (es[i]?.map (·.1)).getD 0) (thash P w k) hc hKf busy free with ⟨q, i, g1, g2, g3, g4, g5, g6⟩ | ⟨g1, g2⟩
    · rw [hsd, g6]
      dsimp only
      have il : i < L.length := by
        have z := (List.getElem?_eq_some_iff.mp g3).1
        rw [R.tb.cnt] at z
        simpa using z
      obtain ⟨p, hp⟩ : ∃ p, L[i]? = some p := ⟨_, List.getElem?_eq_getElem il⟩
      have pm := List.mem_of_getElem? hp
      have rest : wpAny (model P w) A (searchRest a (.ref x) (thash P w k) true f es t (way t.mask (thash P w k) q) i (stp t (thash P w k) (q + 1))) Q E s := by
        unfold searchRest
        rw [R.at hp]
        dsimp only
        refine wpAny_bind (wpAny_holding (wpAny_eqBool_tuple hu (R.tup p pm) hx (wpAny_bind (load ?_))))
        dsimp only
        by_cases e : p.2 = k
        · exact wp_if_pos (by simp [e]) (wpAny_pure (hin (List.mem_map.mpr ⟨p, pm, e⟩)))
        refine wp_if_neg (by simp [e]) ?_
        try refine wpAny_bind (wpAny_pure ?_)
        have lv : t.slot (way t.mask (thash P w k) q) = .live i := slot_live R.tb.up g3
        rw [sameMem]
        dsimp only
        simp only [if_true, lv, R.at hp]
        refine wpAny_bind (wpAny_isSame_ref_self (wpAny_bind (wpAny_pure ?_)))
        simp only [if_true]
        refine wp_if_neg (by simp [e]) (sg_search R hx hu hKf free busy hin hout f (q + 1) _ rfl (by omega) (by omega) fun i0 p0 h0 e0 => ?_)
        obtain ⟨q0, b1, b2, b3⟩ := later i0 p0 h0 e0
        refine ⟨q0, ?_, b2, b3⟩
        have n1 : ¬ q0 < q := fun z => g5 q0 i0 b1 z b3 (by rw [hash h0, e0])
        have n2 : q0 ≠ q := fun z => by
          rw [z] at b3
          have := (slot_live R.tb.up b3).symm.trans lv
          cases this
          rw [hp] at h0
          cases h0
          exact e e0
        omega
      by_cases hl : t.led = true
      · refine wp_if_neg (by simp [hl]) ?_
        try refine wpAny_bind (wpAny_pure ?_)
        exact rest
      · refine wp_if_pos (by simp [hl]) (wpAny_bind (seen_tup hx (fun y hy => ?_) ?_))
        · obtain ⟨e, he, rfl⟩ := List.mem_map.mp hy
          have he : e ∈ es.toList := by
            have := he
            simp at this
            simpa using this.1
          rw [R.rows] at he
          obtain ⟨p2, hp2, rfl⟩ := List.mem_map.mp he
          exact ⟨p2.2, p2.1, rfl, R.tup p2 hp2⟩
        · refine wp_if_neg (by decide) ?_
          try refine wpAny_bind (wpAny_pure ?_)
          exact rest
    · rw [hsd, g2]
      dsimp only
      refine wpAny_pure (hout fun hm => ?_)
      obtain ⟨p0, h0, e0⟩ := List.mem_map.mp hm
      obtain ⟨i0, hi⟩ := List.mem_iff_getElem?.mp h0
      obtain ⟨q0, b1, b2, b3⟩ := later i0 p0 hi e0
      exact g1 q0 i0 b1 b2 b3 (by rw [hash hi, e0])
theorem sg_find (R : SG P w s.heap a L es ep t) {x : Addr} {k : List Int} (hx : IsT P w s.heap k x) (hu : A.units < cLine) {Q : SetFound → Shared → Prop} (hin : k ∈ L.map (·.2) → Q (.there none) s)
    (hout : ∀ K, k ∉ L.map (·.2) → way t.mask (thash P w k) K ∉ t.place.toList → (∀ c, c < K → way t.mask (thash P w k) c ∈ t.place.toList) → Q (.free (way t.mask (thash P w k) K) false) s) :
    wpAny (model P w) A (setSearch a (.ref x) (thash P w k) true) Q E s := by
  have r := R.room
  have l := R.mask.mp.le
  obtain ⟨K, k1, k2, k3⟩ := R.tb.free (by simp; omega) (thash P w k)
  have big : SetTable.turns t.mask = t.mask + 15 := rfl
  unfold setSearch
  refine sg_search R hx hu k1 k2 k3 hin (fun n => hout K n k2 k3) 100000 0 none rfl (Nat.zero_le K) (by omega) fun i p hp e => ?_
  have h1 : (L.map fun p => thash P w p.2)[i]? = some (thash P w k) := by simp [hp, e]
  have h2 : i < t.place.toList.length := by
    rw [R.tb.cnt]
    exact (List.getElem?_eq_some_iff.mp h1).1
  obtain ⟨j, hj⟩ : ∃ j, t.place.toList[i]? = some j := ⟨_, List.getElem?_eq_getElem h2⟩
  obtain ⟨q, b1, b2⟩ := R.tb.ahead k2 h1 hj
  exact ⟨q, Nat.zero_le q, b1, by rw [hj, b2]⟩
/-- laid anew, larger -/
theorem sg_relay {o : Obj} (ho : s.heap.get? a = some o) (hex : o.ExactSet) (hd : o.data = .set es ep t) (rows : es.toList = rowsOf P w L) (hsz : t.place.size = es.size) (hdm : t.dummies = #[]) (hfl : es.size ≤ t.mask)
    (once : (L.map (·.2)).Nodup) (tup : ∀ p ∈ L, IsT P w s.heap p.2 p.1) (pl : t.plain = true) (ld : w.params.followText "set-order" = true ∨ t.led = true) {wanted m : Nat} (hw : SetTable.sizeAbove wanted = m + 1) (hm : Mk m) (hn : L.length * 5 < m * 3) {Q : Unit → Shared → Prop}
    (hQ : ∀ h' L' es' ep' t', Heap.SameBut a s.heap h' → SG P w h' a L' es' ep' t' → L'.Perm L → Q () { s with heap := h' }) : wpAny (model P w) A (setRelay a wanted) Q E s := by
  have sz := rows_size rows
  have ml := hm.mp.le
  have fits : t.fits es.size = true := by
    unfold SetTable.fits SetTable.fill
    rw [hdm, hsz]
    simp
    exact hfl
  obtain ⟨t', order, e, pm, T, em, el, epl⟩ := lay_tb t (hs := es.map (·.1)) hw hm.mp (by simp; omega)
  rw [Array.size_map, sz] at pm
  obtain ⟨L2, r1, r2, r3⟩ := order_rows L es order rows pm
  rw [← r3] at T
  have s2 : (order.filterMap (es[·]?)).size = es.size := by rw [rows_size r1, r2.length_eq, sz]
  rw [setRelay_eq]
  refine wpAny_bind (wpAny_setState_of ho hd fits ?_)
  dsimp only
  refine wp_if_neg (by rw [hw, sizeLine_eq]; omega) ?_
  try refine wpAny_bind (wpAny_pure ?_)
  rw [e]
  dsimp only
  refine wpAny_bind (wp_if_neg (by simp [s2]) ?_)
  try refine wpAny_bind (wpAny_pure ?_)
  refine wpAny_pure ?_
  dsimp only
  have sb : Heap.SameBut a s.heap (s.heap.update a (Obj.putSet (order.filterMap (es[·]?)) t')) := Heap.SameBut.update ..
  refine wpAny_storeSet_of ho hd (hQ _ L2 _ (ep + 1) t' sb ⟨⟨_, store_at ho hd, hex, rfl⟩, r1, T, em ▸ hm, (r2.map (·.2)).nodup_iff.mpr once, fun p hp => isT_same (tup p (r2.mem_iff.mp hp)) ho hd sb, epl.trans pl, el ▸ ld, ?_⟩ r2) ?_
  · rw [r2.length_eq, em]
    exact hn
  · rw [s2, sz, sizeLine_eq]
    omega
/-- how such a set grows -/
theorem grows {m n : Nat} (hm : Mk m) (h1 : n * 5 < m * 3) (h2 : (n + 1) * 5 ≥ m * 3) (h3 : n + 1 ≤ 4914) : ∃ m', SetTable.sizeAbove (SetTable.grown (n + 1)) = m' + 1 ∧ Mk m' ∧ (n + 1) * 5 < m' * 3 := by
  rcases hm with rfl | rfl | rfl | rfl | rfl | rfl
  · obtain rfl : n = 4 := by omega
    exact ⟨31, by decide +kernel, .inr (.inl rfl), by decide⟩
  · obtain rfl : n = 18 := by omega
    exact ⟨127, by decide +kernel, .inr (.inr (.inl rfl)), by decide⟩
  · obtain rfl : n = 76 := by omega
    exact ⟨511, by decide +kernel, .inr (.inr (.inr (.inl rfl))), by decide⟩
  · obtain rfl : n = 306 := by omega
    exact ⟨2047, by decide +kernel, .inr (.inr (.inr (.inr (.inl rfl)))), by decide⟩
  · obtain rfl : n = 1228 := by omega
    exact ⟨8191, by decide +kernel, .inr (.inr (.inr (.inr (.inr rfl)))), by decide⟩
  · omega
/-- one row put in -/
theorem sg_add (R : SG P w s.heap a L es ep t) {x : Addr} {k : List Int} (hx : IsT P w s.heap k x) (hu : A.units < cLine) (hfew : k ∈ L.map (·.2) ∨ L.length + 1 ≤ 4914) {Q : Bool → Shared → Prop}
    (hQ : ∀ b h' L' es' ep' t', Heap.SameBut a s.heap h' → SG P w h' a L' es' ep' t' → (k ∈ L.map (·.2) → L' = L) → (k ∉ L.map (·.2) → L'.Perm ((x, k) :: L)) → Q b { s with heap := h' }) :
    wpAny (model P w) A (setAddHashed a (.ref x) (thash P w k)) Q E s := by
  obtain ⟨o, ho, hex, hd⟩ := R.ob
  have r0 := R.room
  unfold setAddHashed
  refine wpAny_holding ?_
  rw [show (100000 : Nat) = 99999 + 1 from rfl, setAddHashedIn_succ]
  refine wpAny_bind (wpAny_setState_of ho hd R.fits ?_)
  dsimp only
  refine wp_if_neg (by simp [byScan, Value.scannable]) ?_
  try refine wpAny_bind (wpAny_pure ?_)
  refine wpAny_bind (sg_find R hx hu (fun hm => wpAny_pure (hQ false s.heap L es ep t (Heap.SameBut.refl a s.heap) R (fun _ => rfl) fun z => absurd hm z)) fun K hm free busy => ?_)
  have few := hfew.resolve_left hm
  dsimp only
  refine wpAny_bind (wpAny_setState_of ho hd R.fits ?_)
  dsimp only
  obtain ⟨pl, T1, fl⟩ := R.tb.more free busy
  have plain1 : (t.put (way t.mask (thash P w k) K)).1.plain = true := R.plain
  have led1 : w.params.followText "set-order" = true ∨ (t.put (way t.mask (thash P w k) K)).1.led = true := R.led
  have mk1 : (t.put (way t.mask (thash P w k) K)).1.mask = t.mask := rfl
  have at1 : (t.put (way t.mask (thash P w k) K)).2 = SetTable.below t.place (way t.mask (thash P w k) K) := rfl
  generalize SetTable.below t.place (way t.mask (thash P w k) K) = i at pl T1 at1
  generalize t.put (way t.mask (thash P w k) K) = pt at T1 fl plain1 led1 mk1 at1 ⊢
  obtain ⟨t1, i'⟩ := pt
  dsimp only at T1 fl plain1 led1 mk1 at1 ⊢
  subst at1
  first
    | (refine wpAny_bind ?_; refine wp_if_pos plain1 ?_; refine hashBy_tup hx ?_)
    | refine wp_if_pos plain1 (wpAny_bind (hashBy_tup hx ?_))
  simp only [if_true]
  have rows1 : (SetTable.insertAt es i' (thash P w k, Value.ref x)).toList = rowsOf P w (L.take i' ++ (x, k) :: L.drop i') := by rw [SetTable.toList_insertAt, rows_put, R.rows]
  have pm := put_perm L i' (x, k)
  have hs1 : (L.map fun p => thash P w p.2).take i' ++ thash P w k :: (L.map fun p => thash P w p.2).drop i' = (L.take i' ++ (x, k) :: L.drop i').map fun p => thash P w p.2 := by simp
  rw [hs1] at T1
  generalize SetTable.insertAt es i' (thash P w k, Value.ref x) = es1 at rows1 ⊢
  generalize L.take i' ++ (x, k) :: L.drop i' = L1 at pm T1 rows1
  have len1 : L1.length = L.length + 1 := pm.length_eq
  have sz1 : es1.size = L.length + 1 := (rows_size rows1).trans len1
  have once1 : (L1.map (·.2)).Nodup := (pm.map (·.2)).nodup_iff.mpr (List.nodup_cons.mpr ⟨hm, R.once⟩)
  rw [List.length_map] at fl
  refine wpAny_bind (wpAny_storeSet_of ho hd ?_ (by rw [sz1, sizeLine_eq]; omega))
  have sb : Heap.SameBut a s.heap (s.heap.update a (Obj.putSet es1 t1)) := Heap.SameBut.update ..
  have ho1 := store_at (es' := es1) (t' := t1) ho hd
  generalize s.heap.update a (Obj.putSet es1 t1) = h1 at sb ho1 ⊢
  have tup1 : ∀ p ∈ L1, IsT P w h1 p.2 p.1 := fun p hp => (List.mem_cons.mp (pm.mem_iff.mp hp)).elim (fun e => by subst e; exact isT_same hx ho hd sb) fun q => isT_same (R.tup p q) ho hd sb
  by_cases hf : t1.tooFull = true
  · first
      | (refine wpAny_bind ?_; refine wp_if_pos (by simp [hf]) ?_)
      | (refine wp_if_pos (by simp [hf]) ?_; refine wpAny_bind ?_)
    have full : (L.length + 1) * 5 ≥ t.mask * 3 := by
      unfold SetTable.tooFull at hf
      rw [fl, mk1] at hf
      exact of_decide_eq_true hf
    obtain ⟨m', g1, g2, g3⟩ := grows R.mask r0 full few
    rw [rows_size R.rows]
    have ml := R.mask.mp.le
    refine sg_relay (s := { s with heap := h1 }) ho1 ⟨hex.1, hex.2.1, hex.2.2⟩ rfl rows1 (by rw [sz1]; simpa [len1] using T1.cnt) T1.dum (by rw [sz1, mk1]; rcases R.mask with e | e | e | e | e | e <;> omega) once1 tup1 plain1 led1 g1 g2 (by omega) fun h2 L2 es2 ep2 t2 sb2 R2 pm2 => ?_
    exact wpAny_pure (hQ true h2 L2 es2 ep2 t2 (sb.trans sb2) R2 (fun z => absurd z hm) fun _ => pm2.trans pm)
  · first
      | refine wp_if_neg (by simp [hf]) ?_
      | (refine wpAny_bind ?_; refine wp_if_neg (by simp [hf]) ?_; refine wpAny_pure ?_)
    refine wpAny_pure (hQ true h1 L1 es1 (ep + 1) t1 sb ⟨⟨_, ho1, ⟨hex.1, hex.2.1, hex.2.2⟩, rfl⟩, rows1, T1, mk1 ▸ R.mask, once1, tup1, plain1, led1, ?_⟩ (fun z => absurd z hm) fun _ => pm)
    unfold SetTable.tooFull at hf
    rw [fl] at hf
    simp at hf
    omega
end
end DL

set_option Elab.async false
set_option linter.all false
set_option maxRecDepth 100000
set_option maxHeartbeats 4000000
set_option autoImplicit false
/-! DL34: set(rows), up to 4095 unlike ones. -/
namespace DL
open PySem PySem.Spec PyProof.Rows L2
section
variable {P : Program} {w : World} {A : Around} {E : Value → Shared → Prop} {s : Shared}
theorem SG.keep {h h' : Heap} {a : Addr} {L : List (Addr × List Int)} {es : Array (Int × Value)} {ep : Nat} {t : SetTable} (R : SG P w h a L es ep t) (ha : ∀ o, h.get? a = some o → h'.get? a = some o) (ht : ∀ p ∈ L, IsT P w h' p.2 p.1) : SG P w h' a L es ep t := by
  obtain ⟨o, ho, r⟩ := R.ob
  exact { R with ob := ⟨o, ha o ho, r⟩, tup := ht }
/-- no rows yet -/
theorem sg_empty {h : Heap} {a : Addr} {l : Bool} (hl : w.params.followText "set-order" = true ∨ l = true) (ho : h.get? a = some { cls := .type "set", dict := none, data := .set #[] 0 (.fresh 0 0 l) }) : SG P w h a [] #[] 0 (.fresh 0 0 l) where
  ob := ⟨_, ho, ⟨rfl, rfl, rfl⟩, rfl⟩
  rows := rfl
  tb := ⟨List.Pairwise.nil, rfl, rfl, Mk.mp (.inl rfl), fun x hx => (by cases hx), fun {i h j} h1 _ => (by simp at h1)⟩
  mask := .inl rfl
  once := List.nodup_nil
  tup := fun p hp => by cases hp
  plain := rfl
  led := hl
  room := show 0 * 5 < 7 * 3 by decide
/-- few unlike rows -/
def Few (ks : List (Addr × List Int)) : Prop := ∀ M : List (List Int), M.Nodup → (∀ x ∈ M, x ∈ ks.map (·.2)) → M.length ≤ 4095
/-- what the loop of set.update does -/
theorem sg_loop {I : Addr} {fp wr : List Addr} {G : Array GenState → Array GenState → Prop} {n : Nat} {Pv : Nat → Value → Prop} {St : Nat → Shared → Prop} {R : Result → Shared → Prop}
    (W : WalksS P w A.in1 I fp wr G n Pv St) (S : Addr) (hSf : S ∉ fp) (ks : List (Addr × List Int)) (hn : n = ks.length) (few : Few ks) (hval : ∀ i v, Pv i v → ∃ p, ks[i]? = some p ∧ v = .ref p.1)
    (h0 : Heap) (hk : ∀ p ∈ ks, IsT P w h0 p.2 p.1) (hS0 : h0.get? S = none) (hw0 : ∀ b ∈ wr, h0.get? b = none) (hu : A.in1.units < cLine) :
    ∀ (j i : Nat) (s : Shared), i + j = n → St i s → (∀ b o, h0.get? b = some o → s.heap.get? b = some o) → (∃ L es ep t, SG P w s.heap S L es ep t ∧ Got ks i L) →
      (∀ s' L es ep t, Moved (S :: wr) G s s' → SG P w s'.heap S L es ep t → Got ks n L → (∀ b o, h0.get? b = some o → s'.heap.get? b = some o) → R (.ok (.ret .none)) s') →
      codeAny (model P w) A (.builtin "set.update.loop" ⟨[.ref S, .ref I], []⟩) R s := by
  have outS : S ∉ wr := fun z => hSf (W.sub _ z)
  have more : ∀ b ∈ wr, b ∈ S :: wr := fun _ z => List.mem_cons_of_mem _ z
  have stays : ∀ {s s' : Shared}, Moved wr G s s' → (∀ b o, h0.get? b = some o → s.heap.get? b = some o) → ∀ b o, h0.get? b = some o → s'.heap.get? b = some o := fun mv kp b o e =>
    mv.heap b o (fun z => by rw [hw0 b z] at e; cases e) (kp b o e)
  have ofks : ∀ {L : List (Addr × List Int)} {i : Nat}, Got ks i L → ∀ p ∈ L, p ∈ ks := fun g p hp => List.mem_of_mem_take (g.sub p hp)
  intro j
  induction j with
  | zero =>
    rintro i s hij hst kp ⟨L, es, ep, t, hS, g⟩ hR
    obtain rfl : i = n := by omega
    refine codeAny_builtin F.entry_set_update_loop ?_
    rw [Around.under_plainId F.plain_set_update_loop _]
    show wpAny _ A.in1 (pyNext (.ref I) >>= _) _ _ s
    refine wpAny_bind (W.done s _ _ hst fun s' mv => ?_)
    show wpAny _ A.in1 (ret Value.none) _ _ s'
    have kp' := stays mv kp
    exact wpAny_pure (hR s' L es ep t (mv.mono more) (hS.keep (fun o e => mv.heap S o outS e) fun p hp => isT_keep (hk p (ofks g p hp)) kp') g kp')
  | succ j ih =>
    rintro i s hij hst kp ⟨L, es, ep, t, hS, g⟩ hR
    refine codeAny_builtin F.entry_set_update_loop ?_
    rw [Around.under_plainId F.plain_set_update_loop _]
    show wpAny _ A.in1 (pyNext (.ref I) >>= _) _ _ s
    refine wpAny_bind (W.item i s _ _ (by omega) hst fun v s' hP hst' mv => ?_)
    obtain ⟨p, hp, rfl⟩ := hval i v hP
    have kp' := stays mv kp
    have hS' : SG P w s'.heap S L es ep t := hS.keep (fun o e => mv.heap S o outS e) fun q hq => isT_keep (hk q (ofks g q hq)) kp'
    have hx := isT_keep (hk p (List.mem_of_getElem? hp)) kp'
    have room : p.2 ∈ L.map (·.2) ∨ L.length + 1 ≤ 4914 := by
      rcases Classical.em (p.2 ∈ L.map (·.2)) with q | q
      · exact .inl q
      · refine .inr ?_
        have := few (p.2 :: L.map (·.2)) (List.nodup_cons.mpr ⟨q, hS.once⟩) fun x hx => by
          rcases List.mem_cons.mp hx with rfl | hx
          · exact List.mem_map_of_mem (List.mem_of_getElem? hp)
          · obtain ⟨y, hy, rfl⟩ := List.mem_map.mp hx
            exact List.mem_map_of_mem (ofks g y hy)
        simp at this
        omega
    show wpAny _ A.in1 (holding [Value.ref p.1] (setAdd S (.ref p.1)) >>= _) _ _ s'
    refine wpAny_bind (wpAny_holding ?_)
    unfold setAdd
    refine wpAny_holding (wpAny_bind (wpAny_pyHash_tuple hu hx ?_))
    refine sg_add (s := { s' with toks := s'.toks + (p.2.length + 1) }) hS' hx hu room fun b h' L' es' ep' t' sb hS2 c1 c2 => ?_
    have g' : Got ks (i + 1) L' := (Classical.em (p.2 ∈ L.map (·.2))).elim (fun c => by rw [c1 c]; exact g.same hp c) fun c => g.more hp (c2 c)
    have kp2 : ∀ b o, h0.get? b = some o → h'.get? b = some o := fun b o e => (sb.2 b fun z => by rw [z, hS0] at e; cases e).trans (kp' b o e)
    refine wpAny_pure ⟨plainId_quiet F.plain_set_update_loop _, ih (i + 1) _ (by omega) (W.frame _ s' _ _ hst' (Nat.le_add_right _ _) fun b hb o e => ?_) kp2 ⟨L', es', ep', t', hS2, g'⟩ fun s'' L2 es2 ep2 t2 mv2 hS3 g3 kp3 => ?_⟩
    · have ne : b ≠ S := fun z => hSf (z ▸ hb)
      rw [sb.2 b ne]
      exact e
    · refine hR s'' L2 es2 ep2 t2 (Moved.trans W.gtrans ((mv.mono more).then_heap (Nat.le_add_right _ _) fun b o hb e => ?_) mv2) hS3 g3 kp3
      have ne : b ≠ S := fun z => hb (z ▸ List.mem_cons_self)
      rw [sb.2 b ne]
      exact e
/-- set(rows) -/
theorem sg_call {l : Addr} {items : Array Value} (ks : List (Addr × List Int)) {Q : Value → Shared → Prop} (hh : A.handled = none) (hl : s.heap.IsList l items) (hit : items.toList = ks.map fun p => Value.ref p.1)
    (hk : ∀ p ∈ ks, IsT P w s.heap p.2 p.1) (few : Few ks) (hu : A.units + 3 < cLine)
    (h : ∀ (h' : Heap) (tk : Nat) L es ep t, SG P w h' s.heap.objs.size L es ep t → Got ks ks.length L → (∀ b o, s.heap.get? b = some o → h'.get? b = some o) → Q (.ref s.heap.objs.size) { s with heap := h', toks := tk }) :
    wpAny (model P w) A (call (.type "set") [.ref l]) Q E s := by
  have cnt : items.size = ks.length := by
    have := congrArg List.length hit
    simpa using this
  obtain ⟨_, _, hmro⟩ := F.called_set.mro
  have hmade := F.called_set.made
  have hsub := F.called_set.sub
  have h1 := F.called_set.notType
  have h2 := F.called_set.canCreate
  have hct := F.typeCall_set_1 (.ref l)
  have led0 : w.params.followText "set-order" = true ∨ (!w.params.followText "set-order") = true := by
    cases w.params.followText "set-order"
    · exact .inr rfl
    · exact .inl rfl
  have hlS : l < s.heap.objs.size := by
    obtain ⟨o, e, _⟩ := hl
    exact Heap.lt_size e
  have none_of : ∀ b, s.heap.objs.size ≤ b → s.heap.get? b = none := fun b hb => by
    cases q : s.heap.get? b with
    | none => rfl
    | some o => exact absurd (Heap.lt_size q) (Nat.not_lt.mpr hb)
  have item : ∀ (i : Nat) (v : Value), items[i]? = some v → ∃ p, ks[i]? = some p ∧ v = .ref p.1 := fun i v hv => by
    have q : (ks.map fun p => Value.ref p.1)[i]? = some v := by rw [← hit, Array.getElem?_toList]; exact hv
    rw [List.getElem?_map] at q
    obtain ⟨p, e1, e2⟩ := Option.map_eq_some_iff.mp q
    exact ⟨p, e1, e2.symm⟩
  -- the type is called: a new set, then its beginning
  refine wpAny_call (codeAny_of_tree ?_)
  show wpAny _ _ (callAny (.type "set") _) _ _ _
  refine wpAny_pure ⟨Code.quiet_builtin _ (by decide +kernel), codeAny_builtin F.entry_type_call ?_⟩
  rw [Around.under_plain (weight_type_call_type "set" [.ref l] []) rfl]
  repeat (any_goals (first | assumption | wp_step))
  refine codeAny_mono (code_set_led1 (.ref l) (E := E) (Q₁ := fun ob s1 => ob = .ref s.heap.objs.size ∧ s1 = { s with heap := s.heap.push { cls := .type "set", dict := none, data := .set #[] 0 (.fresh 0 0 (!w.params.followText "set-order")) } }) ⟨rfl, rfl⟩) fun r s1 hr => ?_
  rcases r with e | fl
  · exact hr
  cases fl <;> try exact hr.elim
  obtain ⟨rfl, rfl⟩ := hr
  generalize hL : (!w.params.followText "set-order") = led at *
  generalize hso : ({ cls := .type "set", dict := none, data := .set #[] 0 (.fresh 0 0 led) } : Obj) = so at *
  have hS : (s.heap.push so).get? s.heap.objs.size = some so := Heap.get?_push_size _ (by rw [← hso]; rfl)
  have hT : Shared.TypeIs { s with heap := s.heap.push so } (.ref s.heap.objs.size) "set" := ⟨_, hS, by rw [← hso]⟩
  have hz1 : (s.heap.push so).objs.size = s.heap.objs.size + 1 := Heap.size_push ..
  have hli := F.called_set.init.lookup
  have hbi := F.called_set.init.bind (.ref s.heap.objs.size)
  repeat (any_goals (first | assumption | wp_step))
  refine codeAny_mono (codeAny_call_builtin (R := wants (fun r s2 => r = .none ∧ ∃ h' tk L es ep t, s2 = { s with heap := h', toks := tk } ∧ SG P w h' s.heap.objs.size L es ep t ∧ Got ks ks.length L ∧ (∀ b o, s.heap.get? b = some o → h'.get? b = some o)) E) F.called_set.init.plain F.entry_set_init (check_set_init_1 hT ?_)) fun r2 s2 hr2 => ?_
  · obtain ⟨⟨ocls, odict, odata, oslots⟩, hol, hcl, nl, hdl⟩ := hl
    simp only at hcl hdl
    subst hcl hdl
    have hol' := Heap.get?_push_of_some so hol
    have hsls := F.sub_list_set
    have hslf := F.sub_list_frozenset
    have hne : (Value.type "list" == Value.type "dict") = false := by decide
    have hl1 : (s.heap.push so).IsList l items := ⟨_, hol', rfl, nl, rfl⟩
    have hneI : l ≠ (s.heap.push so).objs.size := fun z => Nat.lt_irrefl l (by rw [hz1] at z; exact Nat.lt_trans hlS (z ▸ Nat.lt_succ_self _))
    have hSf : s.heap.objs.size ∉ [(s.heap.push so).objs.size, l] := fun z => (List.mem_cons.mp z).elim (fun z => absurd (hz1 ▸ z) (Nat.ne_of_lt (Nat.lt_succ_self _))) fun z => absurd (List.mem_singleton.mp z) (Nat.ne_of_gt hlS)
    subst hso
    unfold Builtin.«set.__init__» noKeywords Builtin.Frozenset.updateFrom
    generalize hPI : pyIter = PI
    wp_walk
    subst hPI
    refine wpAny_pyIter_list hl1 ?_
    refine wpAny_bind (wpAny_runValue ?_)
    have hh3 : A.in1.in1.in1.handled = none := by simp [hh]
    refine sg_loop ((Walks.list hh3 _ l hneI items).toS) s.heap.objs.size hSf ks cnt few item s.heap hk (none_of _ (Nat.le_refl _)) (fun b hb => none_of b ?_) hu items.size 0 _ (by omega) ⟨⟨_, Heap.get?_push_size _ rfl, rfl, rfl⟩, (hl1.push _)⟩ (fun b o e => Heap.get?_push_of_some _ (Heap.get?_push_of_some _ e)) ?_ ?_
    · rw [List.mem_singleton.mp hb]
      exact Nat.le_of_lt (by rw [hz1]; exact Nat.lt_succ_self _)
    · refine ⟨[], #[], 0, _, sg_empty led0 ?_, Got.zero ks⟩
      exact Heap.get?_push_of_some _ hS
    · rintro ⟨h', g2, d2, tk, os2⟩ L es ep t mv hS2 g' kp
      obtain rfl : g2 = s.gens := mv.gens
      obtain rfl : d2 = s.drawn := mv.drawn
      obtain rfl : os2 = s.os := mv.os
      show wpAny _ _ _ _ _ _
      refine wpAny_pure ?_
      show wpAny _ _ (ret Value.none) _ _ _
      rw [cnt] at g'
      exact wpAny_pure ⟨rfl, h', tk, L, es, ep, t, rfl, hS2, g', kp⟩
  · rcases r2 with e | fl2
    · exact hr2
    cases fl2 <;> try exact hr2.elim
    obtain ⟨rfl, h', tk, L, es, ep, t, rfl, hS2, g', kp⟩ := hr2
    repeat (any_goals (first | assumption | wp_step))
    exact h _ _ _ _ _ _ hS2 g' kp
end
/-! ### the set as a thing on the heap -/
/-- the set at a, without the rows themselves -/
def SG0 (P : Program) (w : World) (h : Heap) (a : Addr) (L : List (Addr × List Int)) : Prop := (L.length ≤ 4095 ∧ (L.map (·.2)).Nodup) ∧ ∃ (es : Array (Int × Value)) (ep : Nat) (t : SetTable), (∃ o, h.get? a = some o ∧ o.ExactSet ∧ o.data = .set es ep t) ∧ es.toList = rowsOf P w L ∧ Tb t (L.map fun p => thash P w p.2) ∧ Mk t.mask ∧ t.plain = true ∧
  (w.params.followText "set-order" = true ∨ t.led = true) ∧ L.length * 5 < t.mask * 3
def SetGO (P : Program) (w : World) (a : Addr) (L : List (Addr × List Int)) : HO := .ext fun h => SG0 P w h a L
theorem SG.bare {P : Program} {w : World} {h : Heap} {a : Addr} {L : List (Addr × List Int)} {es : Array (Int × Value)} {ep : Nat} {t : SetTable} (R : SG P w h a L es ep t) (len : L.length ≤ 4095) : SG0 P w h a L := ⟨⟨len, R.once⟩, es, ep, t, R.ob, R.rows, R.tb, R.mask, R.plain, R.led, R.room⟩
theorem SG0.full {P : Program} {w : World} {h : Heap} {a : Addr} {L : List (Addr × List Int)} (R : SG0 P w h a L) (ht : ∀ p ∈ L, IsT P w h p.2 p.1) : ∃ es ep t, SG P w h a L es ep t ∧ L.length ≤ 4095 := by
  obtain ⟨⟨len, once⟩, es, ep, t, h1, h2, h3, h4, h5, h6, h7⟩ := R
  exact ⟨es, ep, t, ⟨h1, h2, h3, h4, once, ht, h5, h6, h7⟩, len⟩
theorem setGO_new {P : Program} {w : World} {H : Hp} {h : Heap} {a : Addr} {L : List (Addr × List Int)} (R : SG0 P w h a L) : ObjOk P w H h a (SetGO P w a L) := by
  obtain ⟨_, es, ep, t, ⟨o, ho, r⟩, q⟩ := id R
  refine ⟨R, ⟨o, ho⟩, fun h1 h2 p k => ?_⟩
  obtain ⟨c, es', ep', t', ⟨o', ho', r'⟩, q'⟩ := (show SG0 P w h1 a L from p)
  exact (⟨c, es', ep', t', ⟨o', k o' ho', r'⟩, q'⟩ : SG0 P w h2 a L)
theorem nodup_le {α : Type} [BEq α] [LawfulBEq α] : ∀ {l D : List α}, l.Nodup → (∀ x ∈ l, x ∈ D) → l.length ≤ D.length
  | [], D, _, _ => Nat.zero_le _
  | x :: l, D, hn, hs => by
    have hd := List.nodup_cons.mp hn
    have hx := hs x List.mem_cons_self
    have e := List.length_erase_of_mem hx
    have pos : 0 < D.length := List.length_pos_of_mem hx
    have := nodup_le (D := D.erase x) hd.2 fun y hy => (List.mem_erase_of_ne fun (z : y = x) => hd.1 (z ▸ hy)).mpr (hs y (List.mem_cons_of_mem _ hy))
    simp only [List.length_cons]
    omega
section
variable {X : Cx} {ad : Adr} {w : Wi} {G : Shs} {pos : Pos}
/-- set(rows), over the heap's reading -/
def rSetG (K : PySem.W.Frag) (P : Program) (w : World) : List V → Hp → VK → Prop := fun xs H Q => ∃ (l : Addr) (ks : List (Addr × List Int)), xs = [V.ref l] ∧ SqL K H l (ks.map fun p => V.ref p.1) ∧ (∀ p ∈ ks, SqT K H p.1 (p.2.map V.int)) ∧ Few ks ∧
  ∀ a L, H a = none → (∀ p ∈ L, p ∈ ks) → (∀ p ∈ ks, p.2 ∈ L.map (·.2)) → Q (.ref a) (upd H a (SetGO P w a L))
theorem cr_setOfG (hc : X.calm = true) (hu : X.A.units + 64 < cLine) : CallR X (.type "set") (rSetG X.K X.prog X.w) := by
  intro pins s σ H xs us Q I r h
  obtain ⟨l, ks, rfl, hl, hk, few, q⟩ := h
  rw [Vals.ref1 r]
  obtain ⟨its, rv, pl, _⟩ := I.list hl
  have n0 : H s.heap.objs.size = none := I.hok.fresh (Nat.le_refl _)
  refine sg_call (P := X.prog) (w := X.w) ks (I.ok.hd hc) pl.isList (by simpa using refs_of_vals rv) (fun p hp => I.isT (hk p hp)) few (by omega) fun h' tk L es ep t R g keep => ?_
  have sub : ∀ p ∈ L, p ∈ ks := fun p hp => List.mem_of_mem_take (g.sub p hp)
  have len : L.length ≤ 4095 := by
    have := few (L.map (·.2)) R.once fun x hx => by
      obtain ⟨p, hp, rfl⟩ := List.mem_map.mp hx
      exact List.mem_map_of_mem (sub p hp)
    simpa using this
  exact ⟨.ref s.heap.objs.size, _, I.laid (t' := tk) keep (Nat.le_refl _) (setGO_new (R.bare len)), rfl, q _ L n0 sub fun p hp => g.all p (by rw [List.take_length]; exact hp)⟩
open PySem.W (EachIs dataLe)
/-- sorted of a set of rows -/
def rSortSet (K : PySem.W.Frag) (P : Program) (wd : World) : List V → Hp → VK → Prop := fun vs H Q => ∃ (a : Addr) (L : List (Addr × List Int)), vs = [.ref a] ∧ H a = some (SetGO P wd a L) ∧ (∀ p ∈ L, SqT K H p.1 (p.2.map V.int) ∧ p.2 ≠ []) ∧
  ∀ (L' : List (List Int × V)) (p : Addr), (∀ b ∈ L', ∃ q ∈ L, b = (q.2, V.ref q.1)) → L'.map (·.1) = sortU (L.map (·.2)) → H p = none → Q (.ref p) (upd H p (.lst (L'.map (·.2))))
theorem cr_sortSet (hc : X.calm = true) (hu : X.A.units + 64 < cLine) : CallR X (.builtin "sorted") (rSortSet X.K X.prog X.w) := by
  intro pins s σ H vs us Q I r h
  obtain ⟨a, L, rfl, ha, hk, q⟩ := h
  rw [Vals.ref1 r]
  have hT : SG0 X.prog X.w s.heap a L := by
    have z := I.hok a _ ha
    exact z.1
  obtain ⟨es, ep, t, Rr, len⟩ := hT.full fun p hp => I.isT (hk p hp).1
  obtain ⟨o, ho, hex, hd⟩ := Rr.ob
  have hfew := len
  have hsz := rows_size Rr.rows
  refine Calls.call_function_entry kind_sorted plain_sorted entry_sorted (args_sorted1 _) (show wpAny _ _ (Builtin.«sorted» _) _ _ _ from ?_)
  unfold Builtin.«sorted»
  refine wpAny_bind (m := checkCount "sorted" 1 1 _) (wpAny_pure (wpAny_bind (collect_set (A := X.A.in1) (I.ok.hd hc) ⟨o, ho, hex.1, hd⟩ Rr.fits (by unfold scanBound; omega) Rr.tb.up Rr.led fun s1 vs k1 hz g1 o1 pm => ?_)))
  have hes : es.toList.map (·.2) = L.map fun q => Value.ref q.1 := by
    rw [Rr.rows, rowsOf, List.map_map] <;> rfl
  rw [hes] at pm
  obtain ⟨L1, pL, ev⟩ := perm_out pm
  obtain ⟨bs, ebs⟩ : ∃ bs : List (List Int × V), bs = L1.map fun q => (q.2, V.ref q.1) := ⟨_, rfl⟩
  have eb : EachIs (fun v (b : List Int × V) => RelV b.2 v) vs bs := by
    rw [ev, ebs]
    clear pL ev ebs
    induction L1 with
    | nil => exact .nil
    | cons q L1 ih => exact .cons rfl ih
  have hbs : ∀ b ∈ bs, ∃ q ∈ L, b = (q.2, V.ref q.1) := fun b hb => by
    rw [ebs] at hb
    obtain ⟨q, hq, e⟩ := List.mem_map.mp hb
    exact ⟨q, pL.mem_iff.mp hq, e.symm⟩
  have hlen : vs.length = L.length := by rw [pm.length_eq, List.length_map]
  have hbl : bs.length = vs.length := by rw [← List.length_map (·.2) (as := bs), (rel_each eb).length]
  have hrows : RowsAt X.K H bs := fun b hb => by
    obtain ⟨q, hq, e⟩ := hbs b hb
    subst e
    exact ⟨q.1, rfl, (hk q hq).1⟩
  have hreads : EachIs (fun v (b : List Int × V) => ∃ as, Reads s.heap v (PyData.tuple (b.1.map .int)) as ∧ s1.heap.objs.size ∉ as) vs bs := each_and eb fun v b hm rr => by
    obtain ⟨t, et, ht⟩ := hrows b hm
    obtain ⟨its, r1, ⟨o2, e2, hc2, n2, hd2⟩, _⟩ := I.tuple ht
    rw [et] at rr
    cases rr
    have hi := r1
    have rd : ∀ (ns : List Int) (us : List Value), Vals (ns.map V.int) us → ReadsAll s.heap us (ns.map .int) [] := by
      intro ns
      induction ns with
      | nil => intro us r; cases r; exact .nil
      | cons n ns ih =>
        intro us r
        cases r with
        | cons r t =>
          obtain ⟨tk, rfl⟩ := r
          exact ReadsAll.cons (as := []) (bs := []) (.int n tk) (ih _ t)
    exact ⟨[], .tuple e2 hc2 hd2 (by simpa using rd b.1 its r1), by simp⟩
  refine wpAny_bind (wpAny_newList ?_ (by rw [sizeLine_eq]; omega))
  have hoL : (s1.heap.push (seqObj "list" vs.toArray 0)).get? s1.heap.objs.size = some (seqObj "list" vs.toArray 0) := Heap.get?_push_size _ rfl
  have kk : ∀ b u, s.heap.get? b = some u → (s1.heap.push (seqObj "list" vs.toArray 0)).get? b = some u := fun b u e => Heap.get?_push_of_some _ (k1 b u e)
  have hne : ∀ b ∈ bs, b.1 ≠ [] := fun b hb => by
    obtain ⟨q, hq, e⟩ := hbs b hb
    subst e
    exact (hk q hq).2
  refine wpAny_bind (wpAny_holding (PySem.W.list_sort_data (s := { s1 with heap := s1.heap.push (seqObj "list" vs.toArray 0) }) (enc := fun b : List Int × V => PyData.tuple (b.1.map .int)) hoL eb (each_and hreads fun v b _ ⟨as, r, n⟩ => ⟨as, PyProof.Rows.Reads.keeps kk r, n⟩) (alike_rows bs) (sortable_rows hne)
    (by rw [sizeLine_eq]; omega) (fun b _ => by show X.A.units + 1 + 1 + _ < _; rw [shaped_row]; omega) fun out hout heach => ?_))
  rw [rowLe_tuple fun b : List Int × V => b.1] at heach
  obtain ⟨c, hcc⟩ := sortedHeap_at (vs := vs) (out := out.toArray) hoL
  have hperm : (bs.mergeSort fun p q => rowLe p.1 q.1).Perm bs := List.mergeSort_perm _ _
  have hmem : ∀ b ∈ bs.mergeSort (fun p q => rowLe p.1 q.1), ∃ q ∈ L, b = (q.2, V.ref q.1) := fun b hb => hbs b (hperm.mem_iff.mp hb)
  have hold : ∀ b u, s.heap.get? b = some u → (sortedHeap (s1.heap.push (seqObj "list" vs.toArray 0)) s1.heap.objs.size vs out.toArray).get? b = some u := fun b u e => by
    have q1 := k1 b u e
    have hlt := Heap.lt_size q1
    rw [sortedHeap_old (Nat.ne_of_lt hlt) (by rw [size_push']; exact Nat.lt_succ_of_lt hlt)]
    exact Heap.get?_push_of_some _ q1
  have keys : bs.map (·.1) = L1.map (·.2) := by
    rw [ebs, List.map_map]
    rfl
  have hsort : (bs.mergeSort fun p q => rowLe p.1 q.1).map (·.1) = sortU (L.map (·.2)) := by
    refine asc_ext ?_ sortU_asc fun y => ?_
    · have h1 : (bs.mergeSort fun p q => rowLe p.1 q.1).Pairwise fun p q => rowLe p.1 q.1 = true := List.pairwise_mergeSort (le := fun p q : List Int × V => rowLe p.1 q.1)
        (fun a b c h1 h2 => decide_eq_true (List.le_trans (of_decide_eq_true h1) (of_decide_eq_true h2))) (fun a b => by
          rcases List.le_total a.1 b.1 with z | z
          · simp [rowLe, z]
          · simp [rowLe, z]) bs
      have h2 : ((bs.mergeSort fun p q => rowLe p.1 q.1).map (·.1)).Nodup := by
        refine ((hperm.map (·.1)).nodup_iff).mpr ?_
        rw [keys]
        exact ((pL.map (·.2)).nodup_iff).mpr Rr.once
      refine List.Pairwise.imp₂ (fun a b (h3 : a ≤ b) (h4 : a ≠ b) => ?_) (List.pairwise_map.mpr (h1.imp fun z => of_decide_eq_true z)) h2
      rcases Decidable.em (a < b) with z | z
      · exact z
      · exact absurd (List.le_antisymm h3 (List.not_lt.mp z)) h4
    · rw [sortU_mem, (hperm.map (·.1)).mem_iff, keys, (pL.map (·.2)).mem_iff]
  have hlen2 : ((bs.mergeSort fun p q => rowLe p.1 q.1).map (·.2)).length ≤ sizeLine := by
    rw [List.length_map, List.length_mergeSort, sizeLine_eq]
    omega
  have hnone : H s1.heap.objs.size = none := I.hok.fresh hz
  have J : Inv X pins σ (upd H s1.heap.objs.size (.lst ((bs.mergeSort fun p q => rowLe p.1 q.1).map (·.2)))) { s with heap := sortedHeap (s1.heap.push (seqObj "list" vs.toArray 0)) s1.heap.objs.size vs out.toArray, gens := s1.gens, drawn := s1.drawn, toks := s1.toks } :=
    I.call (ch := []) (Un.laid hold hz hnone) (I.hok.laid hold hz ⟨hlen2, out, c, rel_each heach, hcc⟩) (by rw [g1]; exact I.bare) (fun _ z => nomatch z)
  refine wpAny_pure ⟨_, rfl, .ref s1.heap.objs.size, _, ?_, rfl, q _ s1.heap.objs.size hmem hsort hnone⟩
  have e : ({ s1 with heap := sortedHeap (s1.heap.push (seqObj "list" vs.toArray 0)) s1.heap.objs.size vs out.toArray } : Shared) = { s with heap := sortedHeap (s1.heap.push (seqObj "list" vs.toArray 0)) s1.heap.objs.size vs out.toArray, gens := s1.gens, drawn := s1.drawn, toks := s1.toks } := by
    cases s1
    cases s
    cases o1
    rfl
  rw [e]
  exact J
/-- sorted(set(rows)), of up to 4095 unlike rows -/
def oSortSet (ds : List D) : R D := match rowsOfD ds with
  | some rs => if rs.all (fun r => !r.isEmpty) = true ∧ (sortU rs).length ≤ 4095 then .ok (.lst ((sortU rs).map rowD)) else .bad
  | none => .bad
theorem de_sortSet {p p2 pos2 : Pos} {e : Expr} {f : Env → R (List D)} (hc : X.calm = true) (hu : X.A.units + 64 < cLine) (h : DK X ad w G e f) (hm : X.mg "sorted" = none := by assumption) (hm2 : X.mg "set" = none := by assumption) (hg : Gl X "sorted" := by rfl) (hg2 : Gl X "set" := by rfl)
    (hs : starEach [e] X.env = (false, eval e X.env) :: starEach [] X.env := by rfl) (hpl : (backTo pos2 (starEach [] X.env)).any (·.1) = false := by rfl)
    (hs2 : starEach [.Call (.Name "set" p2) [e] [] pos2] X.env = (false, eval (.Call (.Name "set" p2) [e] [] pos2) X.env) :: starEach [] X.env := by rfl) (hpl2 : (backTo pos (starEach [] X.env)).any (·.1) = false := by rfl) :
    DE X ad w G (.Call (.Name "sorted" p) [.Call (.Name "set" p2) [e] [] pos2] [] pos) (.own .fz) (oL oSortSet f) := by
  obtain ⟨t, pa, k⟩ := da_k h hs
  refine ⟨_, pe_callB (cr_sortSet hc hu) hg hm PyProof.Rows.boot_sorted (pa_cons (pe_callTy (cr_setOfG hc hu) hg2 hm2 PyProof.Rows.boot_set pa (by decide) (by decide) hs hpl) pa_nil hs2) (by decide) (by decide) hs2 hpl2, fun ex0 ρ σ H ex Q fr q => ?_⟩
  refine k ex0 ρ σ H ex _ fr ?_
  unfold oL at q
  rw [sat_bind] at q
  refine q.imp (fun ds q v H1 ex1 l ⟨a, vs, e1, hq, hz, hA⟩ => ?_) fun _ z => z
  subst e1
  unfold oSortSet at q
  split at q
  · rename_i rs er
    split at q
    · rename_i hne
      have e2 := rowsOf_D er
      subst e2
      obtain ⟨bs, e3, e4, hb⟩ := rows_at hA
      have hzr := rows_len hA
      -- the rows by their addresses
      obtain ⟨ks, k1, k2⟩ : ∃ ks : List (Addr × List Int), bs = ks.map (fun p => (p.2, V.ref p.1)) ∧ ∀ p ∈ ks, SqT X.K (cut H1 ex1) p.1 (p.2.map V.int) := by
        clear e3 e4 hne q er hzr hA hz hq
        induction bs with
        | nil => exact ⟨[], rfl, fun p hp => by cases hp⟩
        | cons b bs ih =>
          obtain ⟨ks, k1, k2⟩ := ih fun p hp => hb p (List.mem_cons_of_mem _ hp)
          obtain ⟨t, e5, e6⟩ := hb b List.mem_cons_self
          refine ⟨(t, b.1) :: ks, ?_, fun p hp => ?_⟩
          · rw [k1, List.map_cons]
            cases b
            cases e5
            rfl
          · rcases List.mem_cons.mp hp with z | z
            · subst z
              exact e6
            · exact k2 p z
      have e5 : ks.map (·.2) = rs := by
        rw [← e3, k1, List.map_map]
        rfl
      have e6 : ks.map (fun p => V.ref p.1) = vs := by
        rw [← e4, k1, List.map_map]
        rfl
      have few : Few ks := fun M hM hsub => Nat.le_trans (nodup_le hM fun x hx => sortU_mem.mpr (by rw [← e5]; exact hsub x hx)) hne.2
      refine ⟨a, ks, rfl, by rw [e6]; exact hq, fun p hp => seqT cut_same (k2 p hp), few, fun a2 L hn sub sup => ?_⟩
      have ls : Le H1 ex1 (upd H1 a2 (SetGO X.prog X.w a2 L)) ex1 := Le.lay hn
      refine ⟨a2, L, rfl, upd_same, fun p hp => ⟨seqT (ls.same) (seqT cut_same (k2 p (sub p hp))), ?_⟩, fun L' pp hL1 hL2 hp => ?_⟩
      · have := List.all_eq_true.mp hne.1 p.2 (by rw [← e5]; exact List.mem_map_of_mem (sub p hp))
        simpa using this
      · have q : Post X.K ad H ex (.own .fz) Q (.lst ((sortU rs).map rowD)) := q
        have lt := l.trans ls
        have hsame : sortU (L.map (·.2)) = sortU rs := asc_ext sortU_asc sortU_asc fun y => by
          rw [sortU_mem, sortU_mem, ← e5]
          constructor
          · intro hy
            obtain ⟨p, hp, e⟩ := List.mem_map.mp hy
            exact List.mem_map.mpr ⟨p, sub p hp, e⟩
          · intro hy
            obtain ⟨p, hp, e⟩ := List.mem_map.mp hy
            rw [← e]
            exact sup p hp
        have hk : ∀ b ∈ L', ∃ p ∈ ks, b = (p.2, V.ref p.1) := fun b hb => by
          obtain ⟨p, hp, e⟩ := hL1 b hb
          exact ⟨p, sub p hp, e⟩
        have hlen : L'.length ≤ (sortU rs).length := by
          rw [← List.length_map (·.1) (as := L'), hL2, hsame]
          exact Nat.le_refl _
        have hlt := hne.2
        refine post_lst (ex := ex1) (fun v H' ex' fp l' r nd nw => q v H' ex' fp (lt.trans l') r nd fun a z zz => nw a z (lt.keep a zz)) ?_ (by rw [List.length_map, sizeLine_eq]; omega) (fr.mono lt).exok hp
        rw [← hsame, ← hL2]
        refine rows_ats (fun b hb => ?_) fun b hb => ?_
        · obtain ⟨p, hp, e⟩ := hk b hb
          subst e
          exact ⟨p.1, rfl, seqT ls.cuts (k2 p hp)⟩
        · obtain ⟨p, hp, e⟩ := hk b hb
          subst e
          exact hzr p.2 (by rw [← e5]; exact List.mem_map_of_mem hp)
    · exact q.elim
  · exact q.elim
end
end DL

set_option Elab.async false
set_option linter.all false
set_option maxRecDepth 100000
set_option maxHeartbeats 4000000
namespace DL
open PySem
def g_check_web : Env → Out := (oSeq (oAsg (tT (tCons' (tN 1) (tCons' (tN 2) (tCons' (tN 3) tNil')))) (dV 0))
    (oSeq (oIf (bOr (dB (d2 oLt (dV 1) (dC (.int 1)))) (bOr (dB (d2 oGt (dV 1) (dC (.int 12)))) (bOr (dB (d2 oLt (dV 2) (dC (.int 2)))) (bOr (dB (d2 oGt (dV 2) (dC (.int 3)))) (dB (d2 oGt (dCall oLen (dCons (dV 3) dNil)) (dC (.int 40))))))))
    (oRaise .web)
    oNx)
    (oFor (iS (dV 3)) (tT (tCons' (tN 4) (tCons' (tN 5) (tCons' (tN 6) tNil'))))
    (oSeq (oIf (bOr (dB (d2 oLt (dCall oMin (dCons (dV 4) (dCons (dV 5) dNil))) (dC (.int 0)))) (bOr (dB (d2 oGe (dCall oMax (dCons (dV 4) (dCons (dV 5) dNil))) (dV 1))) (dB (d2 oEq (dV 4) (dV 5)))))
    (oRaise .web)
    oNx)
    (oIf (bOr (dB (d2 oNe (dCall oLen (dCons (dV 6) dNil)) (dV 2))) (dB (d2 oLt (dCall oMinA (dCons (dV 6) dNil)) (dC (.int 0)))))
    (oRaise .web)
    oNx)))))
def F_check_web : List D → R D := runD 6 (.ok .non) g_check_web
def g_law_cell_at : Env → Out := (oSeq (oIf (dB (d2 oLt (dV 1) (dCall oLen (dCons (dV 0) dNil))))
    (oRet (d2 oIx (dV 0) (dV 1)))
    oNx)
    (oRet (dC (.int 0))))
def F_law_cell_at : List D → R D := runD 0 (.ok .non) g_law_cell_at
def g_law_mix : Env → Out := (oSeq (oIf (dB (d2 oGe (dV 0) (d2 oPow (dC (.int 10)) (dC (.int 18)))))
    (oSeq (oFor (iA itR1 (dCons (dV 1) dNil)) (tN 2)
    (oSet 0 (d2 oDiv (dV 0) (d2 oPow (dC (.int 10)) (dC (.int 6))))))
    (oRet (d2 oMod (dV 0) (d2 oPow (dC (.int 10)) (dC (.int 6))))))
    oNx)
    (oSeq (oSet 3 (d2 oMod (d2 oMul (d2 oAdd (d2 oAdd (d2 oMod (dV 0) (dC (.int 1000003))) (d2 oMul (d2 oMul (dV 1) (dV 1)) (dC (.int 7919)))) (dV 1)) (dC (.int 48271))) (dC (.int 2147483629))))
    (oSeq (oSet 3 (d2 oMod (d2 oMul (dV 3) (dV 3)) (dC (.int 2147483587))))
    (oRet (d2 oDiv (d2 oMod (d2 oMul (dV 3) (d2 oAdd (dV 3) (dC (.int 2)))) (dC (.int 2147483579))) (dC (.int 7)))))))
def F_law_mix : List D → R D := runD 2 (.ok .non) g_law_mix
def g_law_price : Env → Out := (oSeq (oIf (dB (d2 oEq (dV 1) (dC (.int 1))))
    (oRet (d2 oMod (dV 0) (dC (.int 1000))))
    oNx)
    (oSeq (oIf (dB (d2 oEq (dV 1) (dC (.int 2))))
    (oRet (d2 oAdd (d2 oMul (d2 oMod (dV 0) (dC (.int 1000))) (d2 oIx (dLst (dCons (d2 oPow (dC (.int 10)) (dC (.int 36))) (dCons (d2 oPow (dC (.int 10)) (dC (.int 37))) dNil))) (d2 oMod (d2 oDiv (dV 0) (dC (.int 3000))) (dC (.int 2))))) (d2 oMod (d2 oDiv (dV 0) (dC (.int 1000))) (dC (.int 3)))))
    oNx)
    (oRet (d2 oMod (dV 0) (d2 oIx (dLst (dCons (dC (.int 10)) (dCons (dC (.int 4)) dNil))) (dCall oInt (dCons (d2 oEq (dV 1) (dC (.int 3))) dNil)))))))
def F_law_price : List D → R D := runD 0 (.ok .non) g_law_price
def g_law_web : Env → Out := (oSeq (oSet 1 (dCall F_law_cell_at (dCons (dV 0) (dCons (dC (.int 0)) dNil))))
    (oSeq (oSet 2 (d2 oAdd (dC (.int 1)) (d2 oMod (dCall F_law_mix (dCons (dV 1) (dCons (dC (.int 0)) dNil))) (dC (.int 6)))))
    (oSeq (oSet 3 (d2 oAdd (d2 oMul (dC (.int 3)) (dV 2)) (dC (.int 3))))
    (oSeq (oSet 4 (d2 oMod (dCall F_law_mix (dCons (dV 1) (dCons (dC (.int 4)) dNil))) (dC (.int 8))))
    (oSeq (oIf (dB (d2 oEq (d2 oMod (dCall F_law_mix (dCons (dV 1) (dCons (dC (.int 1)) dNil))) (dC (.int 8))) (dC (.int 1))))
    (oSeq (oSet 2 (d2 oAdd (dC (.int 7)) (d2 oMod (dCall F_law_mix (dCons (dV 1) (dCons (dC (.int 0)) dNil))) (dC (.int 6)))))
    (oSet 3 (d2 oAdd (dV 2) (dC (.int 7)))))
    oNx)
    (oSeq (oIf (dB (d2 oEq (d2 oMod (dCall F_law_mix (dCons (dV 1) (dCons (dC (.int 1)) dNil))) (dC (.int 8))) (dC (.int 2))))
    (oAsg (tT (tCons' (tN 2) (tCons' (tN 3) (tCons' (tN 4) tNil')))) (dTup (dCons (d2 oAdd (dC (.int 2)) (d2 oMod (dCall F_law_mix (dCons (dV 1) (dCons (dC (.int 0)) dNil))) (dC (.int 4)))) (dCons (dC (.int 41)) (dCons (dC (.int 3)) dNil)))))
    oNx)
    (oSeq (oSet 5 (d2 oAdd (dC (.int 2)) (d2 oMod (dCall F_law_mix (dCons (dV 1) (dCons (dC (.int 2)) dNil))) (dC (.int 2)))))
    (oSeq (oSet 6 (dLst dNil))
    (oSeq (oFor (iA itR1 (dCons (d2 oMod (dCall F_law_mix (dCons (dV 1) (dCons (dC (.int 3)) dNil))) (dV 3)) dNil)) (tN 7)
    (oSeq (oSet 8 (dCall F_law_mix (dCons (dCall F_law_cell_at (dCons (dV 0) (dCons (d2 oAdd (dC (.int 1)) (d2 oMod (dV 7) (dC (.int 10)))) dNil))) (dCons (d2 oAdd (dC (.int 20)) (dV 7)) dNil))))
    (oSeq (oSet 9 (d2 oMod (dV 8) (dV 2)))
    (oSeq (oSet 10 (d2 oMod (d2 oAdd (d2 oAdd (dV 9) (dC (.int 1))) (d2 oMod (d2 oDiv (dV 8) (dC (.int 16))) (dCall oMax (dCons (dC (.int 1)) (dCons (d2 oSub (dV 2) (dC (.int 1))) dNil))))) (dV 2)))
    (oSeq (oSet 11 (dLst dNil))
    (oSeq (oFor (iA itR1 (dCons (dV 5) dNil)) (tN 12)
    (oSeq (oSet 13 (dCall F_law_mix (dCons (dCall F_law_cell_at (dCons (dV 0) (dCons (d2 oAdd (dC (.int 1)) (d2 oMod (dV 7) (dC (.int 10)))) dNil))) (dCons (d2 oAdd (d2 oAdd (dC (.int 60)) (d2 oMul (dC (.int 3)) (dV 7))) (dV 12)) dNil))))
    (oMut 11 mAppend (dCons (dCall F_law_price (dCons (dV 13) (dCons (dV 4) dNil))) dNil))))
    (oIf (bAnd (dB (d2 oNe (dV 9) (dV 10))) (dB (d2 oLt (dCall oLen (dCons (dV 6) dNil)) (dC (.int 40)))))
    (oMut 6 mAppend (dCons (dTup (dCons (dV 9) (dCons (dV 10) (dCons (oL tupK (kL (dV 11))) dNil)))) dNil))
    oNx)))))))
    (oRet (dTup (dCons (dV 2) (dCons (dV 5) (dCons (dV 6) dNil))))))))))))))
def F_law_web : List D → R D := runD 13 (.ok .non) g_law_web
def g_law_kept : Env → Out := (oSeq (oIf (bNot (dB (d1 oIsVE (dV 0))))
    (oRet (dC (.str (PySem.Str.ofString "other"))))
    oNx)
    (oSeq (oSet 1 (dLst (dCons (d1 (oIsX .web) (dV 0)) (dCons (d1 (oIsX .way) (dV 0)) (dCons (d1 (oIsX .place) (dV 0)) (dCons (d1 (oIsX .step) (dV 0)) dNil))))))
    (oSeq (oSet 1 (d2 oAdd (dV 1) (dLst (dCons (d1 (oIsX .width) (dV 0)) (dCons (d1 (oIsX .many) (dV 0)) dNil)))))
    (oSeq (oSet 1 (d2 oAdd (dV 1) (dLst (dCons (d1 (oIsX .text) (dV 0)) (dCons (d1 (oIsX .row) (dV 0)) dNil)))))
    (oSeq (oIf (dB (d2 oNe (oMl oCountD (dV 1) (dCons (dC (.bl true)) dNil)) (dC (.int 1))))
    (oRet (dC (.str (PySem.Str.ofString "other"))))
    oNx)
    (oRet (d2 oIx (dLst (dCons (dC (.str (PySem.Str.ofString "web"))) (dCons (dC (.str (PySem.Str.ofString "way"))) (dCons (dC (.str (PySem.Str.ofString "place"))) (dCons (dC (.str (PySem.Str.ofString "step"))) (dCons (dC (.str (PySem.Str.ofString "width"))) (dCons (dC (.str (PySem.Str.ofString "many"))) (dCons (dC (.str (PySem.Str.ofString "text"))) (dCons (dC (.str (PySem.Str.ofString "row"))) dNil))))))))) (oMl oIndexD (dV 1) (dCons (dC (.bl true)) dNil)))))))))
def F_law_kept : List D → R D := runD 1 (.ok .non) g_law_kept
def g_law_is_web : Env → Out := (oSeq (oAsg (tT (tCons' (tN 1) (tCons' (tN 2) (tCons' (tN 3) tNil')))) (dV 0))
    (oSeq (oIf (bOr (bNot (dB (dChain oLe oLe (dC (.int 1)) (dV 1) (dC (.int 12))))) (bOr (dB (d2 (oIn true) (dV 2) (dLst (dCons (dC (.int 2)) (dCons (dC (.int 3)) dNil))))) (dB (d2 oGt (dCall oLen (dCons (dV 3) dNil)) (dC (.int 40))))))
    (oRet (dC (.bl false)))
    oNx)
    (oSeq (oFor (iS (dV 3)) (tT (tCons' (tN 4) (tCons' (tN 5) (tCons' (tN 6) tNil'))))
    (oSeq (oIf (bOr (bNot (dB (dChain oLe oLt (dC (.int 0)) (dV 4) (dV 1)))) (bOr (bNot (dB (dChain oLe oLt (dC (.int 0)) (dV 5) (dV 1)))) (bOr (dB (d2 oEq (dV 4) (dV 5))) (dB (d2 oNe (dCall oLen (dCons (dV 6) dNil)) (dV 2))))))
    (oRet (dC (.bl false)))
    oNx)
    (oIf (dB (d2 oNe (dLc [7] (iS (dV 6)) (tN 7) (dB (d2 oLt (dV 7) (dC (.int 0)))) (dV 7)) (dLst dNil)))
    (oRet (dC (.bl false)))
    oNx)))
    (oRet (dC (.bl true))))))
def F_law_is_web : List D → R D := runD 7 (.ok .non) g_law_is_web
def g_law_cut : Env → Out := (oSeq (oSet 1 (d2 oPow (d2 oPow (dC (.int 10)) (dC (.int 60))) (dC (.int 60))))
    (oRet (dLc [2] (iS (dV 0)) (tN 2) bYes (d2 oIx (dLst (dCons (dV 2) (dCons (d2 oAdd (dV 1) (d2 oMod (dV 2) (dV 1))) dNil))) (dCall oInt (dCons (d2 oGe (dV 2) (dV 1)) dNil))))))
def F_law_cut : List D → R D := runD 2 .bad g_law_cut
def g_law_price_v2 : Env → Out := (oSeq (oIf (dB (d2 oEq (dV 1) (dC (.int 1))))
    (oRet (d2 oMod (dV 0) (dC (.int 1000))))
    oNx)
    (oSeq (oIf (dB (d2 oEq (dV 1) (dC (.int 2))))
    (oRet (d2 oAdd (d2 oMul (d2 oMod (dV 0) (dC (.int 1000))) (d2 oPow (dC (.int 10)) (dC (.int 36)))) (d2 oMod (d2 oDiv (dV 0) (dC (.int 1000))) (dC (.int 3)))))
    oNx)
    (oRet (d2 oMod (dV 0) (d2 oIx (dLst (dCons (dC (.int 10)) (dCons (dC (.int 4)) dNil))) (dCall oInt (dCons (d2 oEq (dV 1) (dC (.int 3))) dNil)))))))
def F_law_price_v2 : List D → R D := runD 0 (.ok .non) g_law_price_v2
def g_law_web_b : Env → Out := (oSeq (oSet 1 (dCall F_law_cell_at (dCons (dV 0) (dCons (dC (.int 0)) dNil))))
    (oSeq (oSet 2 (d2 oAdd (dC (.int 1)) (d2 oMod (dCall F_law_mix (dCons (dV 1) (dCons (dC (.int 0)) dNil))) (dC (.int 6)))))
    (oSeq (oSet 3 (d2 oAdd (d2 oMul (dC (.int 3)) (dV 2)) (dC (.int 3))))
    (oSeq (oSet 4 (d2 oMod (dCall F_law_mix (dCons (dV 1) (dCons (dC (.int 4)) dNil))) (dC (.int 8))))
    (oSeq (oIf (dB (d2 oEq (d2 oMod (dCall F_law_mix (dCons (dV 1) (dCons (dC (.int 1)) dNil))) (dC (.int 8))) (dC (.int 1))))
    (oSeq (oSet 2 (d2 oAdd (dC (.int 7)) (d2 oMod (dCall F_law_mix (dCons (dV 1) (dCons (dC (.int 0)) dNil))) (dC (.int 6)))))
    (oSet 3 (d2 oAdd (dV 2) (dC (.int 7)))))
    oNx)
    (oSeq (oIf (dB (d2 oEq (d2 oMod (dCall F_law_mix (dCons (dV 1) (dCons (dC (.int 1)) dNil))) (dC (.int 8))) (dC (.int 2))))
    (oAsg (tT (tCons' (tN 2) (tCons' (tN 3) (tCons' (tN 4) tNil')))) (dTup (dCons (d2 oAdd (dC (.int 2)) (d2 oMod (dCall F_law_mix (dCons (dV 1) (dCons (dC (.int 0)) dNil))) (dC (.int 4)))) (dCons (dC (.int 41)) (dCons (dC (.int 3)) dNil)))))
    oNx)
    (oSeq (oSet 5 (d2 oAdd (dC (.int 2)) (d2 oMod (dCall F_law_mix (dCons (dV 1) (dCons (dC (.int 2)) dNil))) (dC (.int 2)))))
    (oSeq (oSet 6 (dLst dNil))
    (oSeq (oFor (iA itR1 (dCons (d2 oMod (dCall F_law_mix (dCons (dV 1) (dCons (dC (.int 3)) dNil))) (dV 3)) dNil)) (tN 7)
    (oSeq (oSet 8 (dCall F_law_mix (dCons (dCall F_law_cell_at (dCons (dV 0) (dCons (d2 oAdd (dC (.int 1)) (d2 oMod (dV 7) (dC (.int 10)))) dNil))) (dCons (d2 oAdd (dC (.int 20)) (dV 7)) dNil))))
    (oSeq (oSet 9 (d2 oMod (dV 8) (dV 2)))
    (oSeq (oSet 10 (d2 oMod (d2 oAdd (d2 oAdd (dV 9) (dC (.int 1))) (d2 oMod (d2 oDiv (dV 8) (dC (.int 16))) (dCall oMax (dCons (dC (.int 1)) (dCons (d2 oSub (dV 2) (dC (.int 1))) dNil))))) (dV 2)))
    (oSeq (oSet 11 (dLst dNil))
    (oSeq (oFor (iA itR1 (dCons (dV 5) dNil)) (tN 12)
    (oSeq (oSet 13 (dCall F_law_mix (dCons (dCall F_law_cell_at (dCons (dV 0) (dCons (d2 oAdd (dC (.int 1)) (d2 oMod (dV 7) (dC (.int 10)))) dNil))) (dCons (d2 oAdd (d2 oAdd (dC (.int 60)) (d2 oMul (dC (.int 3)) (dV 7))) (dV 12)) dNil))))
    (oMut 11 mAppend (dCons (dCall F_law_price_v2 (dCons (dV 13) (dCons (dV 4) dNil))) dNil))))
    (oIf (bAnd (dB (d2 oNe (dV 9) (dV 10))) (dB (d2 oLt (dCall oLen (dCons (dV 6) dNil)) (dC (.int 40)))))
    (oMut 6 mAppend (dCons (dTup (dCons (dV 9) (dCons (dV 10) (dCons (oL tupK (kL (dV 11))) dNil)))) dNil))
    oNx)))))))
    (oRet (dTup (dCons (dV 2) (dCons (dV 5) (dCons (dV 6) dNil))))))))))))))
def F_law_web_b : List D → R D := runD 13 (.ok .non) g_law_web_b
def g_covers : Env → Out := (oRet (dCall oAll (dCons (dLc [2] (iA itR1 (dCons (dCall oLen (dCons (dV 0) dNil)) dNil)) (tN 2) bYes (d2 oLe (d2 oIx (dV 0) (dV 2)) (d2 oIx (dV 1) (dV 2)))) dNil)))
def F_covers : List D → R D := runD 1 (.ok .non) g_covers
def g_stair_of : Env → Out := (oSeq (oSet 1 (dLst dNil))
    (oSeq (oFor (iS (oL oSort (kL (dV 0)))) (tN 2)
    (oIf (bNot (dB (dCall oAny (dCons (dLc [3] (kL (dV 1)) (tN 3) bYes (dCall F_covers (dCons (dV 3) (dCons (dV 2) dNil)))) dNil))))
    (oMut 1 mAppend (dCons (dV 2) dNil))
    oNx))
    (oRet (dV 1))))
def F_stair_of : List D → R D := runD 3 .bad g_stair_of
def g_is_stair : Env → Out := (oRet (d2 oEq (dV 0) (dCall F_stair_of (dCons (dV 0) dNil))))
def F_is_stair : List D → R D := runD 0 (.ok .non) g_is_stair
def g_law_covers : Env → Out := (oRet (d2 oEq (dLc [2] (iA itR1 (dCons (dCall oLen (dCons (dV 0) dNil)) dNil)) (tN 2) (dB (d2 oGt (d2 oIx (dV 0) (dV 2)) (d2 oIx (dV 1) (dV 2)))) (dV 2)) (dLst dNil)))
def F_law_covers : List D → R D := runD 1 (.ok .non) g_law_covers
def g_put : Env → Out := (oSeq (oMut 0 mAppend (dCons (dV 1) dNil))
    (oSeq (oSet 2 (d2 oSub (dCall oLen (dCons (dV 0) dNil)) (dC (.int 1))))
    (oWhile fuel (bAnd (dB (d2 oGt (dV 2) (dC (.int 0)))) (dB (d2 oLtG (ixK (kL (dV 0)) (dV 2)) (ixK (kL (dV 0)) (d2 oDiv (d2 oSub (dV 2) (dC (.int 1))) (dC (.int 2)))))))
    (oSeq (oSet 3 (d2 oDiv (d2 oSub (dV 2) (dC (.int 1))) (dC (.int 2))))
    (oSeq (oPut2 0 (dV 2) 0 (dV 3) (dCons (ixK (kL (dV 0)) (dV 3)) (dCons (ixK (kL (dV 0)) (dV 2)) dNil)))
    (oSet 2 (dV 3)))))))
def F_put : List D → List D → RM := runM 2 true g_put
def g_lesser_below : Env → Out := (oSeq (oIf (dB (d2 oGe (d2 oAdd (d2 oMul (dC (.int 2)) (dV 1)) (dC (.int 1))) (dCall oLen (dCons (dV 0) dNil))))
    (oRet (dC .non))
    oNx)
    (oSeq (oIf (bAnd (dB (d2 oLt (d2 oAdd (d2 oMul (dC (.int 2)) (dV 1)) (dC (.int 2))) (dCall oLen (dCons (dV 0) dNil)))) (dB (d2 oLtG (d2 oIx (dV 0) (d2 oAdd (d2 oMul (dC (.int 2)) (dV 1)) (dC (.int 2)))) (d2 oIx (dV 0) (d2 oAdd (d2 oMul (dC (.int 2)) (dV 1)) (dC (.int 1)))))))
    (oRet (d2 oAdd (d2 oMul (dC (.int 2)) (dV 1)) (dC (.int 2))))
    oNx)
    (oRet (d2 oAdd (d2 oMul (dC (.int 2)) (dV 1)) (dC (.int 1))))))
def F_lesser_below : List D → R D := runD 0 (.ok .non) g_lesser_below
def g_taken : Env → Out := (oSeq (oSet 1 (ixK (kL (dV 0)) (dC (.int 0))))
    (oSeq (oPopV 0 2)
    (oSeq (oIf (dB (d2 oNe (dV 0) (dLst dNil)))
    (oSeq (oSetItem 0 (dC (.int 0)) (dV 2))
    (oSeq (oSet 3 (dC (.int 0)))
    (oSeq (oSet 4 (dCallL F_lesser_below (dCons (dV 0) (dCons (dV 3) dNil))))
    (oWhile fuel (bAnd (dB (d2 oIsNot (dV 4) (dC .non))) (dB (d2 oLtG (ixK (kL (dV 0)) (dV 4)) (ixK (kL (dV 0)) (dV 3)))))
    (oSeq (oPut2 0 (dV 3) 0 (dV 4) (dCons (ixK (kL (dV 0)) (dV 4)) (dCons (ixK (kL (dV 0)) (dV 3)) dNil)))
    (oSeq (oSet 3 (dV 4))
    (oSet 4 (dCallL F_lesser_below (dCons (dV 0) (dCons (dV 3) dNil))))))))))
    oNx)
    (oRet (dV 1)))))
def F_taken : List D → List D → RM := runM 4 false g_taken
def g_plus : Env → Out := (oRet (oL tupK (kL (dLc [2] (iA itR1 (dCons (dCall oLen (dCons (dV 0) dNil)) dNil)) (tN 2) bYes (d2 oAdd (d2 oIx (dV 0) (dV 2)) (d2 oIx (dV 1) (dV 2)))))))
def F_plus : List D → R D := runD 1 (.ok .non) g_plus
def g_check_place : Env → Out := (oIf (bOr (dB (d2 oLt (dV 1) (dC (.int 0)))) (dB (d2 oGe (dV 1) (d2 oIx (dV 0) (dC (.int 0))))))
    (oRaise .place)
    oNx)
def F_check_place : List D → R D := runD 0 (.ok .non) g_check_place
def g_marks_of : Env → Out := (oSeq (oDrop (dCall F_check_place (dCons (dV 0) (dCons (dV 1) dNil))))
    (oSeq (oSet 2 (dLc [5] (iA itR1 (dCons (d2 oIx (dV 0) (dC (.int 0))) dNil)) (tN 5) bYes (dLst dNil)))
    (oSeq (oSet 3 (dLst dNil))
    (oSeq (oCallM 3 F_put (dCons (dTup (dCons (d1 oTupOf (dRepL (dC (.int 0)) (d2 oIx (dV 0) (dC (.int 1))))) (dCons (dV 1) (dCons (d1 oNeg (dC (.int 1))) (dCons (d1 oNeg (dC (.int 1))) (dCons (d1 oNeg (dC (.int 1))) dNil)))))) dNil))
    (oSeq (oWhile fuel (dB (d2 oNe (dV 3) (dLst dNil)))
    (oSeq (oAsgM (tT (tCons' (tN 4) (tCons' (tN 5) (tCons' (tN 6) (tCons' (tN 7) (tCons' (tN 8) tNil')))))) 3 F_taken dNil)
    (oIf (bNot (dB (dCall oAny (dCons (dLc [10] (kIxE 2 (dV 5)) (tN 10) bYes (dCall F_covers (dCons (d2 oIx (dV 10) (dC (.int 0))) (dCons (dV 4) dNil)))) dNil))))
    (oSeq (oMutNX 2 (dV 5) mAppend (dCons (dTup (dCons (dV 4) (dCons (dV 6) (dCons (dV 7) (dCons (dV 8) dNil))))) dNil))
    (oSeq (oIf (dB (d2 oGt (dCall oLen (dCons (d2 oIxU (dV 2) (dV 5)) dNil)) (dC (.int 200))))
    (oRaise .many)
    oNx)
    (oFor (iA itE (dCons (d2 oIx (dV 0) (dC (.int 2))) dNil)) (tT (tCons' (tN 9) (tCons' (tT (tCons' (tN 10) (tCons' (tN 11) (tCons' (tN 12) tNil')))) tNil')))
    (oIf (dB (d2 oEq (dV 10) (dV 5)))
    (oCallM 3 F_put (dCons (dTup (dCons (dCall F_plus (dCons (dV 4) (dCons (dV 12) dNil))) (dCons (dV 11) (dCons (dV 5) (dCons (d2 oSub (dCall oLen (dCons (d2 oIxU (dV 2) (dV 5)) dNil)) (dC (.int 1))) (dCons (dV 9) dNil)))))) dNil))
    oNx))))
    oNx)))
    (oRet (dV 2)))))))
def F_marks_of : List D → R D := runD 11 .bad g_marks_of
def g_stairs : Env → Out := (oRet (dLc [2] (iS (dCall F_marks_of (dCons (dV 0) (dCons (dV 1) dNil)))) (tN 2) bYes (dLc [3] (iS (dV 2)) (tN 3) bYes (d2 oIx (dV 3) (dC (.int 0))))))
def F_stairs : List D → R D := runD 2 .bad g_stairs
def g_law_stair_v2 : Env → Out := (oSeq (oSet 1 (dLst dNil))
    (oSeq (oFor (iS (oL oSortSet (kL (dV 0)))) (tN 2)
    (oIf (dB (d2 oEq (dLc [3] (kL (dV 1)) (tN 3) (dB (dCall F_law_covers (dCons (dV 3) (dCons (dV 2) dNil)))) (dV 3)) (dLst dNil)))
    (oMut 1 mAppend (dCons (dV 2) dNil))
    oNx))
    (oRet (dV 1))))
def F_law_stair_v2 : List D → R D := runD 3 .bad g_law_stair_v2
def g_law_plus : Env → Out := (oRet (oL tupK (kL (dLc [2] (iA itR1 (dCons (dCall oLen (dCons (dV 0) dNil)) dNil)) (tN 2) bYes (d2 oAdd (d2 oIx (dV 0) (dV 2)) (d2 oIx (dV 1) (dV 2)))))))
def F_law_plus : List D → R D := runD 1 (.ok .non) g_law_plus
def g_law_stairs : Env → Out := (oSeq (oSet 2 (dLc [8] (iA itR1 (dCons (d2 oIx (dV 0) (dC (.int 0))) dNil)) (tN 8) bYes (dLst dNil)))
    (oSeq (oSetItem 2 (dV 1) (dLst (dCons (d1 oTupOf (dRepL (dC (.int 0)) (d2 oIx (dV 0) (dC (.int 1))))) dNil)))
    (oSeq (oFor (iA itR1 (dCons (d2 oSub (d2 oIx (dV 0) (dC (.int 0))) (dC (.int 1))) dNil)) (tN 3)
    (oSeq (oSet 4 (dLc [9] (kL (dV 2)) (tN 9) bYes (d1 oLstOf (dV 9))))
    (oSeq (oFor (iS (d2 oIx (dV 0) (dC (.int 2)))) (tT (tCons' (tN 5) (tCons' (tN 6) (tCons' (tN 7) tNil'))))
    (oSetItem 4 (dV 6) (d2 oAdd (ixK (kL (dV 4)) (dV 6)) (dLc [10] (iS (ixK (kL (dV 2)) (dV 5))) (tN 10) bYes (dCall F_law_plus (dCons (dV 10) (dCons (dV 7) dNil)))))))
    (oSet 2 (dLc [9] (kL (dV 4)) (tN 9) bYes (dCall F_law_stair_v2 (dCons (dV 9) dNil)))))))
    (oRet (dV 2)))))
def F_law_stairs : List D → R D := runD 9 (.ok .non) g_law_stairs
def g_lowest : Env → Out := (oSeq (oAsg (tT (tCons' (tN 2) (tCons' (tN 3) tNil'))) (dTup (dCons (dV 0) (dCons (dV 1) dNil))))
    (oSeq (oWhile fuel (dB (d2 oGt (dV 3) (dC (.int 0))))
    (oAsg (tT (tCons' (tN 2) (tCons' (tN 3) tNil'))) (dTup (dCons (dV 3) (dCons (d2 oMod (dV 2) (dV 3)) dNil)))))
    (oRet (dTup (dCons (d2 oDiv (dV 0) (dV 2)) (dCons (d2 oDiv (dV 1) (dV 2)) dNil))))))
def F_lowest : List D → R D := runD 2 (.ok .non) g_lowest
def g_is_below : Env → Out := (oSeq (oSet 3 (dTup (dCons (d2 oSub (d2 oIx (dV 1) (dC (.int 0))) (d2 oIx (dV 0) (dC (.int 0)))) (dCons (d2 oSub (d2 oIx (dV 0) (dC (.int 1))) (d2 oIx (dV 1) (dC (.int 1)))) dNil))))
    (oSeq (oSet 4 (dTup (dCons (d2 oSub (d2 oIx (dV 2) (dC (.int 0))) (d2 oIx (dV 1) (dC (.int 0)))) (dCons (d2 oSub (d2 oIx (dV 1) (dC (.int 1))) (d2 oIx (dV 2) (dC (.int 1)))) dNil))))
    (oRet (d2 oGt (d2 oMul (d2 oIx (dV 3) (dC (.int 1))) (d2 oIx (dV 4) (dC (.int 0)))) (d2 oMul (d2 oIx (dV 4) (dC (.int 1))) (d2 oIx (dV 3) (dC (.int 0))))))))
def F_is_below : List D → R D := runD 2 (.ok .non) g_is_below
def g_corners : Env → Out := (oSeq (oIf (dB (d2 oEq (dV 0) (dLst dNil)))
    (oRet (dLst dNil))
    oNx)
    (oSeq (oIf (dB (d2 oNe (dCall oLen (dCons (d2 oIx (dV 0) (dC (.int 0))) dNil)) (dC (.int 2))))
    (oRaise .width)
    oNx)
    (oSeq (oSet 1 (dLst dNil))
    (oSeq (oFor (iS (dV 0)) (tN 2)
    (oSeq (oWhile fuel (bAnd (dB (d2 oGt (dCall oLen (dCons (dV 1) dNil)) (dC (.int 1)))) (bNot (dB (dCall F_is_below (dCons (ixK (kL (dV 1)) (d2 oSub (dCall oLen (dCons (dV 1) dNil)) (dC (.int 2)))) (dCons (ixK (kL (dV 1)) (d2 oSub (dCall oLen (dCons (dV 1) dNil)) (dC (.int 1)))) (dCons (dV 2) dNil)))))))
    (oMut 1 mPop dNil))
    (oMut 1 mAppend (dCons (dV 2) dNil))))
    (oSeq (oSet 3 (dLst (dCons (dTup (dCons (dC (.int 1)) (dCons (dC (.int 1)) dNil))) dNil)))
    (oSeq (oFor (iA itR2 (dCons (dC (.int 1)) (dCons (dCall oLen (dCons (dV 1) dNil)) dNil))) (tN 4)
    (oSeq (oSet 5 (d2 oSub (d2 oIx (ixK (kL (dV 1)) (d2 oSub (dV 4) (dC (.int 1)))) (dC (.int 1))) (d2 oIx (ixK (kL (dV 1)) (dV 4)) (dC (.int 1)))))
    (oMut 3 mAppend (dCons (dCall F_lowest (dCons (dV 5) (dCons (d2 oSub (d2 oAdd (dV 5) (d2 oIx (ixK (kL (dV 1)) (dV 4)) (dC (.int 0)))) (d2 oIx (ixK (kL (dV 1)) (d2 oSub (dV 4) (dC (.int 1)))) (dC (.int 0)))) dNil))) dNil))))
    (oSeq (oMut 3 mAppend (dCons (dTup (dCons (dC (.int 0)) (dCons (dC (.int 1)) dNil))) dNil))
    (oRet (dLc [4, 2] (iA itE (dCons (dV 1) dNil)) (tT (tCons' (tN 4) (tCons' (tN 2) tNil'))) bYes (dTup (dCons (dV 2) (dCons (ixK (kL (dV 3)) (d2 oAdd (dV 4) (dC (.int 1)))) (dCons (ixK (kL (dV 3)) (dV 4)) dNil)))))))))))))
def F_corners : List D → R D := runD 5 .bad g_corners
def g_over : Env → Out := (oSeq (oFor (iS (dTup (dCons (dV 1) (dCons (dV 2) (dCons (dV 3) dNil))))) (tN 4)
    (oDrop (dCall F_check_place (dCons (dV 0) (dCons (dV 4) dNil)))))
    (oSeq (oSet 5 (d2 oIx (dCall F_stairs (dCons (dV 0) (dCons (dV 1) dNil))) (dV 3)))
    (oSeq (oSet 6 (d2 oIx (dCall F_stairs (dCons (dV 0) (dCons (dV 3) dNil))) (dV 2)))
    (oSeq (oSet 7 (dLst dNil))
    (oSeq (oFor (iS (dV 5)) (tN 8)
    (oSet 7 (d2 oAdd (dV 7) (dLc [10] (iS (dV 6)) (tN 10) bYes (dCall F_plus (dCons (dV 8) (dCons (dV 10) dNil)))))))
    (oSeq (oSet 9 (dCall F_stair_of (dCons (dV 7) dNil)))
    (oSeq (oIf (dB (d2 oGt (dCall oLen (dCons (dV 9) dNil)) (dC (.int 200))))
    (oRaise .many)
    oNx)
    (oRet (dV 9)))))))))
def F_over : List D → R D := runD 7 .bad g_over
def g_law_any_stair : Env → Out := (oSeq (oSet 2 (dCall F_law_cell_at (dCons (dV 0) (dCons (dC (.int 0)) dNil))))
    (oSeq (oSet 3 (d2 oIx (dLst (dCons (dC (.int 0)) (dCons (dC (.int 0)) (dCons (d2 oMul (dC (.int 9)) (d2 oPow (dC (.int 10)) (dC (.int 41)))) (dCons (d2 oPow (dC (.int 10)) (dC (.int 38))) dNil))))) (d2 oMod (dCall F_law_mix (dCons (dV 2) (dCons (dC (.int 1)) dNil))) (dC (.int 4)))))
    (oSeq (oSet 4 (d2 oIx (dLst (dCons (dC (.int 4)) (dCons (dC (.int 12)) (dCons (dC (.int 40)) (dCons (dC (.int 1000)) dNil))))) (d2 oMod (dCall F_law_mix (dCons (dV 2) (dCons (dC (.int 2)) dNil))) (dC (.int 4)))))
    (oSeq (oSet 5 (dLst dNil))
    (oSeq (oFor (iA itR1 (dCons (d2 oMod (dCall F_law_mix (dCons (dV 2) (dCons (dC (.int 3)) dNil))) (dC (.int 41))) dNil)) (tN 6)
    (oSeq (oSet 7 (dLst dNil))
    (oSeq (oFor (iA itR1 (dCons (dV 1) dNil)) (tN 8)
    (oSeq (oSet 9 (dCall F_law_mix (dCons (dCall F_law_cell_at (dCons (dV 0) (dCons (d2 oAdd (dC (.int 1)) (d2 oMod (dV 6) (dC (.int 30)))) dNil))) (dCons (d2 oAdd (d2 oMod (d2 oMul (dC (.int 3)) (dV 6)) (dC (.int 60))) (dV 8)) dNil))))
    (oMut 7 mAppend (dCons (d2 oAdd (d2 oMod (dV 9) (dV 4)) (d2 oMul (dV 3) (d2 oMod (d2 oDiv (dV 9) (dC (.int 100000))) (dC (.int 2))))) dNil))))
    (oSeq (oIf (bAnd (dB (d2 oEq (d2 oMod (dCall F_law_mix (dCons (dV 2) (dCons (dC (.int 4)) dNil))) (dC (.int 2))) (dC (.int 1)))) (dB (d2 oEq (dV 1) (dC (.int 2)))))
    (oSetItem 7 (dC (.int 1)) (dCall oMax (dCons (dC (.int 0)) (dCons (d2 oSub (d2 oSub (d2 oAdd (dV 4) (d2 oDiv (dV 4) (dC (.int 2)))) (ixK (kL (dV 7)) (dC (.int 0)))) (d2 oMul (d2 oMod (ixK (kL (dV 7)) (dC (.int 1))) (dC (.int 4))) (d2 oMod (dV 6) (dC (.int 3))))) dNil))))
    oNx)
    (oMut 5 mAppend (dCons (oL tupK (kL (dV 7))) dNil))))))
    (oRet (dCall F_law_stair_v2 (dCons (dV 5) dNil))))))))
def F_law_any_stair : List D → R D := runD 8 .bad g_law_any_stair
def g_law_any_stair_v2 : Env → Out := (oSeq (oSet 2 (dCall F_law_cell_at (dCons (dV 0) (dCons (dC (.int 0)) dNil))))
    (oSeq (oSet 3 (d2 oIx (dLst (dCons (dC (.int 0)) (dCons (dC (.int 0)) (dCons (dC (.int 0)) (dCons (d2 oPow (dC (.int 10)) (dC (.int 38))) dNil))))) (d2 oMod (dCall F_law_mix (dCons (dV 2) (dCons (dC (.int 1)) dNil))) (dC (.int 4)))))
    (oSeq (oSet 4 (d2 oIx (dLst (dCons (dC (.int 4)) (dCons (dC (.int 12)) (dCons (dC (.int 40)) (dCons (dC (.int 1000)) dNil))))) (d2 oMod (dCall F_law_mix (dCons (dV 2) (dCons (dC (.int 2)) dNil))) (dC (.int 4)))))
    (oSeq (oSet 5 (dLst dNil))
    (oSeq (oFor (iA itR1 (dCons (d2 oMod (dCall F_law_mix (dCons (dV 2) (dCons (dC (.int 3)) dNil))) (dC (.int 41))) dNil)) (tN 6)
    (oSeq (oSet 7 (dLst dNil))
    (oSeq (oFor (iA itR1 (dCons (dV 1) dNil)) (tN 8)
    (oSeq (oSet 9 (dCall F_law_mix (dCons (dCall F_law_cell_at (dCons (dV 0) (dCons (d2 oAdd (dC (.int 1)) (d2 oMod (dV 6) (dC (.int 30)))) dNil))) (dCons (d2 oAdd (d2 oMod (d2 oMul (dC (.int 3)) (dV 6)) (dC (.int 60))) (dV 8)) dNil))))
    (oMut 7 mAppend (dCons (d2 oAdd (d2 oMod (dV 9) (dV 4)) (d2 oMul (dV 3) (d2 oMod (d2 oDiv (dV 9) (dC (.int 100000))) (dC (.int 2))))) dNil))))
    (oSeq (oIf (bAnd (dB (d2 oEq (d2 oMod (dCall F_law_mix (dCons (dV 2) (dCons (dC (.int 4)) dNil))) (dC (.int 2))) (dC (.int 1)))) (dB (d2 oEq (dV 1) (dC (.int 2)))))
    (oSetItem 7 (dC (.int 1)) (dCall oMax (dCons (dC (.int 0)) (dCons (d2 oSub (d2 oSub (d2 oAdd (dV 4) (d2 oDiv (dV 4) (dC (.int 2)))) (ixK (kL (dV 7)) (dC (.int 0)))) (d2 oMul (d2 oMod (ixK (kL (dV 7)) (dC (.int 1))) (dC (.int 4))) (d2 oMod (dV 6) (dC (.int 3))))) dNil))))
    oNx)
    (oMut 5 mAppend (dCons (oL tupK (kL (dV 7))) dNil))))))
    (oRet (dCall F_law_stair_v2 (dCons (dV 5) dNil))))))))
def F_law_any_stair_v2 : List D → R D := runD 8 .bad g_law_any_stair_v2
def g_covers_within : Env → Out := (oSeq (oAsg (tT (tCons' (tN 3) (tCons' (tN 4) tNil'))) (dV 2))
    (oRet (dCall oAll (dCons (dLc [5] (iA itR1 (dCons (dCall oLen (dCons (dV 0) dNil)) dNil)) (tN 5) bYes (d2 oLe (d2 oMul (d2 oIx (dV 0) (dV 5)) (dV 4)) (d2 oMul (d2 oIx (dV 1) (dV 5)) (d2 oAdd (dV 3) (dV 4))))) dNil))))
def F_covers_within : List D → R D := runD 3 (.ok .non) g_covers_within
def g_is_picked : Env → Out := (oSeq (oIf (bNot (dB (dCall oAll (dCons (dLc [3] (iS (dV 1)) (tN 3) bYes (d2 (oIn false) (dV 3) (dV 0))) dNil))))
    (oRet (dC (.bl false)))
    oNx)
    (oRet (dCall oAll (dCons (dLc [2] (iA itR2 (dCons (dC (.int 1)) (dCons (dCall oLen (dCons (dV 1) dNil)) dNil))) (tN 2) bYes (d2 oLtG (d2 oIx (dV 1) (d2 oSub (dV 2) (dC (.int 1)))) (d2 oIx (dV 1) (dV 2)))) dNil))))
def F_is_picked : List D → R D := runD 2 (.ok .non) g_is_picked
def g_is_cover : Env → Out := (oSeq (oIf (bNot (dB (dCall F_is_picked (dCons (dV 0) (dCons (dV 1) dNil)))))
    (oRet (dC (.bl false)))
    oNx)
    (oRet (dCall oAll (dCons (dLc [3] (iS (dV 0)) (tN 3) bYes (dCall oAny (dCons (dLc [4] (iS (dV 1)) (tN 4) bYes (dCall F_covers_within (dCons (dV 4) (dCons (dV 3) (dCons (dV 2) dNil))))) dNil))) dNil))))
def F_is_cover : List D → R D := runD 2 (.ok .non) g_is_cover
def g_are_apart : Env → Out := (oSeq (oIf (bNot (dB (dCall F_is_picked (dCons (dV 0) (dCons (dV 1) dNil)))))
    (oRet (dC (.bl false)))
    oNx)
    (oSeq (oFor (iS (dV 0)) (tN 3)
    (oIf (dB (d2 oGt (dCall oLen (dCons (dLc [4] (iS (dV 1)) (tN 4) (dB (dCall F_covers_within (dCons (dV 3) (dCons (dV 4) (dCons (dV 2) dNil))))) (dV 4)) dNil)) (dC (.int 1))))
    (oRet (dC (.bl false)))
    oNx))
    (oRet (dC (.bl true)))))
def F_are_apart : List D → R D := runD 2 (.ok .non) g_are_apart
def g_law_near : Env → Out := (oSeq (oFor (iA itR1 (dCons (dCall oLen (dCons (dV 0) dNil)) dNil)) (tN 3)
    (oIf (dB (d2 oGt (d2 oMul (d2 oIx (dV 0) (dV 3)) (d2 oIx (dV 2) (dC (.int 1)))) (d2 oMul (d2 oIx (dV 1) (dV 3)) (d2 oAdd (d2 oIx (dV 2) (dC (.int 0))) (d2 oIx (dV 2) (dC (.int 1)))))))
    (oRet (dC (.bl false)))
    oNx))
    (oRet (dC (.bl true))))
def F_law_near : List D → R D := runD 1 (.ok .non) g_law_near
def g_law_is_cover : Env → Out := (oSeq (oIf (bOr (dB (d2 oNe (dLc [3] (iS (dV 1)) (tN 3) (dB (d2 (oIn true) (dV 3) (dV 0))) (dV 3)) (dLst dNil))) (dB (d2 oNe (dV 1) (oL oSortSet (kL (dV 1))))))
    (oRet (dC (.bl false)))
    oNx)
    (oSeq (oFor (iS (dV 0)) (tN 3)
    (oIf (dB (d2 oEq (dLc [4] (iS (dV 1)) (tN 4) (dB (dCall F_law_near (dCons (dV 4) (dCons (dV 3) (dCons (dV 2) dNil))))) (dV 4)) (dLst dNil)))
    (oRet (dC (.bl false)))
    oNx))
    (oRet (dC (.bl true)))))
def F_law_is_cover : List D → R D := runD 2 (.ok .non) g_law_is_cover
def g_law_are_apart : Env → Out := (oSeq (oIf (bOr (dB (d2 oNe (dLc [4] (iS (dV 1)) (tN 4) (dB (d2 (oIn true) (dV 4) (dV 0))) (dV 4)) (dLst dNil))) (dB (d2 oNe (dV 1) (oL oSortSet (kL (dV 1))))))
    (oRet (dC (.bl false)))
    oNx)
    (oSeq (oFor (iS (dV 0)) (tN 3)
    (oIf (dB (d2 oGt (dCall oLen (dCons (dLc [4] (iS (dV 1)) (tN 4) (dB (dCall F_law_near (dCons (dV 3) (dCons (dV 4) (dCons (dV 2) dNil))))) (dV 4)) dNil)) (dC (.int 1))))
    (oRet (dC (.bl false)))
    oNx))
    (oRet (dC (.bl true)))))
def F_law_are_apart : List D → R D := runD 2 (.ok .non) g_law_are_apart
def g_law_told_v4 : Env → Out := (oSeq (oSet 4 (dC .non))
    (oSeq (oSet 5 (dFlat (dC .non)))
    (oSeq (oTry [5] 6 4
    (oSet 5 (dCall F_over (dCons (dV 0) (dCons (dV 1) (dCons (dV 2) (dCons (dV 3) dNil)))))))
    (oSeq (oIf (dB (d2 oIsNot (dV 4) (dC .non)))
    (oRet (dFlat (dCall F_law_kept (dCons (dV 4) dNil))))
    oNx)
    (oRet (dV 5))))))
def F_law_told_v4 : List D → R D := runD 3 .bad g_law_told_v4
def g_law_due : Env → Out := (oSeq (oFor (iS (dLst (dCons (dV 1) (dCons (dV 2) (dCons (dV 3) dNil))))) (tN 4)
    (oIf (bNot (dB (dChain oLe oLt (dC (.int 0)) (dV 4) (d2 oIx (dV 0) (dC (.int 0))))))
    (oRet (dC (.str (PySem.Str.ofString "place"))))
    oNx))
    (oSeq (oSet 5 (dCall F_law_stairs (dCons (dV 0) (dCons (dV 1) dNil))))
    (oSeq (oSet 6 (dCall F_law_stairs (dCons (dV 0) (dCons (dV 3) dNil))))
    (oSeq (oIf (dB (d2 oGt (dCall oMax (dCons (dLc [10] (iS (d2 oAdd (dV 5) (dV 6))) (tN 10) bYes (dCall oLen (dCons (dV 10) dNil))) dNil)) (dC (.int 200))))
    (oRet (dC (.str (PySem.Str.ofString "many"))))
    oNx)
    (oSeq (oIf (dB (d2 oGt (d2 oMul (dCall oLen (dCons (d2 oIx (dV 5) (dV 3)) dNil)) (dCall oLen (dCons (d2 oIx (dV 6) (dV 2)) dNil))) (dC (.int 900))))
    (oRet (dC (.str (PySem.Str.ofString "long"))))
    oNx)
    (oSeq (oSet 7 (dLst dNil))
    (oSeq (oFor (iS (d2 oIx (dV 5) (dV 3))) (tN 8)
    (oSet 7 (d2 oAdd (dV 7) (dLc [11] (iS (d2 oIx (dV 6) (dV 2))) (tN 11) bYes (dCall F_law_plus (dCons (dV 8) (dCons (dV 11) dNil)))))))
    (oSeq (oSet 9 (dCall F_law_stair_v2 (dCons (dV 7) dNil)))
    (oSeq (oIf (dB (d2 oGt (dCall oLen (dCons (dV 9) dNil)) (dC (.int 200))))
    (oRet (dC (.str (PySem.Str.ofString "many"))))
    oNx)
    (oRet (dV 9)))))))))))
def F_law_due : List D → R D := runD 8 (.ok .non) g_law_due
def g_law_k41 : Env → Out := (oSeq (oSet 0 (dCall F_law_cut (dCons (dV 0) dNil)))
    (oSeq (oSet 1 (dCall F_law_web_b (dCons (dV 0) dNil)))
    (oSeq (oSet 2 (dCall F_law_mix (dCons (dCall F_law_cell_at (dCons (dV 0) (dCons (dC (.int 0)) dNil))) (dCons (dC (.int 6)) dNil))))
    (oSeq (oSet 3 (dLst (dCons (d2 oMod (dV 2) (d2 oIx (dV 1) (dC (.int 0)))) (dCons (d2 oMod (d2 oDiv (dV 2) (dC (.int 16))) (d2 oIx (dV 1) (dC (.int 0)))) (dCons (d2 oMod (d2 oDiv (dV 2) (dC (.int 256))) (d2 oIx (dV 1) (dC (.int 0)))) dNil)))))
    (oSeq (oIf (dB (d2 oEq (d2 oMod (d2 oDiv (dV 2) (dC (.int 4096))) (dC (.int 8))) (dC (.int 1))))
    (oSetItem 3 (d2 oMod (d2 oDiv (dV 2) (dC (.int 32768))) (dC (.int 3))) (d2 oIx (dLst (dCons (d1 oNeg (dC (.int 1))) (dCons (d2 oIx (dV 1) (dC (.int 0))) (dCons (d2 oPow (dC (.int 10)) (dC (.int 39))) dNil)))) (d2 oMod (d2 oDiv (dV 2) (dC (.int 98304))) (dC (.int 3)))))
    oNx)
    (oSeq (oSet 4 (dTup (dCons (d2 oIx (dV 1) (dC (.int 0))) (dCons (d2 oIx (dV 1) (dC (.int 1))) (dCons (d1 oLstOf (d2 oIx (dV 1) (dC (.int 2)))) dNil)))))
    (oSeq (oSet 5 (dCall F_law_due (dCons (dV 1) (dCons (ixK (kL (dV 3)) (dC (.int 0))) (dCons (ixK (kL (dV 3)) (dC (.int 1))) (dCons (ixK (kL (dV 3)) (dC (.int 2))) dNil))))))
    (oSeq (oIf (dB (d2 oEq (dV 5) (dC (.str (PySem.Str.ofString "long")))))
    (oRet (dC (.bl true)))
    oNx)
    (oSeq (oFor (iA itR1 (dCons (dC (.int 2)) dNil)) (tN 6)
    (oSeq (oSet 7 (dCall F_law_told_v4 (dCons (dV 4) (dCons (ixK (kL (dV 3)) (dC (.int 0))) (dCons (ixK (kL (dV 3)) (dC (.int 1))) (dCons (ixK (kL (dV 3)) (dC (.int 2))) dNil))))))
    (oSeq (oIf (bOr (dB (d2 oNe (dV 7) (dV 5))) (dB (d2 oNe (dV 4) (dV 1))))
    (oRet (dC (.bl false)))
    oNx)
    (oIf (dB (d1 (oIsi .list) (dV 7)))
    (oMut 7 mAppend (dCons (dC (.int 0)) dNil))
    oNx))))
    (oRet (dC (.bl true))))))))))))
def F_law_k41 : List D → R D := runD 7 (.ok .non) g_law_k41
def g_sure : Env → Out := (oIf (bNot (dB (dV 0)))
    (oRaise .text)
    oNx)
def F_sure : List D → R D := runD 0 (.ok .non) g_sure
def g_count_in : Env → Out := (oSeq (oDrop (dCall F_sure (dCons (dChain oLt oLe (dC (.int 0)) (dCall oLen (dCons (dV 0) dNil)) (dC (.int 40))) dNil)))
    (oSeq (oFor (iStrs (dV 0)) (tN 1)
    (oDrop (dCall F_sure (dCons (d2 (oInS false) (dV 1) (dC (.str (PySem.Str.ofString "0123456789")))) dNil))))
    (oSeq (oDrop (dCall F_sure (dCons (vOr (d2 oNe (d2 oIx (dV 0) (dC (.int 0))) (dC (.str (PySem.Str.ofString "0")))) (d2 oEq (dV 0) (dC (.str (PySem.Str.ofString "0"))))) dNil)))
    (oRet (dCall oInt (dCons (dV 0) dNil))))))
def F_count_in : List D → R D := runD 1 (.ok .non) g_count_in
def g_number_in : Env → Out := (oSeq (oIf (dB (d2 oNe (slA (dV 0) pNo (pSo (dC (.int 1)))) (dC (.str (PySem.Str.ofString "-")))))
    (oRet (dCall F_count_in (dCons (dV 0) dNil)))
    oNx)
    (oSeq (oDrop (dCall F_sure (dCons (d2 oNe (dV 0) (dC (.str (PySem.Str.ofString "-0")))) dNil)))
    (oRet (d2 oSub (dC (.int 0)) (dCall F_count_in (dCons (slA (dV 0) (pSo (dC (.int 1))) pNo) dNil))))))
def F_number_in : List D → R D := runD 0 (.ok .non) g_number_in
def g_show_web : Env → Out := (oSeq (oAsg (tT (tCons' (tN 1) (tCons' (tN 2) (tCons' (tN 3) tNil')))) (dV 0))
    (oSeq (oSet 4 (dLst (dCons (d2 oAdd (d2 oAdd (d2 oAdd (dC (.str (PySem.Str.ofString "places "))) (dCall oStr (dCons (dV 1) dNil))) (dC (.str (PySem.Str.ofString " prices ")))) (dCall oStr (dCons (dV 2) dNil))) dNil)))
    (oSeq (oFor (iS (dV 3)) (tT (tCons' (tN 5) (tCons' (tN 6) (tCons' (tN 7) tNil'))))
    (oMut 4 mAppend (dCons (dJoin (dC (.str (PySem.Str.ofString " "))) (d2 oAdd (dLst (dCons (dC (.str (PySem.Str.ofString "step"))) (dCons (dCall oStr (dCons (dV 5) dNil)) (dCons (dCall oStr (dCons (dV 6) dNil)) dNil)))) (dLc [8] (iS (dV 7)) (tN 8) bYes (dCall oStr (dCons (dV 8) dNil))))) dNil)))
    (oRet (dJoin (dC (.str (PySem.Str.ofString "\n"))) (dV 4))))))
def F_show_web : List D → R D := runD 8 (.ok .non) g_show_web
def g_read_web : Env → Out := (oSeq (oSet 1 (dLc [7] (iS (dSplit (dV 0) (dC (.str (PySem.Str.ofString "\n"))))) (tN 7) bYes (dSplit (dV 7) (dC (.str (PySem.Str.ofString " "))))))
    (oSeq (oDrop (dCall F_sure (dCons (vAnd (d2 oEq (dCall oLen (dCons (d2 oIx (dV 1) (dC (.int 0))) dNil)) (dC (.int 4))) (vAnd (d2 oEq (d2 oIx (d2 oIx (dV 1) (dC (.int 0))) (dC (.int 0))) (dC (.str (PySem.Str.ofString "places")))) (d2 oEq (d2 oIx (d2 oIx (dV 1) (dC (.int 0))) (dC (.int 2))) (dC (.str (PySem.Str.ofString "prices")))))) dNil)))
    (oSeq (oSet 2 (dCall F_number_in (dCons (d2 oIx (d2 oIx (dV 1) (dC (.int 0))) (dC (.int 1))) dNil)))
    (oSeq (oSet 3 (dCall F_number_in (dCons (d2 oIx (d2 oIx (dV 1) (dC (.int 0))) (dC (.int 3))) dNil)))
    (oSeq (oSet 4 (dLst dNil))
    (oSeq (oFor (iS (slA (dV 1) (pSo (dC (.int 1))) pNo)) (tN 5)
    (oSeq (oDrop (dCall F_sure (dCons (vAnd (d2 oEq (d2 oIx (dV 5) (dC (.int 0))) (dC (.str (PySem.Str.ofString "step")))) (vAnd (d2 oGe (dV 3) (dC (.int 0))) (d2 oEq (dCall oLen (dCons (dV 5) dNil)) (d2 oAdd (dC (.int 3)) (dV 3))))) dNil)))
    (oSeq (oSet 6 (dLc [8] (iS (slA (dV 5) (pSo (dC (.int 1))) pNo)) (tN 8) bYes (dCall F_number_in (dCons (dV 8) dNil))))
    (oMut 4 mAppend (dCons (dTup (dCons (d2 oIx (dV 6) (dC (.int 0))) (dCons (d2 oIx (dV 6) (dC (.int 1))) (dCons (d1 oTupOf (slA (dV 6) (pSo (dC (.int 2))) pNo)) dNil)))) dNil)))))
    (oSeq (oDrop (dCallL F_check_web (dCons (dTup (dCons (dV 2) (dCons (dV 3) (dCons (dV 4) dNil)))) dNil)))
    (oRet (dTup (dCons (dV 2) (dCons (dV 3) (dCons (dV 4) dNil))))))))))))
def F_read_web : List D → R D := runD 8 .bad g_read_web
def g_law_whole : Env → Out := (oRet (vAnd (d1 (oIsi .int) (dV 0)) (vNot (d1 (oIsi .bool) (dV 0)))))
def F_law_whole : List D → R D := runD 0 (.ok .non) g_law_whole
def g_law_web_text : Env → Out := (oSeq (oSet 1 (d2 oAdd (d2 oAdd (d2 oAdd (dC (.str (PySem.Str.ofString "places "))) (dCall oStr (dCons (d2 oIx (dV 0) (dC (.int 0))) dNil))) (dC (.str (PySem.Str.ofString " prices ")))) (dCall oStr (dCons (d2 oIx (dV 0) (dC (.int 1))) dNil))))
    (oSeq (oFor (iS (d2 oIx (dV 0) (dC (.int 2)))) (tT (tCons' (tN 2) (tCons' (tN 3) (tCons' (tN 4) tNil'))))
    (oSet 1 (d2 oAdd (d2 oAdd (dV 1) (dC (.str (PySem.Str.ofString "\nstep ")))) (dJoin (dC (.str (PySem.Str.ofString " "))) (dLc [5] (iS (d2 oAdd (dTup (dCons (dV 2) (dCons (dV 3) dNil))) (dV 4))) (tN 5) bYes (dCall oStr (dCons (dV 5) dNil)))))))
    (oRet (dV 1))))
def F_law_web_text : List D → R D := runD 5 (.ok .non) g_law_web_text
def g_law_same : Env → Out := (oSeq (oIf (bOr (bNot (dB (d1 (oIsi .tuple) (dV 0)))) (bOr (dB (d2 oNe (dCall oLen (dCons (dV 0) dNil)) (dC (.int 3)))) (bOr (dB (d2 oNe (dV 0) (dV 1))) (bNot (dB (d1 (oIsi .list) (d2 oIx (dV 0) (dC (.int 2)))))))))
    (oRet (dC (.bl false)))
    oNx)
    (oSeq (oFor (iS (d2 oIx (dV 0) (dC (.int 2)))) (tT (tCons' (tN 2) (tCons' (tN 3) (tCons' (tN 4) tNil'))))
    (oSeq (oSet 5 (d2 oAdd (dLst (dCons (dV 2) (dCons (dV 3) (dCons (d2 oIx (dV 0) (dC (.int 0))) (dCons (d2 oIx (dV 0) (dC (.int 1))) dNil))))) (d1 oLstOf (dV 4))))
    (oIf (bOr (bNot (dB (d1 (oIsi .tuple) (dV 4)))) (dB (d2 oGt (dCall oLen (dCons (dLc [6] (iS (dV 5)) (tN 6) (bNot (dB (dCall F_law_whole (dCons (dV 6) dNil)))) (dV 6)) dNil)) (dC (.int 0)))))
    (oRet (dC (.bl false)))
    oNx)))
    (oRet (vAnd (dCall F_law_whole (dCons (d2 oIx (dV 0) (dC (.int 0))) dNil)) (dCall F_law_whole (dCons (d2 oIx (dV 0) (dC (.int 1))) dNil))))))
def F_law_same : List D → R D := runD 5 (.ok .non) g_law_same
def g_law_good : Env → Out := (oSeq (oSet 1 (dTup (dCons (d2 oIx (dV 0) (dC (.int 0))) (dCons (d2 oIx (dV 0) (dC (.int 1))) (dCons (d1 oLstOf (d2 oIx (dV 0) (dC (.int 2)))) dNil)))))
    (oSeq (oSet 2 (dCall F_law_web_text (dCons (dV 0) dNil)))
    (oSeq (oSet 3 (dCall F_show_web (dCons (dV 1) dNil)))
    (oSeq (oIf (bOr (bNot (dB (d1 (oIsi .str) (dV 3)))) (bOr (dB (d2 oNe (dV 3) (dV 2))) (dB (d2 oNe (dV 1) (dV 0)))))
    (oRet (dC (.bl false)))
    oNx)
    (oSeq (oFor (iA itR1 (dCons (dC (.int 2)) dNil)) (tN 4)
    (oSeq (oSet 5 (dCall F_read_web (dCons (dV 2) dNil)))
    (oSeq (oIf (bNot (dB (dCallL F_law_same (dCons (dV 5) (dCons (dV 0) dNil)))))
    (oRet (dC (.bl false)))
    oNx)
    (oMutK 5 2 mAppend (dCons (dTup (dCons (dC (.int 0)) (dCons (dC (.int 0)) (dCons (dTup dNil) dNil)))) dNil)))))
    (oRet (dC (.bl true))))))))
def F_law_good : List D → R D := runD 5 (.ok .non) g_law_good
def g_row_shown : Env → Out := (oRet (dJoin (dC (.str (PySem.Str.ofString "/"))) (dLc [1] (iS (dV 0)) (tN 1) bYes (dCall oStr (dCons (dV 1) dNil)))))
def F_row_shown : List D → R D := runD 1 (.ok .non) g_row_shown
def g_row_in : Env → Out := (oSeq (oSet 1 (dSplit (dV 0) (dC (.str (PySem.Str.ofString "/")))))
    (oSeq (oDrop (dCall F_sure (dCons (vOr (d2 oEq (dCall oLen (dCons (dV 1) dNil)) (dC (.int 2))) (d2 oEq (dCall oLen (dCons (dV 1) dNil)) (dC (.int 3)))) dNil)))
    (oRet (oL tupK (kL (dLc [2] (iS (dV 1)) (tN 2) bYes (dCall F_number_in (dCons (dV 2) dNil))))))))
def F_row_in : List D → R D := runD 2 (.ok .non) g_row_in
def g_show_stair : Env → Out := (oSeq (oIf (dB (d2 oEq (dV 0) (dLst dNil)))
    (oRet (dC (.str (PySem.Str.ofString "-"))))
    oNx)
    (oRet (dJoin (dC (.str (PySem.Str.ofString " "))) (dLc [1] (iS (dV 0)) (tN 1) bYes (dCall F_row_shown (dCons (dV 1) dNil))))))
def F_show_stair : List D → R D := runD 1 (.ok .non) g_show_stair
def g_read_stair : Env → Out := (oSeq (oIf (dB (d2 oEq (dV 0) (dC (.str (PySem.Str.ofString "-")))))
    (oRet (dLst dNil))
    oNx)
    (oSeq (oSet 1 (dLc [3] (iS (dSplit (dV 0) (dC (.str (PySem.Str.ofString " "))))) (tN 3) bYes (dCall F_row_in (dCons (dV 3) dNil))))
    (oSeq (oForP 1 (tN 2)
    (oDrop (dCall F_sure (dCons (d2 oEq (dCall oLen (dCons (dV 2) dNil)) (dCall oLen (dCons (ixK (kL (dV 1)) (dC (.int 0))) dNil))) dNil))))
    (oSeq (oDrop (dCall F_sure (dCons (dCallL F_is_stair (dCons (dV 1) dNil)) dNil)))
    (oRet (dV 1))))))
def F_read_stair : List D → R D := runD 3 .bad g_read_stair
def g_show_way : Env → Out := (oSeq (oIf (dB (d2 oEq (dV 0) (dLst dNil)))
    (oRet (dC (.str (PySem.Str.ofString "-"))))
    oNx)
    (oRet (dJoin (dC (.str (PySem.Str.ofString " "))) (dLc [1] (iS (dV 0)) (tN 1) bYes (dCall oStr (dCons (dV 1) dNil))))))
def F_show_way : List D → R D := runD 1 (.ok .non) g_show_way
def g_read_way : Env → Out := (oSeq (oIf (dB (d2 oEq (dV 0) (dC (.str (PySem.Str.ofString "-")))))
    (oRet (dLst dNil))
    oNx)
    (oRet (dLc [1] (iS (dSplit (dV 0) (dC (.str (PySem.Str.ofString " "))))) (tN 1) bYes (dCall F_count_in (dCons (dV 1) dNil)))))
def F_read_way : List D → R D := runD 1 .bad g_read_way
def g_law_row_text : Env → Out := (oRet (dJoin (dC (.str (PySem.Str.ofString "/"))) (dLc [1] (iS (dV 0)) (tN 1) bYes (dCall oStr (dCons (dV 1) dNil)))))
def F_law_row_text : List D → R D := runD 1 (.ok .non) g_law_row_text
def g_law_stair_text : Env → Out := (oRet (d2 oAdd (dJoin (dC (.str (PySem.Str.ofString " "))) (dLc [1] (iS (dV 0)) (tN 1) bYes (dCall F_law_row_text (dCons (dV 1) dNil)))) (d2 oMulS (dC (.str (PySem.Str.ofString "-"))) (dCall oInt (dCons (d2 oEq (dV 0) (dLst dNil)) dNil)))))
def F_law_stair_text : List D → R D := runD 1 (.ok .non) g_law_stair_text
def g_law_way_text : Env → Out := (oRet (d2 oAdd (dJoin (dC (.str (PySem.Str.ofString " "))) (dLc [1] (iS (dV 0)) (tN 1) bYes (dCall oStr (dCons (dV 1) dNil)))) (d2 oMulS (dC (.str (PySem.Str.ofString "-"))) (dCall oInt (dCons (d2 oEq (dV 0) (dLst dNil)) dNil)))))
def F_law_way_text : List D → R D := runD 1 (.ok .non) g_law_way_text
end DL

set_option Elab.async false
set_option linter.all false
set_option maxRecDepth 100000
set_option maxHeartbeats 4000000
set_option autoImplicit false
/-! PL1: reading the meanings. -/
namespace DL
open PySem
def Out.wp (o : Out) (N : Env → Prop) (T : D → Env → Prop) (X : Ex → Env → Prop) : Prop := match o with
  | .nx ρ => N ρ
  | .rt d ρ => T d ρ
  | .xc e ρ => X e ρ
  | .bad => False
section
variable {α : Type} {o : Out} {N : Env → Prop} {T : D → Env → Prop} {X : Ex → Env → Prop} {ρ : Env} {d : D} {e : Ex} {f f' f2 : Env → R D} {g h : Env → Out}
@[simp] theorem wp_nx : (Out.nx ρ).wp N T X = N ρ := rfl
@[simp] theorem wp_rt : (Out.rt d ρ).wp N T X = T d ρ := rfl
@[simp] theorem wp_xc : (Out.xc e ρ).wp N T X = X e ρ := rfl
@[simp] theorem wp_bad : (Out.bad).wp N T X = False := rfl
@[simp] theorem wp_seq {k : Env → Out} : (o.seq k).wp N T X = o.wp (fun ρ => (k ρ).wp N T X) T X := by cases o <;> rfl
@[simp] theorem wp_then {x : R α} {k : α → Out} : (x.then ρ k).wp N T X = Sat x (fun a => (k a).wp N T X) (fun e => X e ρ) := by cases x <;> rfl
/-- through a middle -/
theorem wp_mid (I : Env → Prop) (h : o.wp I T X) (k : ∀ ρ, I ρ → N ρ) : o.wp N T X := by
  cases o with
  | nx ρ => exact k ρ h
  | rt d => exact h
  | xc e ρ => exact h
  | bad => exact h
@[simp] theorem ite_ok {c : Prop} [Decidable c] {a b : α} : (if c then R.ok a else R.ok b) = R.ok (if c then a else b) := by split <;> rfl
@[simp] theorem oNx_eq : oNx ρ = .nx ρ := rfl
@[simp] theorem oSeq_wp : (oSeq g h ρ).wp N T X = (g ρ).wp (fun ρ => (h ρ).wp N T X) T X := wp_seq
@[simp] theorem oRet_eq : oRet f ρ = (f ρ).then ρ fun d => .rt d ρ := rfl
@[simp] theorem oRetN_eq : oRetN ρ = .rt .non ρ := rfl
@[simp] theorem oSet_eq {i : Nat} : oSet i f ρ = (f ρ).then ρ fun d => .nx (ρ.set i (some d)) := rfl
@[simp] theorem oIf_eq {c : Env → R Bool} : oIf c g h ρ = (c ρ).then ρ fun b => if b = true then g ρ else h ρ := rfl
@[simp] theorem oFor_eq {fi : Env → R (List D)} {hh : D → Env → R Env} : oFor fi hh g ρ = (fi ρ).then ρ fun ds => loop hh g ds ρ := rfl
@[simp] theorem thn_ok {a : α} {k : α → Out} : (R.ok a).then ρ k = k a := rfl
@[simp] theorem thn_bad {k : α → Out} : (R.bad).then ρ k = .bad := rfl
@[simp] theorem dV_z {d : D} : dV 0 (some d :: ρ) = .ok d := rfl
@[simp] theorem dV_s {n : Nat} {x : Option D} : dV (n + 1) (x :: ρ) = dV n ρ := rfl
@[simp] theorem dC_eq : dC d ρ = .ok d := rfl
@[simp] theorem d2_eq {o : D → D → R D} : d2 o f f' ρ = (f ρ).bind fun x => (f' ρ).bind fun y => o x y := rfl
@[simp] theorem d1_eq {o : D → R D} : d1 o f ρ = (f ρ).bind o := rfl
@[simp] theorem dCall_eq {F : List D → R D} {fs : Env → R (List D)} : dCall F fs ρ = (fs ρ).bind F := rfl
@[simp] theorem dNil_eq : dNil ρ = .ok [] := rfl
@[simp] theorem dCons_eq {fs : Env → R (List D)} : dCons f fs ρ = (f ρ).bind fun d => (fs ρ).bind fun ds => .ok (d :: ds) := rfl
@[simp] theorem dTup_eq {fs : Env → R (List D)} : dTup fs ρ = (fs ρ).bind fun ds => .ok (.tup ds) := rfl
@[simp] theorem dLst_eq {fs : Env → R (List D)} : dLst fs ρ = (fs ρ).bind fun ds => .ok (.lst ds) := rfl
@[simp] theorem dB_eq : dB f ρ = (f ρ).bind asB := rfl
@[simp] theorem asB_bl {b : Bool} : asB (.bl b) = .ok b := rfl
@[simp] theorem bAnd_eq {f g : Env → R Bool} : bAnd f g ρ = (f ρ).bind fun b => if b = true then g ρ else .ok false := rfl
@[simp] theorem bOr_eq {f g : Env → R Bool} : bOr f g ρ = (f ρ).bind fun b => if b = true then .ok true else g ρ := rfl
@[simp] theorem bNot_eq {f : Env → R Bool} : bNot f ρ = (f ρ).bind fun b => .ok (!b) := rfl
@[simp] theorem bYes_eq : bYes ρ = .ok true := rfl
@[simp] theorem vAnd_eq : vAnd f f' ρ = (f ρ).bind fun x => (asB x).bind fun b => if b = true then f' ρ else .ok (.bl false) := rfl
@[simp] theorem vOr_eq : vOr f f' ρ = (f ρ).bind fun x => (asB x).bind fun b => if b = true then .ok (.bl true) else f' ρ := rfl
@[simp] theorem vNot_eq : vNot f ρ = (f ρ).bind fun x => (asB x).bind fun b => .ok (.bl (!b)) := rfl
@[simp] theorem iA_eq {o : List D → R (List D)} {fs : Env → R (List D)} : iA o fs ρ = (fs ρ).bind o := rfl
@[simp] theorem iS_eq : iS f ρ = (f ρ).bind itS := rfl
@[simp] theorem kL_eq : kL f ρ = (f ρ).bind isL := rfl
@[simp] theorem oL_eq {o : List D → R D} {fs : Env → R (List D)} : oL o fs ρ = (fs ρ).bind o := rfl
@[simp] theorem ixK_eq {fs : Env → R (List D)} : ixK fs f ρ = (fs ρ).bind fun ds => (f ρ).bind fun k => match k with | .int k => getI ds k | _ => .bad := rfl
@[simp] theorem tN_eq {i : Nat} : tN i d ρ = .ok (ρ.set i (some d)) := rfl
@[simp] theorem tT_eq {k : List D → Env → R Env} {ds : List D} : tT k (.tup ds) ρ = k ds ρ := rfl
@[simp] theorem tC_eq {hh : D → Env → R Env} {k : List D → Env → R Env} {ds : List D} : tCons' hh k (d :: ds) ρ = (hh d ρ).bind (k ds) := rfl
@[simp] theorem tNil_eq : tNil' [] ρ = .ok ρ := rfl
@[simp] theorem itS_l {ds : List D} : itS (.lst ds) = .ok ds := rfl
@[simp] theorem itS_t {ds : List D} : itS (.tup ds) = .ok ds := rfl
@[simp] theorem isL_l {ds : List D} : isL (.lst ds) = .ok ds := rfl
@[simp] theorem oAsg_eq {hh : D → Env → R Env} : oAsg hh f ρ = (f ρ).then ρ fun d => outOf (hh d ρ) := rfl
@[simp] theorem outOf_ok : outOf (.ok ρ) = .nx ρ := rfl
@[simp] theorem oMut_eq {i : Nat} {op : List D → List D → R (List D)} {fs : Env → R (List D)} : oMut i op fs ρ = match (dV i ρ).bind isL with
  | .ok xs => (fs ρ).then ρ fun ds => match op xs ds with
    | .ok ys => .nx (ρ.set i (some (.lst ys)))
    | _ => .bad
  | _ => .bad := rfl
@[simp] theorem mAppend_1 {xs : List D} : mAppend xs [d] = if xs.length < 16777216 then .ok (xs ++ [d]) else .bad := rfl
@[simp] theorem oSetItem_eq {i : Nat} {fk : Env → R D} : oSetItem i fk f ρ = (f ρ).then ρ fun d => match (dV i ρ).bind isL with
  | .ok xs => (fk ρ).then ρ fun k => match k with
    | .int k => if 0 ≤ k ∧ k < xs.length then .nx (ρ.set i (some (.lst (xs.set k.toNat d)))) else .bad
    | _ => .bad
  | _ => .bad := rfl
@[simp] theorem oAug_eq {i : Nat} : oAug i f ρ = match dV i ρ with
  | .ok (.int a) => (f ρ).then ρ fun d => match d with
    | .int b => .nx (ρ.set i (some (.int (a + b))))
    | _ => .bad
  | _ => .bad := rfl
@[simp] theorem oDrop_eq : oDrop f ρ = (f ρ).then ρ fun _ => .nx ρ := rfl
@[simp] theorem oRaise_eq {e : Ex} : oRaise e ρ = .xc e ρ := rfl
@[simp] theorem oIsi_ll {ds : List D} : oIsi .list (.lst ds) = .ok (.bl true) := rfl
@[simp] theorem oIsi_lt {ds : List D} : oIsi .list (.tup ds) = .ok (.bl false) := rfl
@[simp] theorem oIsi_tt {ds : List D} : oIsi .tuple (.tup ds) = .ok (.bl true) := rfl
@[simp] theorem oIsi_tl {ds : List D} : oIsi .tuple (.lst ds) = .ok (.bl false) := rfl
@[simp] theorem oIsi_tr {r : List Int} : oIsi .tuple (rowD r) = .ok (.bl true) := rfl
@[simp] theorem oIsi_ii {i : Int} : oIsi .int (.int i) = .ok (.bl true) := rfl
@[simp] theorem oIsi_bi {i : Int} : oIsi .bool (.int i) = .ok (.bl false) := rfl
@[simp] theorem oIsi_bb {b : Bool} : oIsi .bool (.bl b) = .ok (.bl true) := rfl
@[simp] theorem pNo_eq : pNo ρ = .ok none := rfl
@[simp] theorem pSo_eq : pSo f ρ = (f ρ).bind fun d => match d with | .int i => .ok (some i) | _ => .bad := rfl
@[simp] theorem slA_eq {g' h' : Env → R (Option Int)} : slA f g' h' ρ = (f ρ).bind fun d => (g' ρ).bind fun lo => (h' ρ).bind fun hi => match d with
  | .lst ds => .ok (.lst (cutD ds lo hi))
  | .tup ds => .ok (.tup (cutD ds lo hi))
  | .str z => if z.length ≤ 16777216 then .ok (.str (L2.cutS z lo hi)) else .bad
  | _ => .bad := rfl
@[simp] theorem slK_eq {fs : Env → R (List D)} {g' h' : Env → R (Option Int)} : slK fs g' h' ρ = (fs ρ).bind fun ds => (g' ρ).bind fun lo => (h' ρ).bind fun hi => .ok (.lst (cutD ds lo hi)) := rfl
@[simp] theorem revK_eq {ds : List D} : revK ds = .ok (.lst ds.reverse) := rfl
@[simp] theorem oAbs_i {i : Int} : oAbs [.int i] = .ok (.int (if i < 0 then -i else i)) := rfl
@[simp] theorem tupK_eq {ds : List D} : tupK ds = .ok (.tup ds) := rfl
@[simp] theorem lstK_eq {ds : List D} : lstK ds = .ok (.lst ds) := rfl
@[simp] theorem oTupOf_l {ds : List D} : oTupOf (.lst ds) = .ok (.tup ds) := rfl
@[simp] theorem oTupOf_t {ds : List D} : oTupOf (.tup ds) = .ok (.tup ds) := rfl
@[simp] theorem oLstOf_l {ds : List D} : oLstOf (.lst ds) = .ok (.lst ds) := rfl
@[simp] theorem oLstOf_t {ds : List D} : oLstOf (.tup ds) = .ok (.lst ds) := rfl
/-! operators -/
@[simp] theorem oAdd_i {i j : Int} : oAdd (.int i) (.int j) = .ok (.int (i + j)) := rfl
@[simp] theorem oSub_i {i j : Int} : oSub (.int i) (.int j) = .ok (.int (i - j)) := rfl
@[simp] theorem oNeg_i {i : Int} : oNeg (.int i) = .ok (.int (-i)) := rfl
theorem oMod_ok {i j : Int} (h : 0 < j) : oMod (.int i) (.int j) = .ok (.int (i % j)) := by unfold oMod; dsimp only; rw [if_pos h]
@[simp] theorem oMod_i {i j : Int} : oMod (.int i) (.int j) = if 0 < j then .ok (.int (i % j)) else .bad := rfl
@[simp] theorem oCmp_i {p : Int → Int → Bool} {i j : Int} : oCmp p (.int i) (.int j) = .ok (.bl (p i j)) := rfl
@[simp] theorem oIs_n : oIs d .non = .ok (.bl (isN d)) := rfl
@[simp] theorem oIsNot_n : oIsNot d .non = .ok (.bl (!isN d)) := rfl
@[simp] theorem isN_n : isN .non = true := rfl
@[simp] theorem isN_t {ds : List D} : isN (.tup ds) = false := rfl
@[simp] theorem isN_l {ds : List D} : isN (.lst ds) = false := rfl
@[simp] theorem isN_i {i : Int} : isN (.int i) = false := rfl
@[simp] theorem isN_s {x : Str} : isN (.str x) = false := rfl
@[simp] theorem isN_r {r : List Int} : isN (rowD r) = false := rfl
@[simp] theorem oLen_l {ds : List D} : oLen [.lst ds] = .ok (.int ds.length) := rfl
@[simp] theorem oLen_t {ds : List D} : oLen [.tup ds] = .ok (.int ds.length) := rfl
@[simp] theorem oMax_2 {i j : Int} : oMax [.int i, .int j] = .ok (.int (if j > i then j else i)) := rfl
@[simp] theorem oMin_2 {i j : Int} : oMin [.int i, .int j] = .ok (.int (if j < i then j else i)) := rfl
@[simp] theorem oInt_b {b : Bool} : oInt [.bl b] = .ok (.int (if b = true then 1 else 0)) := rfl
@[simp] theorem oInt_i {i : Int} : oInt [.int i] = .ok (.int i) := rfl
theorem log_of {i : Int} {n : Nat} (h1 : -(2 ^ n) < i) (h2 : i < 2 ^ n) : i.natAbs.log2 ≤ n := by
  by_cases h0 : i.natAbs = 0
  · rw [h0]; simp
  · have h : i.natAbs < 2 ^ n := by
      have e : ((2 ^ n : Nat) : Int) = (2 : Int) ^ n := by norm_cast
      rw [← e] at h1 h2
      generalize 2 ^ n = m at *
      omega
    exact Nat.le_of_lt ((Nat.log2_lt h0).mpr h)
/-- not great -/
def Sm (i : Int) : Prop := -(2 ^ 250) < i ∧ i < 2 ^ 250
theorem oMul_ok {i j : Int} (h : Sm i) (h' : Sm j) : oMul (.int i) (.int j) = .ok (.int (i * j)) := by
  have := log_of h.1 h.2
  have := log_of h'.1 h'.2
  unfold oMul
  dsimp only
  rw [if_pos (by omega)]
theorem oDiv_ok {i j : Int} (h : 0 < j) (h' : Sm j) : oDiv (.int i) (.int j) = .ok (.int (i / j)) := by
  have := log_of h'.1 h'.2
  unfold oDiv
  dsimp only
  rw [if_pos ⟨h, by omega⟩]
@[simp] theorem oDiv_1 {i : Int} : oDiv (.int i) (.int 1) = .ok (.int (i / 1)) := oDiv_ok (by decide) ⟨by decide, by decide⟩
@[simp] theorem oDiv_2 {i : Int} : oDiv (.int i) (.int 2) = .ok (.int (i / 2)) := oDiv_ok (by decide) ⟨by decide, by decide⟩
@[simp] theorem oDiv_3 {i : Int} : oDiv (.int i) (.int 3) = .ok (.int (i / 3)) := oDiv_ok (by decide) ⟨by decide, by decide⟩
@[simp] theorem oDiv_4 {i : Int} : oDiv (.int i) (.int 4) = .ok (.int (i / 4)) := oDiv_ok (by decide) ⟨by decide, by decide⟩
@[simp] theorem oDiv_5 {i : Int} : oDiv (.int i) (.int 5) = .ok (.int (i / 5)) := oDiv_ok (by decide) ⟨by decide, by decide⟩
@[simp] theorem oDiv_6 {i : Int} : oDiv (.int i) (.int 6) = .ok (.int (i / 6)) := oDiv_ok (by decide) ⟨by decide, by decide⟩
@[simp] theorem oDiv_7 {i : Int} : oDiv (.int i) (.int 7) = .ok (.int (i / 7)) := oDiv_ok (by decide) ⟨by decide, by decide⟩
@[simp] theorem oDiv_8 {i : Int} : oDiv (.int i) (.int 8) = .ok (.int (i / 8)) := oDiv_ok (by decide) ⟨by decide, by decide⟩
@[simp] theorem oDiv_9 {i : Int} : oDiv (.int i) (.int 9) = .ok (.int (i / 9)) := oDiv_ok (by decide) ⟨by decide, by decide⟩
@[simp] theorem oDiv_10 {i : Int} : oDiv (.int i) (.int 10) = .ok (.int (i / 10)) := oDiv_ok (by decide) ⟨by decide, by decide⟩
@[simp] theorem oDiv_11 {i : Int} : oDiv (.int i) (.int 11) = .ok (.int (i / 11)) := oDiv_ok (by decide) ⟨by decide, by decide⟩
@[simp] theorem oDiv_12 {i : Int} : oDiv (.int i) (.int 12) = .ok (.int (i / 12)) := oDiv_ok (by decide) ⟨by decide, by decide⟩
@[simp] theorem oDiv_16 {i : Int} : oDiv (.int i) (.int 16) = .ok (.int (i / 16)) := oDiv_ok (by decide) ⟨by decide, by decide⟩
@[simp] theorem oDiv_18 {i : Int} : oDiv (.int i) (.int 18) = .ok (.int (i / 18)) := oDiv_ok (by decide) ⟨by decide, by decide⟩
@[simp] theorem oDiv_24 {i : Int} : oDiv (.int i) (.int 24) = .ok (.int (i / 24)) := oDiv_ok (by decide) ⟨by decide, by decide⟩
@[simp] theorem oDiv_27 {i : Int} : oDiv (.int i) (.int 27) = .ok (.int (i / 27)) := oDiv_ok (by decide) ⟨by decide, by decide⟩
@[simp] theorem oDiv_32 {i : Int} : oDiv (.int i) (.int 32) = .ok (.int (i / 32)) := oDiv_ok (by decide) ⟨by decide, by decide⟩
@[simp] theorem oDiv_40 {i : Int} : oDiv (.int i) (.int 40) = .ok (.int (i / 40)) := oDiv_ok (by decide) ⟨by decide, by decide⟩
@[simp] theorem oDiv_50 {i : Int} : oDiv (.int i) (.int 50) = .ok (.int (i / 50)) := oDiv_ok (by decide) ⟨by decide, by decide⟩
@[simp] theorem oDiv_63 {i : Int} : oDiv (.int i) (.int 63) = .ok (.int (i / 63)) := oDiv_ok (by decide) ⟨by decide, by decide⟩
@[simp] theorem oDiv_64 {i : Int} : oDiv (.int i) (.int 64) = .ok (.int (i / 64)) := oDiv_ok (by decide) ⟨by decide, by decide⟩
@[simp] theorem oDiv_112 {i : Int} : oDiv (.int i) (.int 112) = .ok (.int (i / 112)) := oDiv_ok (by decide) ⟨by decide, by decide⟩
@[simp] theorem oDiv_128 {i : Int} : oDiv (.int i) (.int 128) = .ok (.int (i / 128)) := oDiv_ok (by decide) ⟨by decide, by decide⟩
@[simp] theorem oDiv_160 {i : Int} : oDiv (.int i) (.int 160) = .ok (.int (i / 160)) := oDiv_ok (by decide) ⟨by decide, by decide⟩
@[simp] theorem oDiv_180 {i : Int} : oDiv (.int i) (.int 180) = .ok (.int (i / 180)) := oDiv_ok (by decide) ⟨by decide, by decide⟩
@[simp] theorem oDiv_200 {i : Int} : oDiv (.int i) (.int 200) = .ok (.int (i / 200)) := oDiv_ok (by decide) ⟨by decide, by decide⟩
@[simp] theorem oDiv_256 {i : Int} : oDiv (.int i) (.int 256) = .ok (.int (i / 256)) := oDiv_ok (by decide) ⟨by decide, by decide⟩
@[simp] theorem oDiv_300 {i : Int} : oDiv (.int i) (.int 300) = .ok (.int (i / 300)) := oDiv_ok (by decide) ⟨by decide, by decide⟩
@[simp] theorem oDiv_400 {i : Int} : oDiv (.int i) (.int 400) = .ok (.int (i / 400)) := oDiv_ok (by decide) ⟨by decide, by decide⟩
@[simp] theorem oDiv_512 {i : Int} : oDiv (.int i) (.int 512) = .ok (.int (i / 512)) := oDiv_ok (by decide) ⟨by decide, by decide⟩
@[simp] theorem oDiv_567 {i : Int} : oDiv (.int i) (.int 567) = .ok (.int (i / 567)) := oDiv_ok (by decide) ⟨by decide, by decide⟩
@[simp] theorem oDiv_640 {i : Int} : oDiv (.int i) (.int 640) = .ok (.int (i / 640)) := oDiv_ok (by decide) ⟨by decide, by decide⟩
@[simp] theorem oDiv_1000 {i : Int} : oDiv (.int i) (.int 1000) = .ok (.int (i / 1000)) := oDiv_ok (by decide) ⟨by decide, by decide⟩
@[simp] theorem oDiv_1024 {i : Int} : oDiv (.int i) (.int 1024) = .ok (.int (i / 1024)) := oDiv_ok (by decide) ⟨by decide, by decide⟩
@[simp] theorem oDiv_2048 {i : Int} : oDiv (.int i) (.int 2048) = .ok (.int (i / 2048)) := oDiv_ok (by decide) ⟨by decide, by decide⟩
@[simp] theorem oDiv_3000 {i : Int} : oDiv (.int i) (.int 3000) = .ok (.int (i / 3000)) := oDiv_ok (by decide) ⟨by decide, by decide⟩
@[simp] theorem oDiv_4096 {i : Int} : oDiv (.int i) (.int 4096) = .ok (.int (i / 4096)) := oDiv_ok (by decide) ⟨by decide, by decide⟩
@[simp] theorem oDiv_6400 {i : Int} : oDiv (.int i) (.int 6400) = .ok (.int (i / 6400)) := oDiv_ok (by decide) ⟨by decide, by decide⟩
@[simp] theorem oDiv_8192 {i : Int} : oDiv (.int i) (.int 8192) = .ok (.int (i / 8192)) := oDiv_ok (by decide) ⟨by decide, by decide⟩
@[simp] theorem oDiv_32768 {i : Int} : oDiv (.int i) (.int 32768) = .ok (.int (i / 32768)) := oDiv_ok (by decide) ⟨by decide, by decide⟩
@[simp] theorem oDiv_98304 {i : Int} : oDiv (.int i) (.int 98304) = .ok (.int (i / 98304)) := oDiv_ok (by decide) ⟨by decide, by decide⟩
@[simp] theorem oDiv_100000 {i : Int} : oDiv (.int i) (.int 100000) = .ok (.int (i / 100000)) := oDiv_ok (by decide) ⟨by decide, by decide⟩
@[simp] theorem oDiv_1000000 {i : Int} : oDiv (.int i) (.int 1000000) = .ok (.int (i / 1000000)) := oDiv_ok (by decide) ⟨by decide, by decide⟩
theorem getI_ok {ds : List D} {k : Int} {d : D} (h : 0 ≤ k) (e : ds[k.toNat]? = some d) : getI ds k = .ok d := by
  have z := L2.atI_nat e
  rw [Int.toNat_of_nonneg h] at z
  unfold getI
  rw [z]
@[simp] theorem oIx_l {ds : List D} {k : Int} : oIx (.lst ds) (.int k) = getI ds k := rfl
@[simp] theorem oIx_t {ds : List D} {k : Int} : oIx (.tup ds) (.int k) = getI ds k := rfl
@[simp] theorem oIx_r {r : List Int} {k : Int} : oIx (rowD r) (.int k) = getI (r.map .int) k := rfl
theorem getI_map {α : Type} {enc : α → D} {xs : List α} {k : Int} (h : 0 ≤ k) (h2 : k.toNat < xs.length) : getI (xs.map enc) k = .ok (enc (xs[k.toNat]'h2)) :=
  getI_ok h (by simp [h2])
/-- the k-th number of a row -/
def at0 (r : List Int) (k : Int) : Int := r.getD k.toNat 0
theorem getI_row {r : List Int} {k : Int} (h : 0 ≤ k) (h2 : k < r.length) : getI (r.map .int) k = .ok (.int (at0 r k)) := by
  have h3 : k.toNat < r.length := by omega
  rw [getI_map h h3]
  unfold at0
  rw [List.getD_eq_getElem?_getD, List.getElem?_eq_getElem h3]
  rfl
/-! ### walks -/
theorem loop_nil {hh : D → Env → R Env} : loop hh g [] ρ = .nx ρ := rfl
theorem loop_cons {hh : D → Env → R Env} {ds : List D} : loop hh g (d :: ds) ρ = match hh d ρ with
    | .ok ρ1 => (g ρ1).seq (loop hh g ds)
    | _ => .bad := rfl
/-- a fold -/
theorem loop_fold {β σ : Type} (J : σ → Env → Prop) (step : σ → β → σ) {enc : β → D} {hh : D → Env → R Env} : ∀ (xs : List β) (s : σ) (ρ : Env), J s ρ →
    (∀ s a ρ, a ∈ xs → J s ρ → Sat (hh (enc a) ρ) (fun ρ1 => (g ρ1).wp (J (step s a)) T X) (fun _ => False)) → (∀ ρ', J (xs.foldl step s) ρ' → N ρ') → (loop hh g (xs.map enc) ρ).wp N T X
  | [], s, ρ, h0, _, k => k ρ h0
  | a :: xs, s, ρ, h0, hs, k => by
    have h1 := hs s a ρ List.mem_cons_self h0
    rw [List.map_cons, loop_cons]
    cases e : hh (enc a) ρ with
    | ok ρ1 =>
      rw [e] at h1
      dsimp only
      rw [wp_seq]
      have h1 : (g ρ1).wp (J (step s a)) T X := h1
      cases e2 : g ρ1 with
      | nx ρ2 =>
        rw [e2] at h1
        exact loop_fold J step xs (step s a) ρ2 h1 (fun s b ρ hb => hs s b ρ (List.mem_cons_of_mem _ hb)) k
      | rt d => rw [e2] at h1; exact h1
      | xc e ρ => rw [e2] at h1; exact h1
      | bad => rw [e2] at h1; exact h1
    | exc c => rw [e] at h1; exact h1.elim
    | bad => rw [e] at h1; exact h1.elim
/-- .. the turns told -/
theorem loop_foldI {β σ : Type} (J : Nat → σ → Env → Prop) (step : σ → β → σ) {enc : β → D} {hh : D → Env → R Env} : ∀ (xs : List β) (n : Nat) (s : σ) (ρ : Env), J n s ρ →
    (∀ i s a ρ, i < xs.length → a ∈ xs → J (n + i) s ρ → Sat (hh (enc a) ρ) (fun ρ1 => (g ρ1).wp (J (n + i + 1) (step s a)) T X) (fun _ => False)) → (∀ ρ', J (n + xs.length) (xs.foldl step s) ρ' → N ρ') → (loop hh g (xs.map enc) ρ).wp N T X
  | [], n, s, ρ, h0, _, k => k ρ h0
  | a :: xs, n, s, ρ, h0, hs, k => by
    have h1 := hs 0 s a ρ (by simp) List.mem_cons_self h0
    rw [List.map_cons, loop_cons]
    cases e : hh (enc a) ρ with
    | ok ρ1 =>
      rw [e] at h1
      dsimp only
      rw [wp_seq]
      have h1 : (g ρ1).wp (J (n + 1) (step s a)) T X := h1
      cases e2 : g ρ1 with
      | nx ρ2 =>
        rw [e2] at h1
        refine loop_foldI J step xs (n + 1) (step s a) ρ2 h1 (fun i s b ρ hi hb hj => ?_) (fun ρ' hj => k ρ' ?_)
        · have z := hs (i + 1) s b ρ (by simpa using hi) (List.mem_cons_of_mem _ hb) (by rw [show n + (i + 1) = n + 1 + i by omega]; exact hj)
          rw [show n + (i + 1) = n + 1 + i by omega] at z
          exact z
        · rw [List.length_cons, show n + (xs.length + 1) = n + 1 + xs.length by omega]
          exact hj
      | rt d => rw [e2] at h1; exact h1
      | xc e ρ => rw [e2] at h1; exact h1
      | bad => rw [e2] at h1; exact h1
    | exc c => rw [e] at h1; exact h1.elim
    | bad => rw [e] at h1; exact h1.elim
/-- the same, the place told -/
theorem loop_inv (J : Nat → Env → Prop) {hh : D → Env → R Env} : ∀ (ds : List D) (n : Nat) (ρ : Env), J n ρ →
    (∀ i d ρ, ds[i]? = some d → J (n + i) ρ → Sat (hh d ρ) (fun ρ1 => (g ρ1).wp (J (n + i + 1)) T X) (fun _ => False)) → (∀ ρ', J (n + ds.length) ρ' → N ρ') → (loop hh g ds ρ).wp N T X
  | [], n, ρ, h0, _, k => k ρ h0
  | d :: ds, n, ρ, h0, hs, k => by
    have h1 := hs 0 d ρ rfl h0
    rw [loop_cons]
    cases e : hh d ρ with
    | ok ρ1 =>
      rw [e] at h1
      dsimp only
      rw [wp_seq]
      have h1 : (g ρ1).wp (J (n + 1)) T X := h1
      cases e2 : g ρ1 with
      | nx ρ2 =>
        rw [e2] at h1
        refine loop_inv J ds (n + 1) ρ2 h1 (fun i b ρ hb hj => ?_) (fun ρ' hj => k ρ' ?_)
        · have z := hs (i + 1) b ρ hb (by rw [show n + (i + 1) = n + 1 + i by omega]; exact hj)
          rw [show n + (i + 1) = n + 1 + i by omega] at z
          exact z
        · rw [List.length_cons, show n + (ds.length + 1) = n + 1 + ds.length by omega]
          exact hj
      | rt d => rw [e2] at h1; exact h1
      | xc e ρ => rw [e2] at h1; exact h1
      | bad => rw [e2] at h1; exact h1
    | exc c => rw [e] at h1; exact h1.elim
    | bad => rw [e] at h1; exact h1.elim
theorem run_ok {m : Nat} {z : R D} {ds : List D} {d : D} (h : (g (ds.map some ++ List.replicate m none)).wp (fun _ => z = .ok d) (fun d' _ => d' = d) (fun _ _ => False)) : runD m z g ds = .ok d := by
  unfold runD
  cases e : g (ds.map some ++ List.replicate m none) with
  | nx ρ => rw [e] at h; exact h
  | rt d' => rw [e] at h; exact congrArg R.ok h
  | xc c ρ => rw [e] at h; exact h.elim
  | bad => rw [e] at h; exact h.elim
theorem run_ex {m : Nat} {z : R D} {ds : List D} {P : D → Prop} (h : (g (ds.map some ++ List.replicate m none)).wp (fun _ => ∃ d, z = .ok d ∧ P d) (fun d _ => P d) (fun _ _ => False)) : ∃ d, runD m z g ds = .ok d ∧ P d := by
  unfold runD
  cases e : g (ds.map some ++ List.replicate m none) with
  | nx ρ => rw [e] at h; exact h
  | rt d' => rw [e] at h; exact ⟨d', rfl, h⟩
  | xc c ρ => rw [e] at h; exact h.elim
  | bad => rw [e] at h; exact h.elim
/-! ### comprehensions -/
/-- each item by itself -/
theorem lcF_of {β γ : Type} {enc : β → D} {vs : List Nat} {hh : D → Env → R Env} {tst : Env → R Bool} {fe : Env → R D} {enc' : γ → D} (sel : β → Bool) (out : β → γ) : ∀ (xs : List β),
    (∀ a ∈ xs, ∃ ρ1, hh (enc a) (wipeR ρ vs) = .ok ρ1 ∧ tst ρ1 = .ok (sel a) ∧ (sel a = true → fe ρ1 = .ok (enc' (out a)))) →
    lcF vs hh tst fe ρ (xs.map enc) = .ok (((xs.filter sel).map out).map enc')
  | [], _ => rfl
  | a :: xs, h => by
    obtain ⟨ρ1, h1, h2, h3⟩ := h a List.mem_cons_self
    have ih := lcF_of sel out xs fun b hb => h b (List.mem_cons_of_mem _ hb)
    rw [List.map_cons]
    unfold lcF
    rw [h1]
    dsimp only
    rw [h2]
    dsimp only
    cases e : sel a with
    | true =>
      rw [if_pos rfl, h3 e]
      dsimp only
      rw [ih]
      simp [e]
    | false =>
      rw [if_neg (by decide), ih]
      simp [e]
@[simp] theorem wipeR_n : wipeR ρ [] = ρ := rfl
@[simp] theorem wipeR_c {v : Nat} {vs : List Nat} : wipeR ρ (v :: vs) = (wipeR ρ vs).set v none := rfl
@[simp] theorem dLc_eq {vs : List Nat} {fi : Env → R (List D)} {hh : D → Env → R Env} {tst : Env → R Bool} {fe : Env → R D} : dLc vs fi hh tst fe ρ = (fi ρ).bind fun ds => match lcF vs hh tst fe ρ ds with
  | .ok es => .ok (.lst es)
  | _ => .bad := rfl
end
/-- a slice is a slice of what is coded -/
theorem cutD_map {β : Type} {enc : β → D} (xs : List β) (lo hi : Option Int) : cutD (xs.map enc) lo hi = ((xs.drop (HT.sIx xs.length 0 lo)).take (HT.sIx xs.length xs.length hi - HT.sIx xs.length 0 lo)).map enc := by
  unfold cutD
  simp
/-! ### equality -/
mutual
/-- without truths and refusals, no deeper than n -/
def Cl : Nat → D → Prop
  | _, .non => True
  | _, .int _ => True
  | _, .str x => (toP (.str x)).canLay0 = true
  | n, .lst ds => 0 < n ∧ Cls (n - 1) ds
  | n, .tup ds => 0 < n ∧ Cls (n - 1) ds
  | _, _ => False
def Cls : Nat → List D → Prop
  | _, [] => True
  | n, d :: ds => Cl n d ∧ Cls n ds
end
theorem cls_iff {n : Nat} : ∀ {ds : List D}, Cls n ds ↔ ∀ d ∈ ds, Cl n d
  | [] => by simp [Cls]
  | d :: ds => by simp [Cls, cls_iff (ds := ds)]
mutual
theorem Cl.all : ∀ {n : Nat} {d : D}, Cl n d → noE d = true ∧ (toP d).canLay0 = true ∧ (toP d).depth ≤ n
  | _, .non, _ => ⟨rfl, by simp [toP, PyData.canLay0], by simp [toP, PyData.depth]⟩
  | _, .int _, _ => ⟨rfl, by simp [toP, PyData.canLay0], by simp [toP, PyData.depth]⟩
  | _, .str x, h => ⟨rfl, by simpa [Cl] using h, by simp [toP, PyData.depth]⟩
  | n, .lst ds, h => by
    have h : 0 < n ∧ Cls (n - 1) ds := by simpa [Cl] using h
    obtain ⟨a, b, c⟩ := Cls.all h.2
    exact ⟨by simpa [noE] using a, by simpa [toP, PyData.canLay0] using b, by simp [toP, PyData.depth]; omega⟩
  | n, .tup ds, h => by
    have h : 0 < n ∧ Cls (n - 1) ds := by simpa [Cl] using h
    obtain ⟨a, b, c⟩ := Cls.all h.2
    exact ⟨by simpa [noE] using a, by simpa [toP, PyData.canLay0] using b, by simp [toP, PyData.depth]; omega⟩
  | _, .bl _, h => by simp [Cl] at h
  | _, .exc _, h => by simp [Cl] at h
theorem Cls.all : ∀ {n : Nat} {ds : List D}, Cls n ds → noEs ds = true ∧ PyData.canLayAll0 (toPs ds) = true ∧ PyData.depthAll (toPs ds) ≤ n
  | n, [], _ => ⟨rfl, by simp [toPs, PyData.canLayAll0], by simp [toPs, PyData.depthAll]⟩
  | n, d :: ds, h => by
    have h : Cl n d ∧ Cls n ds := by simpa [Cls] using h
    obtain ⟨a, b, c⟩ := Cl.all h.1
    obtain ⟨a', b', c'⟩ := Cls.all h.2
    exact ⟨by simp [noEs, a, a'], by simp [toPs, PyData.canLayAll0, b, b'], by simp [toPs, PyData.depthAll]; omega⟩
end
theorem Cl.ok {n : Nat} {d : D} (h : Cl n d) (hn : n ≤ 64) : okP d = true := by
  obtain ⟨a, b, c⟩ := h.all
  unfold okP SeqAt.shaped
  simp [a, b]
  omega
mutual
theorem deq_iff : ∀ {n m : Nat} {d e : D}, Cl n d → Cl m e → (deq d e = true ↔ d = e)
  | n, m, d, e, hd, he => by
    cases d <;> cases e <;> simp only [Cl] at hd he <;> simp [deq, toP, PyData.eqv]
    · exact deqs_iff hd.2 he.2
    · exact deqs_iff hd.2 he.2
theorem deqs_iff : ∀ {n m : Nat} {ds es : List D}, Cls n ds → Cls m es → (PyData.eqvAll (toPs ds) (toPs es) = true ↔ ds = es)
  | n, m, [], [], _, _ => by simp [toPs, PyData.eqvAll]
  | n, m, [], _ :: _, _, _ => by simp [toPs, PyData.eqvAll]
  | n, m, _ :: _, [], _, _ => by simp [toPs, PyData.eqvAll]
  | n, m, d :: ds, e :: es, h, h' => by
    simp only [Cls] at h h'
    simp only [toPs, PyData.eqvAll, Bool.and_eq_true, List.cons.injEq]
    exact and_congr (deq_iff h.1 h'.1) (deqs_iff h.2 h'.2)
end
theorem oEq_cl {n m : Nat} {d e : D} (hd : Cl n d) (he : Cl m e) (hn : n ≤ 64 := by decide) (hm : m ≤ 64 := by decide) : oEq d e = .ok (.bl (deq d e)) := by
  unfold oEq
  rw [if_pos ⟨hd.ok hn, he.ok hm⟩]
theorem oNe_cl {n m : Nat} {d e : D} (hd : Cl n d) (he : Cl m e) (hn : n ≤ 64 := by decide) (hm : m ≤ 64 := by decide) : oNe d e = .ok (.bl (!deq d e)) := by
  unfold oNe
  rw [if_pos ⟨hd.ok hn, he.ok hm⟩]
theorem cl_int {n : Nat} {i : Int} : Cl n (.int i) := by simp [Cl]
theorem cl_non {n : Nat} : Cl n .non := by simp [Cl]
theorem cl_lst {n : Nat} {ds : List D} (h : ∀ d ∈ ds, Cl n d) : Cl (n + 1) (.lst ds) := by simp only [Cl]; exact ⟨by omega, cls_iff.mpr h⟩
theorem cl_tup {n : Nat} {ds : List D} (h : ∀ d ∈ ds, Cl n d) : Cl (n + 1) (.tup ds) := by simp only [Cl]; exact ⟨by omega, cls_iff.mpr h⟩
theorem cl_ints {n : Nat} {ns : List Int} : ∀ d ∈ ns.map D.int, Cl n d := fun d h => by
  obtain ⟨i, _, rfl⟩ := List.mem_map.mp h
  exact cl_int
theorem cl_row {r : List Int} : Cl 1 (rowD r) := cl_tup (n := 0) cl_ints
theorem cl_rows {rs : List (List Int)} : Cl 2 (.lst (rs.map rowD)) := cl_lst (n := 1) fun d h => by
  obtain ⟨i, _, rfl⟩ := List.mem_map.mp h
  exact cl_row
@[simp] theorem oEq_i {i j : Int} : oEq (.int i) (.int j) = .ok (.bl (decide (i = j))) := by
  rw [oEq_cl (cl_int (n := 0)) (cl_int (n := 0))]
  congr 2
@[simp] theorem oNe_i {i j : Int} : oNe (.int i) (.int j) = .ok (.bl (!decide (i = j))) := by
  rw [oNe_cl (cl_int (n := 0)) (cl_int (n := 0))]
  congr 3
theorem deq_self {n : Nat} {d : D} (h : Cl n d) : deq d d = true := (deq_iff h h).mpr rfl
theorem deq_nil {n : Nat} {ds : List D} (h : Cl n (.lst ds)) : deq (.lst ds) (.lst []) = ds.isEmpty := by
  rw [Bool.eq_iff_iff, deq_iff h (cl_lst (n := 0) (ds := []) (by simp))]
  simp
/-- x == [] -/
theorem oEq_nil {n : Nat} {ds : List D} (h : Cl n (.lst ds)) (hn : n ≤ 64 := by decide) : oEq (.lst ds) (.lst []) = .ok (.bl ds.isEmpty) := by
  rw [oEq_cl h (cl_lst (n := 0) (ds := []) (by simp)) hn, deq_nil h]
end DL

set_option Elab.async false
set_option linter.all false
set_option maxRecDepth 100000
set_option maxHeartbeats 4000000
set_option autoImplicit false
/-! PL2: while, and the greatest common divisor. -/
namespace DL
open PySem
section
variable {N : Env → Prop} {T : D → Env → Prop} {X : Ex → Env → Prop} {ρ : Env} {c : Env → R Bool} {g : Env → Out}
theorem fuel_eq : fuel ρ = 1000000000000 := rfl
theorem wloop_wp (J : Nat → Env → Prop) : ∀ (fl k : Nat) (ρ : Env), J k ρ → k < fl → (∀ k ρ, J k ρ → Sat (c ρ) (fun b => if b = true then (g ρ).wp (fun ρ' => ∃ k' < k, J k' ρ') T X else N ρ) (fun e => X e ρ)) → (wloop c g fl ρ).wp N T X
  | 0, k, ρ, _, h, _ => absurd h (Nat.not_lt_zero k)
  | fl + 1, k, ρ, h0, hk, hs => by
    have h1 := hs k ρ h0
    unfold wloop
    rw [wp_then]
    refine h1.imp (fun b hb => ?_) fun _ z => z
    cases b with
    | false => exact hb
    | true =>
      rw [if_pos rfl] at hb ⊢
      rw [wp_seq]
      have hb : (g ρ).wp (fun ρ' => ∃ k' < k, J k' ρ') T X := hb
      cases e : g ρ with
      | nx ρ2 =>
        rw [e] at hb
        obtain ⟨k', hk', hj⟩ := hb
        exact wloop_wp J fl k' ρ2 hj (by omega) hs
      | rt d => rw [e] at hb; exact hb
      | xc e ρ => rw [e] at hb; exact hb
      | bad => rw [e] at hb; exact hb
theorem while_wp (J : Nat → Env → Prop) (k : Nat) (h0 : J k ρ) (hk : k < 1000000000000) (hs : ∀ k ρ, J k ρ → Sat (c ρ) (fun b => if b = true then (g ρ).wp (fun ρ' => ∃ k' < k, J k' ρ') T X else N ρ) (fun e => X e ρ)) : (oWhile fuel c g ρ).wp N T X :=
  wloop_wp J _ k ρ h0 hk hs
end
/-! the greatest common divisor -/
theorem gcd_turn {x y : Int} (hx : 0 ≤ x) (hy : 0 < y) : Int.gcd y (x % y) = Int.gcd x y := by
  rw [Int.gcd_comm, Int.gcd_comm x y]
  unfold Int.gcd
  rw [Int.natAbs_emod_of_nonneg hx]
  exact (Nat.gcd_rec _ _).symm
theorem mul_half {x y : Int} {k : Nat} (hy : 0 < y) (hxy : y ≤ x) (h : x * y < 2 ^ (k + 1)) : y * (x % y) < 2 ^ k := by
  have e := Int.mul_ediv_add_emod x y
  have h1 := Int.emod_nonneg x (show y ≠ 0 by omega)
  have h2 := Int.emod_lt_of_pos x hy
  have h3 : 1 ≤ x / y := by
    have := Int.ediv_le_ediv hy hxy
    rw [Int.ediv_self (by omega)] at this
    exact this
  have h4 : y * 1 ≤ y * (x / y) := Int.mul_le_mul_of_nonneg_left h3 (by omega)
  have h5 : 2 * (x % y) ≤ x := by omega
  have h6 : 2 * (x % y) * y ≤ x * y := Int.mul_le_mul_of_nonneg_right h5 (by omega)
  rw [Int.pow_succ] at h
  rw [Int.mul_comm y (x % y)]
  rw [Int.mul_assoc] at h6
  omega
theorem gcd_wp {a b : Option D} {x y : Int} {N : Env → Prop} {T : D → Env → Prop} {X : Ex → Env → Prop} (hx : 0 ≤ x) (hy : 0 ≤ y) (h0 : 0 < x + y) (hm : x < 2 ^ 250) (hm' : y < 2 ^ 250) (hN : N [a, b, some (.int (Int.gcd x y)), some (.int 0)]) :
    (oWhile fuel (dB (d2 oGt (dV 3) (dC (.int 0)))) (oAsg (tT (tCons' (tN 2) (tCons' (tN 3) tNil'))) (dTup (dCons (dV 3) (dCons (d2 oMod (dV 2) (dV 3)) dNil)))) [a, b, some (.int x), some (.int y)]).wp N T X := by
  refine while_wp (J := fun k ρ => ∃ x' y' : Int, ρ = [a, b, some (.int x'), some (.int y')] ∧ 0 ≤ x' ∧ 0 ≤ y' ∧ 0 < x' + y' ∧ Int.gcd x' y' = Int.gcd x y ∧ ((y' ≤ x' ∧ x' * y' < 2 ^ k) ∨ (x' < y' ∧ ∃ j, k = j + 1 ∧ x' * y' < 2 ^ j))) 600 ⟨x, y, rfl, hx, hy, h0, rfl, ?_⟩ (by decide) ?_
  · have h1 : x * y ≤ 2 ^ 250 * 2 ^ 250 := Int.mul_le_mul (Int.le_of_lt hm) (Int.le_of_lt hm') hy (by decide)
    have h2 : x * y < 2 ^ 599 := Int.lt_of_le_of_lt h1 (by decide)
    rcases Int.lt_or_le x y with h | h
    · exact .inr ⟨h, 599, rfl, h2⟩
    · exact .inl ⟨h, Int.lt_of_le_of_lt h1 (by decide)⟩
  · rintro k ρ ⟨x', y', rfl, h1, h2, h3, h4, h5⟩
    simp
    by_cases hy0 : 0 < y'
    · rw [if_pos hy0]
      simp [hy0]
      refine ⟨k - 1, ?_, y', x' % y', ⟨rfl, rfl⟩, by omega, Int.emod_nonneg _ (by omega), ?_, ?_, ?_⟩
      · rcases h5 with ⟨ha, hb⟩ | ⟨ha, j, rfl, hb⟩
        · cases k with
          | zero =>
            have := Int.mul_pos (show 0 < x' by omega) hy0
            simp at hb
            omega
          | succ k => omega
        · omega
      · have := Int.emod_nonneg x' (show y' ≠ 0 by omega)
        omega
      · rw [gcd_turn h1 hy0, h4]
      · have hlt := Int.emod_lt_of_pos x' hy0
        refine .inl ⟨Int.le_of_lt hlt, ?_⟩
        rcases h5 with ⟨ha, hb⟩ | ⟨ha, j, rfl, hb⟩
        · cases k with
          | zero =>
            have := Int.mul_pos (show 0 < x' by omega) hy0
            simp at hb
            omega
          | succ k => exact mul_half hy0 ha hb
        · rw [Int.emod_eq_of_lt h1 ha, Int.mul_comm]
          exact hb
    · have : y' = 0 := by omega
      subst this
      simp
      have : (Int.gcd x y : Int) = x' := by
        rw [← h4, Int.gcd_zero_right]
        omega
      rw [this] at hN
      exact hN
end DL

set_option Elab.async false
set_option linter.all false
set_option maxRecDepth 100000
set_option maxHeartbeats 4000000
set_option autoImplicit false
/-! P2: what most laws lean on. -/
namespace DL
open PySem
/-- a list of ints -/
abbrev iL' (ns : List Int) : D := .lst (ns.map .int)
/-- the k-th cell, 0 beyond -/
def cellA (ns : List Int) (k : Int) : Int := ns.getD k.toNat 0
theorem F_cell_at {ns : List Int} {k : Int} (h : 0 ≤ k) : F_law_cell_at [.lst (ns.map .int), .int k] = .ok (.int (cellA ns k)) := by
  refine run_ok ?_
  unfold g_law_cell_at
  simp
  unfold cellA
  by_cases hk : k < ns.length
  · have h3 : k.toNat < ns.length := by omega
    simp [hk, getI_map (enc := D.int) h h3, List.getD_eq_getElem?_getD, List.getElem?_eq_getElem h3]
  · have h3 : ns.length ≤ k.toNat := by omega
    simp [hk, List.getD_eq_getElem?_getD, List.getElem?_eq_none h3]
/-! powers -/
@[simp] theorem oPow_6 : oPow (.int 10) (.int 6) = .ok (.int 1000000) := rfl
@[simp] theorem oPow_18 : oPow (.int 10) (.int 18) = .ok (.int 1000000000000000000) := rfl
@[simp] theorem oPow_60 : oPow (.int 10) (.int 60) = .ok (.int (10 ^ 60)) := rfl
@[simp] theorem oPow_41 : oPow (.int 10) (.int 41) = .ok (.int 100000000000000000000000000000000000000000) := rfl
@[simp] theorem oPow_38 : oPow (.int 10) (.int 38) = .ok (.int 100000000000000000000000000000000000000) := rfl
@[simp] theorem oPow_17 : oPow (.int 10) (.int 17) = .ok (.int 100000000000000000) := rfl
@[simp] theorem oPow_30 : oPow (.int 10) (.int 30) = .ok (.int 1000000000000000000000000000000) := rfl
@[simp] theorem oPow_36 : oPow (.int 10) (.int 36) = .ok (.int 1000000000000000000000000000000000000) := rfl
@[simp] theorem oPow_37 : oPow (.int 10) (.int 37) = .ok (.int 10000000000000000000000000000000000000) := rfl
@[simp] theorem oPow_39 : oPow (.int 10) (.int 39) = .ok (.int 1000000000000000000000000000000000000000) := rfl
@[simp] theorem oPow_40 : oPow (.int 10) (.int 40) = .ok (.int 10000000000000000000000000000000000000000) := rfl
/-! the mix -/
theorem itR1_i {j : Int} : itR1 [.int j] = if -(2 ^ 62) ≤ j ∧ j ≤ 16777216 then .ok (upTo 0 j.toNat) else .bad := rfl
theorem itR1_ok {j : Int} (h : 0 ≤ j) (h' : j ≤ 16777216) : itR1 [.int j] = .ok (upTo 0 j.toNat) := by
  rw [itR1_i, if_pos ⟨by omega, h'⟩]
theorem mix_ex (c k : Int) (h0 : 0 ≤ k) (h1 : k ≤ 10000) : ∃ n : Int, F_law_mix [.int c, .int k] = .ok (.int n) ∧ 0 ≤ n ∧ n < 2147483648 := by
  have z : ∃ d, F_law_mix [.int c, .int k] = .ok d ∧ ∃ n : Int, d = .int n ∧ 0 ≤ n ∧ n < 2147483648 := by
    refine run_ex ?_
    unfold g_law_mix
    have hkk : 0 ≤ k * k ∧ k * k ≤ 100000000 := ⟨Int.mul_nonneg h0 h0, Int.le_trans (Int.mul_le_mul h1 h1 h0 (by decide)) (by decide)⟩
    by_cases hc : 1000000000000000000 ≤ c
    · simp [hc, itR1_ok h0 (show k ≤ 16777216 by omega)]
      unfold upTo
      refine loop_fold (J := fun _ ρ => ∃ c' x2, ρ = [some (.int c'), some (.int k), x2, none]) (fun s _ => s) _ () _ ⟨_, _, rfl⟩ ?_ ?_
      · rintro _ i ρ _ ⟨c', x2, rfl⟩
        simp [oDiv_ok (i := c') (show (0 : Int) < 1000000 by decide) ⟨by decide, by decide⟩]
      · rintro ρ' ⟨c', x2, rfl⟩
        simp
        omega
    · simp [hc]
      generalize hA : c % 1000003 = A
      have hA2 : 0 ≤ A ∧ A < 1000003 := by omega
      rw [oMul_ok (i := k) (j := k) ⟨by omega, by omega⟩ ⟨by omega, by omega⟩]
      simp
      rw [oMul_ok (i := k * k) ⟨by omega, by omega⟩ ⟨by omega, by omega⟩]
      simp
      rw [oMul_ok (j := 48271) ⟨by omega, by omega⟩ ⟨by omega, by omega⟩]
      simp
      generalize hB : ((A + k * k * 7919 + k) * 48271) % 2147483629 = B
      have hB2 : 0 ≤ B ∧ B < 2147483629 := by omega
      rw [oMul_ok (i := B) ⟨by omega, by omega⟩ ⟨by omega, by omega⟩]
      simp
      generalize hC : (B * B) % 2147483587 = C
      have hC2 : 0 ≤ C ∧ C < 2147483587 := by omega
      rw [oMul_ok (i := C) ⟨by omega, by omega⟩ ⟨by omega, by omega⟩]
      simp [oDiv_ok (show (0 : Int) < 7 by decide) ⟨by decide, by decide⟩]
      omega
  obtain ⟨d, e, n, rfl, h⟩ := z
  exact ⟨n, e, h⟩
def mixA (c k : Int) : Int := match F_law_mix [.int c, .int k] with
  | .ok (.int n) => n
  | _ => 0
theorem mix_ok {c k : Int} (h0 : 0 ≤ k) (h1 : k ≤ 10000) : F_law_mix [.int c, .int k] = .ok (.int (mixA c k)) ∧ 0 ≤ mixA c k ∧ mixA c k < 2147483648 := by
  obtain ⟨n, e, h⟩ := mix_ex c k h0 h1
  unfold mixA
  rw [e]
  exact ⟨rfl, h⟩
/-! the script, cut -/
theorem cut_ex (ns : List Int) : ∃ ms : List Int, ms.length = ns.length ∧ F_law_cut [.lst (ns.map .int)] = .ok (.lst (ms.map .int)) := by
  refine ⟨(ns.filter fun _ => true).map fun c => if (10 ^ 60) ^ 60 ≤ c then (10 ^ 60) ^ 60 + c % ((10 ^ 60) ^ 60) else c, by simp, run_ok ?_⟩
  unfold g_law_cut
  have e : oPow (.int (10 ^ 60)) (.int 60) = .ok (.int ((10 ^ 60) ^ 60)) := rfl
  generalize hM : ((10 : Int) ^ 60) ^ 60 = M at *
  have hM0 : 0 < M := by rw [← hM]; decide
  simp only [oSeq_wp, oSet_eq, d2_eq, dC_eq, R.bind_ok, oPow_60, e, thn_ok, wp_nx]
  simp
  rw [lcF_of (enc := D.int) (enc' := D.int) (fun _ => true) (fun c => if M ≤ c then M + c % M else c)]
  · simp
  · intro c _
    simp [wipeR, hM0]
    by_cases h : M ≤ c
    · simp [h]
      rfl
    · simp [h]
      rfl
/-! rows -/
/-- no greater anywhere -/
def cov (a b : List Int) : Bool := (List.range a.length).all fun k => decide (a.getD k 0 ≤ b.getD k 0)
theorem upTo_map (n : Nat) : upTo 0 n = (List.range n).map fun i => D.int (i : Nat) := by
  unfold upTo
  simp
theorem isEmpty_map {α β : Type} (f : α → β) (l : List α) : (l.map f).isEmpty = l.isEmpty := by cases l <;> rfl
theorem filter_isEmpty {α : Type} (p : α → Bool) (l : List α) : (l.filter p).isEmpty = l.all fun a => !p a := by
  induction l with
  | nil => rfl
  | cons a l ih => cases h : p a <;> simp [h, ih]
theorem covers_ok {a b : List Int} (h : a.length ≤ b.length) (hl : a.length ≤ 1000) : F_law_covers [rowD a, rowD b] = .ok (.bl (cov a b)) := by
  refine run_ok ?_
  unfold g_law_covers
  have e : oLen [rowD a] = .ok (.int a.length) := by unfold rowD; simp
  simp [e, itR1_ok (show (0 : Int) ≤ a.length by omega) (show (a.length : Int) ≤ 16777216 by omega), upTo_map]
  rw [lcF_of (enc := fun i : Nat => D.int i) (enc' := fun i : Nat => D.int i) (fun k => decide (b.getD k 0 < a.getD k 0)) (fun k => k)]
  · simp only [R.bind_ok, thn_ok, sat_ok]
    rw [oEq_nil (n := 1) (cl_lst (n := 0) fun d hd => by obtain ⟨i, _, rfl⟩ := List.mem_map.mp hd; exact cl_int)]
    simp only [isEmpty_map, filter_isEmpty, sat_ok, D.bl.injEq, cov]
    congr 1
    funext k
    simp only [← decide_not, Int.not_lt]
  · intro k hk
    have hk : k < a.length := List.mem_range.mp hk
    simp [wipeR, getI_row (r := a) (k := k) (by omega) (by omega), getI_row (r := b) (k := k) (by omega) (by omega), at0]
/-- the k-th stair -/
def stepA (found : List (List Int)) (r : List Int) : List (List Int) := if (found.filter fun o => cov o r).isEmpty then found ++ [r] else found
def stairA (rs : List (List Int)) : List (List Int) := (sortU rs).foldl stepA []
/-- all of width w -/
def Wd (w : Nat) (rs : List (List Int)) : Prop := ∀ r ∈ rs, r.length = w
theorem stepA_mem {found : List (List Int)} {r y : List Int} (h : y ∈ stepA found r) : y ∈ found ∨ y = r := by
  unfold stepA at h
  split at h
  · simpa using h
  · exact .inl h
theorem foldA_mem {y : List Int} : ∀ {xs : List (List Int)} {found : List (List Int)}, y ∈ xs.foldl stepA found → y ∈ found ∨ y ∈ xs
  | [], _, h => .inl h
  | x :: xs, found, h => by
    rcases foldA_mem (xs := xs) h with h | h
    · rcases stepA_mem h with h | h
      · exact .inl h
      · exact .inr (h ▸ List.mem_cons_self)
    · exact .inr (List.mem_cons_of_mem _ h)
theorem stairA_mem {rs : List (List Int)} {y : List Int} (h : y ∈ stairA rs) : y ∈ rs := by
  rcases foldA_mem h with h | h
  · cases h
  · exact sortU_mem.mp h
theorem stairA_wd {w : Nat} {rs : List (List Int)} (h : Wd w rs) : Wd w (stairA rs) := fun r hr => h r (stairA_mem hr)
theorem foldA_len : ∀ {xs : List (List Int)} {found : List (List Int)}, (xs.foldl stepA found).length ≤ found.length + xs.length
  | [], _ => by simp
  | x :: xs, found => by
    have h : (stepA found x).length ≤ found.length + 1 := by unfold stepA; split <;> simp
    have := foldA_len (xs := xs) (found := stepA found x)
    simp only [List.foldl_cons, List.length_cons]
    omega
theorem stairA_len (rs : List (List Int)) : (stairA rs).length ≤ rs.length := by
  have h := foldA_len (xs := sortU rs) (found := [])
  have := sortU_len rs
  unfold stairA
  simp at h
  omega
theorem oSortSet_ok {rs : List (List Int)} {w : Nat} (h : Wd w rs) (hw : 0 < w) (hn : (sortU rs).length ≤ 4095) : oSortSet (rs.map rowD) = .ok (.lst ((sortU rs).map rowD)) := by
  have hh : rs.all (fun r => !r.isEmpty) = true := by
    rw [List.all_eq_true]
    intro r hr
    have := h r hr
    cases r with
    | nil => exact absurd this (by show ¬ (0 = w); omega)
    | cons a r => rfl
  unfold oSortSet
  rw [rowsOf_map]
  dsimp only
  rw [if_pos ⟨hh, hn⟩]
theorem few64 {rs : List (List Int)} (h : rs.length < 64) : (sortU rs).length ≤ 4095 := by
  have := sortU_len rs
  omega
theorem stair_ok {rs : List (List Int)} {w : Nat} (h : Wd w rs) (hw : 0 < w) (hw2 : w ≤ 1000) (hn : (sortU rs).length ≤ 4095) : F_law_stair_v2 [.lst (rs.map rowD)] = .ok (.lst ((stairA rs).map rowD)) := by
  refine run_ok ?_
  unfold g_law_stair_v2
  simp [oSortSet_ok h hw hn]
  refine loop_foldI (J := fun n found ρ => ∃ x2 x3, found.length ≤ n ∧ (∀ r ∈ found, r.length = w) ∧ ρ = [some (.lst (rs.map rowD)), some (.lst (found.map rowD)), x2, x3]) stepA _ 0 [] _ ⟨_, _, by simp, by simp, rfl⟩ ?_ ?_
  · rintro i found r ρ hi hr ⟨x2, x3, hf, hwf, rfl⟩
    have hrw : r.length = w := h r (sortU_mem.mp hr)
    simp [wipeR]
    rw [lcF_of (enc := rowD) (enc' := rowD) (fun o => cov o r) (fun o => o)]
    · simp only [R.bind_ok, thn_ok, sat_ok]
      rw [oEq_nil (n := 2) (by simpa using cl_rows)]
      simp only [isEmpty_map, sat_ok, R.bind_ok, thn_ok, asB_bl]
      unfold stepA
      split
      · rename_i hE
        have : found.length < 16777216 := by have := sortU_len rs; omega
        simp [oMut, mAppend, this]
        exact ⟨by omega, fun a ha => by rcases ha with ha | rfl <;> simp_all⟩
      · rename_i hE
        simp
        exact ⟨by omega, fun a ha => hwf a ha⟩
    · intro o ho
      have := hwf o ho
      simp [covers_ok (a := o) (b := r) (by omega) (by omega)]
  · rintro ρ' ⟨x2, x3, _, _, rfl⟩
    simp [stairA]
/-! a script's stair -/
@[simp] theorem oMul_9 : oMul (.int 9) (.int 100000000000000000000000000000000000000000) = .ok (.int 900000000000000000000000000000000000000000) := rfl
/-- one of four -/
theorem pick4 {a b c d : Int} {k : Int} (h : 0 ≤ k) (h' : k < 4) : ∃ x, getI [.int a, .int b, .int c, .int d] k = .ok (.int x) ∧ (x = a ∨ x = b ∨ x = c ∨ x = d) := by
  obtain ⟨n, rfl⟩ := Int.eq_ofNat_of_zero_le h
  have : n = 0 ∨ n = 1 ∨ n = 2 ∨ n = 3 := by omega
  rcases this with rfl | rfl | rfl | rfl
  · exact ⟨a, getI_ok (by decide) rfl, by simp⟩
  · exact ⟨b, getI_ok (by decide) rfl, by simp⟩
  · exact ⟨c, getI_ok (by decide) rfl, by simp⟩
  · exact ⟨d, getI_ok (by decide) rfl, by simp⟩
end DL

set_option Elab.async false
set_option linter.all false
set_option maxRecDepth 100000
set_option maxHeartbeats 4000000
set_option autoImplicit false
/-! P2k: refusals caught, told by name. -/
namespace DL
open PySem
@[simp] theorem oIsX_e {c e : Ex} : oIsX c (.exc e) = .ok (.bl (decide (e = c))) := rfl
@[simp] theorem oIsVE_e {e : Ex} : oIsVE (.exc e) = .ok (.bl true) := rfl
@[simp] theorem isN_e {e : Ex} : isN (.exc e) = false := rfl
@[simp] theorem oTry_eq {os : List Nat} {i k : Nat} {g : Env → Out} {ρ : Env} : oTry os i k g ρ = match g ρ with
  | .xc e ρ' => .nx (((wipeR ρ' os).set i none).set k (some (.exc e)))
  | o => o := rfl
@[simp] theorem oMl_eq {o : List D → List D → R D} {f : Env → R D} {g : Env → R (List D)} {ρ : Env} : oMl o f g ρ = (f ρ).bind fun d => (isL d).bind fun xs => (g ρ).bind fun ds => o xs ds := rfl
theorem wp_try {os : List Nat} {i k : Nat} {g : Env → Out} {ρ : Env} {N : Env → Prop} {T : D → Env → Prop} {X : Ex → Env → Prop} (h : (g ρ).wp N T fun e ρ' => N (((wipeR ρ' os).set i none).set k (some (.exc e)))) : (oTry os i k g ρ).wp N T X := by
  unfold oTry
  cases e : g ρ with
  | nx ρ1 => rw [e] at h; exact h
  | rt d => rw [e] at h; exact h
  | bad => rw [e] at h; exact h
  | xc c ρ1 => rw [e] at h; exact h
abbrev sD (x : String) : D := .str (PySem.Str.ofString x)
/-- a refusal's name -/
def exN : Ex → String
  | .web => "web"
  | .way => "way"
  | .place => "place"
  | .step => "step"
  | .width => "width"
  | .many => "many"
  | .text => "text"
  | .row => "row"
theorem kept_named (e : Ex) : F_law_kept [.exc e] = .ok (sD (exN e)) := by
  cases e <;> rfl
/-- two texts -/
theorem oNe_s {a b : Str} (ha : okP (.str a) = true) (hb : okP (.str b) = true) : oNe (.str a) (.str b) = .ok (.bl (!decide (a = b))) := by
  unfold oNe
  rw [if_pos ⟨ha, hb⟩]
  congr 3
end DL

set_option Elab.async false
set_option linter.all false
set_option maxRecDepth 100000
set_option maxHeartbeats 4000000
set_option autoImplicit false
/-! P2web: webs. -/
namespace DL
open PySem
structure Stp where
  a : Int
  b : Int
  p : List Int
abbrev stD (s : Stp) : D := .tup [.int s.a, .int s.b, rowD s.p]
abbrev webD (many width : Int) (steps : List Stp) : D := .tup [.int many, .int width, .lst (steps.map stD)]
@[simp] theorem g3_0 {a b c : D} : getI [a, b, c] 0 = .ok a := getI_ok (by decide) rfl
@[simp] theorem g3_1 {a b c : D} : getI [a, b, c] 1 = .ok b := getI_ok (by decide) rfl
@[simp] theorem g3_2 {a b c : D} : getI [a, b, c] 2 = .ok c := getI_ok (by decide) rfl
@[simp] theorem itS_row {r : List Int} : itS (rowD r) = .ok (r.map .int) := rfl
@[simp] theorem oLen_row {r : List Int} : oLen [rowD r] = .ok (.int r.length) := by unfold rowD; simp
theorem cl_st {s : Stp} : Cl 2 (stD s) := cl_tup (n := 1) fun d hd => by
  simp only [List.mem_cons, List.not_mem_nil, or_false] at hd
  rcases hd with rfl | rfl | rfl
  · exact cl_int
  · exact cl_int
  · exact cl_row
theorem cl_steps {ss : List Stp} : Cl 3 (.lst (ss.map stD)) := cl_lst (n := 2) fun d hd => by
  obtain ⟨s, _, rfl⟩ := List.mem_map.mp hd
  exact cl_st
theorem cl_web {m w : Int} {ss : List Stp} : Cl 4 (webD m w ss) := cl_tup (n := 3) fun d hd => by
  simp only [List.mem_cons, List.not_mem_nil, or_false] at hd
  rcases hd with rfl | rfl | rfl
  · exact cl_int
  · exact cl_int
  · exact cl_steps
/-- a web, by a look -/
def stepB (many width : Int) (s : Stp) : Bool := decide (0 ≤ s.a ∧ s.a < many ∧ 0 ≤ s.b ∧ s.b < many ∧ s.a ≠ s.b ∧ (s.p.length : Int) = width) && s.p.all fun x => decide (0 ≤ x)
def headB (many width : Int) (steps : List Stp) : Bool := decide (1 ≤ many ∧ many ≤ 12 ∧ (width = 2 ∨ width = 3) ∧ steps.length ≤ 40)
def webB (many width : Int) (steps : List Stp) : Bool := headB many width steps && steps.all (stepB many width)
@[simp] theorem asB_ite {c : Prop} [Decidable c] {a b : Bool} : asB (if c then .bl a else .bl b) = .ok (if c then a else b) := by split <;> rfl
theorem oMin_row {r : List Int} (h : r ≠ []) : oMinA [rowD r] = .ok (.int (minL r)) := by
  show (match intL (r.map D.int) with | some [] => R.bad | some ns => R.ok (D.int (minL ns)) | none => .bad) = _
  rw [ints_map]
  cases r with
  | nil => exact absurd rfl h
  | cons a l => rfl
theorem minL_neg {r : List Int} (h : r ≠ []) : minL r < 0 ↔ (r.all fun x => decide (0 ≤ x)) = false := by
  have := minL_mem h
  constructor
  · intro z
    rw [← Bool.not_eq_true, List.all_eq_true]
    intro q
    have := of_decide_eq_true (q _ this.1)
    omega
  · intro z
    rw [← Bool.not_eq_true, List.all_eq_true] at z
    refine Int.not_le.mp fun q => z fun x hx => decide_eq_true ?_
    have := this.2 x hx
    omega
theorem run_two {m : Nat} {g : Env → Out} {ds : List D} {c : Ex} {b : Bool} (h : (g (ds.map some ++ List.replicate m none)).wp (fun _ => b = true) (fun _ _ => False) (fun e _ => e = c ∧ b = false)) : runD m (.ok .non) g ds = if b = true then .ok .non else .exc c := by
  unfold runD
  cases e : g (ds.map some ++ List.replicate m none) with
  | nx ρ => rw [e] at h; rw [if_pos (show b = true from h)]
  | rt d' => rw [e] at h; exact h.elim
  | xc c' ρ =>
    rw [e] at h
    obtain ⟨h1, h2⟩ := (show c' = c ∧ b = false from h)
    rw [h2, if_neg (by decide), h1]
  | bad => rw [e] at h; exact h.elim
theorem loop_at {enc : Stp → D} {ss : List Stp} {i : Nat} {e : D} (he : (ss.map enc)[i]? = some e) : ∃ s, ss[i]? = some s ∧ e = enc s := by
  rw [List.getElem?_map] at he
  obtain ⟨s, h1, h2⟩ := Option.map_eq_some_iff.mp he
  exact ⟨s, h1, h2.symm⟩
theorem all_of_get {ss : List Stp} {f : Stp → Bool} (h : ∀ k < ss.length, ∀ s, ss[k]? = some s → f s = true) : ss.all f = true := by
  rw [List.all_eq_true]
  intro s hs
  obtain ⟨k, h1, h2⟩ := List.mem_iff_getElem.mp hs
  exact h k h1 s (List.getElem?_eq_some_iff.mpr ⟨h1, h2⟩)
theorem not_all {ss : List Stp} {f : Stp → Bool} {k : Nat} {s : Stp} (h : ss[k]? = some s) (hf : f s = false) : ss.all f = false := by
  rw [← Bool.not_eq_true, List.all_eq_true]
  intro z
  have := z s (List.mem_of_getElem? h)
  rw [hf] at this
  cases this
theorem check_web_ok {many width : Int} {steps : List Stp} : F_check_web [webD many width steps] = if webB many width steps = true then .ok .non else .exc .web := by
  refine run_two ?_
  unfold g_check_web
  simp
  by_cases h1 : headB many width steps = true
  · have hh := h1
    unfold headB at hh
    have hh := of_decide_eq_true hh
    have hn : ¬ (many < 1 ∨ 12 < many ∨ width < 2 ∨ 3 < width ∨ 40 < (steps.length : Int)) := by omega
    rw [if_neg hn]
    simp
    refine loop_inv (J := fun i ρ => ∃ x4 x5 x6, (∀ k < i, ∀ s, steps[k]? = some s → stepB many width s = true) ∧ ρ = [some (webD many width steps), some (.int many), some (.int width), some (.lst (steps.map stD)), x4, x5, x6]) _ 0 _ ⟨none, none, none, by simp, rfl⟩ ?_ ?_
    · rintro i e ρ he ⟨x4, x5, x6, hk, rfl⟩
      obtain ⟨s, hs, rfl⟩ := loop_at he
      have bad : stepB many width s = false → webB many width steps = false := fun z => by
        unfold webB
        rw [not_all hs z, Bool.and_false]
      simp
      by_cases h2 : 0 ≤ s.a ∧ s.a < many ∧ 0 ≤ s.b ∧ s.b < many ∧ s.a ≠ s.b
      · have hc : ¬ ((if s.b < s.a then s.b else s.a) < 0 ∨ many ≤ (if s.a < s.b then s.b else s.a) ∨ s.a = s.b) := by
          split <;> split <;> omega
        rw [if_neg hc]
        simp
        by_cases h3 : (s.p.length : Int) = width
        · have hne : s.p ≠ [] := fun z => by
            rw [z] at h3
            simp at h3
            omega
          simp [h3, oMin_row hne]
          by_cases h4 : minL s.p < 0
          · rw [if_pos h4]
            refine ⟨rfl, bad ?_⟩
            unfold stepB
            rw [(minL_neg hne).mp h4, Bool.and_false]
          · rw [if_neg h4]
            refine ⟨fun k hk2 t ht => ?_, _, _, _, rfl⟩
            by_cases hki : k = i
            · subst hki
              rw [hs] at ht
              cases ht
              unfold stepB
              have : (s.p.all fun x => decide (0 ≤ x)) = true := by
                cases e : s.p.all fun x => decide (0 ≤ x)
                · exact absurd ((minL_neg hne).mpr e) h4
                · rfl
              rw [this, Bool.and_true]
              exact decide_eq_true ⟨h2.1, h2.2.1, h2.2.2.1, h2.2.2.2.1, h2.2.2.2.2, h3⟩
            · exact hk k (by omega) t ht
        · simp [h3]
          refine bad ?_
          unfold stepB
          rw [decide_eq_false (fun z => h3 z.2.2.2.2.2), Bool.false_and]
      · have hc : (if s.b < s.a then s.b else s.a) < 0 ∨ many ≤ (if s.a < s.b then s.b else s.a) ∨ s.a = s.b := by
          split <;> split <;> omega
        rw [if_pos hc]
        refine ⟨rfl, bad ?_⟩
        unfold stepB
        rw [decide_eq_false (fun z => h2 ⟨z.1, z.2.1, z.2.2.1, z.2.2.2.1, z.2.2.2.2.1⟩), Bool.false_and]
    · rintro ρ ⟨x4, x5, x6, hk, rfl⟩
      unfold webB
      rw [h1, Bool.true_and]
      exact all_of_get fun k hk2 s hs => hk k (by simpa using hk2) s hs
  · have hh := Bool.eq_false_iff.mpr h1
    have h2 := hh
    unfold headB at h2
    have h2 := of_decide_eq_false h2
    have hc : many < 1 ∨ 12 < many ∨ width < 2 ∨ 3 < width ∨ 40 < (steps.length : Int) := by omega
    rw [if_pos hc]
    refine ⟨rfl, ?_⟩
    unfold webB
    rw [hh, Bool.false_and]
theorem law_is_web_ok {many width : Int} {steps : List Stp} : F_law_is_web [webD many width steps] = .ok (.bl (webB many width steps)) := by
  refine run_ok ?_
  unfold g_law_is_web
  have e23 : oIn true (.int width) (.lst [.int 2, .int 3]) = .ok (.bl (!(decide (width = 2) || decide (width = 3)))) := by
    have h2 : Cl 1 (.lst [.int 2, .int 3]) := cl_lst (n := 0) (by simp [Cl])
    have h1 : Cl 0 (D.int width) := cl_int
    unfold oIn
    dsimp only
    rw [if_pos ⟨h1.ok (by decide), h2.ok (by decide)⟩]
    have q : ∀ i j : Int, deq (.int i) (.int j) = decide (j = i) := fun i j => by
      rw [Bool.eq_iff_iff, deq_iff (n := 0) (m := 0) cl_int cl_int]
      simp [eq_comm]
    simp [q]
  simp [dChain, e23]
  by_cases h1 : headB many width steps = true
  · have hh := h1
    unfold headB at hh
    have hh := of_decide_eq_true hh
    rw [if_neg (by omega)]
    simp
    refine loop_inv (J := fun i ρ => ∃ x4 x5 x6, (∀ k < i, ∀ s, steps[k]? = some s → stepB many width s = true) ∧ ρ = [some (webD many width steps), some (.int many), some (.int width), some (.lst (steps.map stD)), x4, x5, x6, none]) _ 0 _ ⟨none, none, none, by simp, rfl⟩ ?_ ?_
    · rintro i e ρ he ⟨x4, x5, x6, hk, rfl⟩
      obtain ⟨s, hs, rfl⟩ := loop_at he
      have bad : stepB many width s = false → webB many width steps = false := fun z => by
        unfold webB
        rw [not_all hs z, Bool.and_false]
      simp [dChain]
      by_cases h2 : 0 ≤ s.a ∧ s.a < many ∧ 0 ≤ s.b ∧ s.b < many ∧ s.a ≠ s.b ∧ (s.p.length : Int) = width
      · rw [if_neg (by omega)]
        simp
        rw [lcF_of (enc := D.int) (enc' := D.int) (fun x => decide (x < 0)) (fun x => x)]
        · simp [oNe_cl (n := 1) (cl_lst (n := 0) cl_ints) (cl_lst (n := 0) (ds := []) (by simp))]
          have e : deq (.lst ((s.p.filter fun x => decide (x < 0)).map D.int)) (.lst []) = s.p.all fun x => decide (0 ≤ x) := by
            rw [deq_nil (n := 1) (cl_lst (n := 0) cl_ints), isEmpty_map, filter_isEmpty]
            congr 1
            funext x
            simp only [← decide_not, Int.not_lt]
          rw [e]
          cases e2 : s.p.all fun x => decide (0 ≤ x)
          · simp
            refine (bad ?_)
            unfold stepB
            rw [e2, Bool.and_false]
          · simp
            refine fun k hk2 t ht => ?_
            by_cases hki : k = i
            · subst hki
              rw [hs] at ht
              cases ht
              unfold stepB
              rw [e2, Bool.and_true]
              exact decide_eq_true h2
            · exact hk k (by omega) t ht
        · intro x hx
          simp
      · rw [if_pos (by omega)]
        have : stepB many width s = false := by
          unfold stepB
          rw [decide_eq_false h2, Bool.false_and]
        simp [bad this]
    · rintro ρ ⟨x4, x5, x6, hk, rfl⟩
      unfold webB
      rw [h1, Bool.true_and]
      exact all_of_get fun k hk2 s hs => hk k (by simpa using hk2) s hs
  · have hh := Bool.eq_false_iff.mpr h1
    have h2 := hh
    unfold headB at h2
    have h2 := of_decide_eq_false h2
    rw [if_pos (by omega)]
    unfold webB
    rw [hh, Bool.false_and]
    rfl
/-! ### a web, drawn -/
/-- what is drawn: a good web of prices of at most forty figures -/
structure GoodWeb (many width : Int) (steps : List Stp) : Prop where
  m1 : 1 ≤ many
  m2 : many ≤ 12
  w : width = 2 ∨ width = 3
  l : steps.length ≤ 40
  s : ∀ s ∈ steps, 0 ≤ s.a ∧ s.a < many ∧ 0 ≤ s.b ∧ s.b < many ∧ s.a ≠ s.b ∧ (s.p.length : Int) = width ∧ ∀ x ∈ s.p, 0 ≤ x ∧ x ≤ 10000000000000000000000000000000000000000
theorem getI_ints {xs : List Int} {k : Int} (h : 0 ≤ k) (h' : k < xs.length) : ∃ x, getI (xs.map D.int) k = .ok (.int x) ∧ x ∈ xs := by
  have h2 : k.toNat < xs.length := by omega
  exact ⟨_, getI_map (enc := D.int) h h2, List.getElem_mem h2⟩
theorem price_ex {n kind : Int} (h : 0 ≤ n) (h' : n < 2147483648) : ∃ x : Int, F_law_price [.int n, .int kind] = .ok (.int x) ∧ 0 ≤ x ∧ x ≤ 10000000000000000000000000000000000000000 := by
  have z : ∃ d, F_law_price [.int n, .int kind] = .ok d ∧ ∃ x : Int, d = .int x ∧ 0 ≤ x ∧ x ≤ 10000000000000000000000000000000000000000 := by
    refine run_ex ?_
    unfold g_law_price
    simp
    by_cases h1 : kind = 1
    · simp [h1]
      omega
    · simp [h1]
      by_cases h2 : kind = 2
      · simp [h2]
        obtain ⟨x, ex, hx⟩ := getI_ints (xs := [1000000000000000000000000000000000000, 10000000000000000000000000000000000000]) (k := n / 3000 % 2) (by omega) (by simp; omega)
        simp at ex hx
        have hx0 : 0 ≤ x ∧ x ≤ 10000000000000000000000000000000000000 := by omega
        have e0 := Int.mul_nonneg (show 0 ≤ n % 1000 by omega) hx0.1
        have e1 : n % 1000 * x ≤ 999 * 10000000000000000000000000000000000000 := Int.mul_le_mul (by omega) hx0.2 hx0.1 (by decide)
        simp [ex, oMul_ok (i := n % 1000) (j := x) ⟨by omega, by omega⟩ ⟨by omega, by omega⟩]
        omega
      · simp [h2]
        obtain ⟨x, ex, hx⟩ := getI_ints (xs := [10, 4]) (k := if kind = 3 then 1 else 0) (by split <;> omega) (by split <;> simp)
        simp at ex hx
        have hx0 : 4 ≤ x ∧ x ≤ 10 := by omega
        have q1 := Int.emod_nonneg n (show x ≠ 0 by omega)
        have q2 := Int.emod_lt_of_pos n (show 0 < x by omega)
        simp [ex, show 0 < x by omega]
        omega
  obtain ⟨d, e, x, rfl, h⟩ := z
  exact ⟨x, e, h⟩
theorem web_ex (ns : List Int) : ∃ many width steps, F_law_web [.lst (ns.map .int)] = .ok (webD many width steps) ∧ GoodWeb many width steps := by
  have z : ∃ d, F_law_web [.lst (ns.map .int)] = .ok d ∧ ∃ many width steps, d = webD many width steps ∧ GoodWeb many width steps := by
    refine run_ex ?_
    unfold g_law_web
    obtain ⟨m0, b0, c0⟩ := mix_ok (c := cellA ns 0) (k := 0) (by decide) (by decide)
    obtain ⟨m1, b1, c1⟩ := mix_ok (c := cellA ns 0) (k := 1) (by decide) (by decide)
    obtain ⟨m2, b2, c2⟩ := mix_ok (c := cellA ns 0) (k := 2) (by decide) (by decide)
    obtain ⟨m3, b3, c3⟩ := mix_ok (c := cellA ns 0) (k := 3) (by decide) (by decide)
    obtain ⟨m4, b4, c4⟩ := mix_ok (c := cellA ns 0) (k := 4) (by decide) (by decide)
    simp [F_cell_at (show (0 : Int) ≤ 0 by decide), m0, m1, m4, oMul_ok (i := 3) (j := 1 + mixA (cellA ns 0) 0 % 6) ⟨by decide, by decide⟩ ⟨by omega, by omega⟩]
    generalize mixA (cellA ns 0) 4 = q4
    generalize mixA (cellA ns 0) 1 = q1
    generalize mixA (cellA ns 0) 0 = q0 at *
    refine wp_mid (I := fun ρ => ∃ many most kind : Int, 1 ≤ many ∧ many ≤ 12 ∧ 1 ≤ most ∧ most ≤ 41 ∧ ρ = [some (.lst (ns.map .int)), some (.int (cellA ns 0)), some (.int many), some (.int most), some (.int kind), none, none, none, none, none, none, none, none, none]) ?_ ?_
    · by_cases h : q1 % 8 = 1
      · rw [if_pos h]
        simp [m0]
        exact ⟨_, by omega, by omega, _, by omega, by omega, rfl, rfl⟩
      · rw [if_neg h]
        exact ⟨_, _, _, by omega, by omega, by omega, by omega, rfl⟩
    rintro ρ ⟨many, most, kind, hm1, hm2, ho1, ho2, rfl⟩
    simp [m0, m1]
    refine wp_mid (I := fun ρ => ∃ many most kind : Int, 1 ≤ many ∧ many ≤ 12 ∧ 1 ≤ most ∧ most ≤ 41 ∧ ρ = [some (.lst (ns.map .int)), some (.int (cellA ns 0)), some (.int many), some (.int most), some (.int kind), none, none, none, none, none, none, none, none, none]) ?_ ?_
    · split
      · exact ⟨_, _, _, by omega, by omega, by omega, by omega, rfl⟩
      · exact ⟨_, _, _, hm1, hm2, ho1, ho2, rfl⟩
    clear hm1 hm2 ho1 ho2
    rintro ρ ⟨many, most, kind, hm1, hm2, ho1, ho2, rfl⟩
    have k1 := Int.emod_nonneg (mixA (cellA ns 0) 3) (show most ≠ 0 by omega)
    have k2 := Int.emod_lt_of_pos (mixA (cellA ns 0) 3) (show 0 < most by omega)
    simp [m2, m3, show 0 < most by omega, itR1_ok k1 (by omega), upTo_map]
    obtain ⟨w, hw, ew⟩ : ∃ w : Nat, (w = 2 ∨ w = 3) ∧ 2 + mixA (cellA ns 0) 2 % 2 = w := ⟨(2 + mixA (cellA ns 0) 2 % 2).toNat, by omega, by omega⟩
    rw [ew]
    refine loop_foldI (J := fun n (_ : Unit) ρ => ∃ (ss : List Stp) (x7 x8 x9 x10 x11 x12 x13 : Option D), GoodWeb many w ss ∧ ρ = [some (.lst (ns.map .int)), some (.int (cellA ns 0)), some (.int many), some (.int most), some (.int kind), some (.int w), some (.lst (ss.map stD)), x7, x8, x9, x10, x11, x12, x13]) (fun s _ => s) _ 0 () _ ⟨[], none, none, none, none, none, none, none, ⟨hm1, hm2, by omega, by simp, by simp⟩, rfl⟩ ?_ ?_
    · rintro i ⟨⟩ a ρ hi ha ⟨ss, x7, x8, x9, x10, x11, x12, x13, GW, rfl⟩
      have ha2 : a < 41 := by have := List.mem_range.mp ha; omega
      obtain ⟨m5, b5, c5⟩ := mix_ok (c := cellA ns (1 + (a : Int) % 10)) (k := 20 + (a : Int)) (by omega) (by omega)
      simp [F_cell_at (ns := ns) (k := 1 + (a : Int) % 10) (by omega), m5, show 0 < many by omega]
      generalize mixA (cellA ns (1 + (a : Int) % 10)) (20 + (a : Int)) = q
      have hmx : 0 < (if 1 < many - 1 then many - 1 else 1) := by split <;> omega
      have hmx2 : (if 1 < many - 1 then many - 1 else 1) ≤ 12 := by split <;> omega
      generalize (if 1 < many - 1 then many - 1 else 1) = mx at hmx hmx2
      simp [hmx, show 0 < many by omega, itR1_ok (j := (w : Int)) (by omega) (by omega), upTo_map]
      generalize hone : q % many = one
      have hone1 : 0 ≤ one ∧ one < many := by
        rw [← hone]
        exact ⟨Int.emod_nonneg _ (by omega), Int.emod_lt_of_pos _ (by omega)⟩
      generalize hoth : (one + 1 + q / 16 % mx) % many = oth
      have hoth1 : 0 ≤ oth ∧ oth < many := by
        rw [← hoth]
        exact ⟨Int.emod_nonneg _ (by omega), Int.emod_lt_of_pos _ (by omega)⟩
      refine loop_foldI (J := fun n (_ : Unit) ρ => ∃ (r : List Int) (x12 x13 : Option D), r.length = n ∧ (∀ x ∈ r, 0 ≤ x ∧ x ≤ 10000000000000000000000000000000000000000) ∧ ρ = [some (.lst (ns.map .int)), some (.int (cellA ns 0)), some (.int many), some (.int most), some (.int kind), some (.int w), some (.lst (ss.map stD)), some (.int a), some (.int q), some (.int one), some (.int oth), some (.lst (r.map .int)), x12, x13]) (fun s _ => s) _ 0 () _ ⟨[], x12, x13, rfl, by simp, by simp⟩ ?_ ?_
      · rintro s ⟨⟩ b ρ hs hb ⟨r, x12, x13, hr, hrb, rfl⟩
        have hb2 : b < w := List.mem_range.mp hb
        obtain ⟨m6, b6, c6⟩ := mix_ok (c := cellA ns (1 + (a : Int) % 10)) (k := 60 + 3 * (a : Int) + (b : Int)) (by omega) (by omega)
        obtain ⟨x, ex, hx⟩ := price_ex (kind := kind) b6 c6
        have hr2 : r.length < 16777216 := by simp at hs; omega
        simp [oMul_ok (i := 3) (j := (a : Int)) ⟨by decide, by decide⟩ ⟨by omega, by omega⟩, F_cell_at (ns := ns) (k := 1 + (a : Int) % 10) (by omega), m6, ex, hr2]
        refine ⟨r ++ [x], by simp; omega, fun y hy => ?_, by simp⟩
        rcases List.mem_append.mp hy with hy | hy
        · exact hrb y hy
        · rw [List.mem_singleton.mp hy]
          exact hx
      · rintro ρ ⟨r, x12, x13, hr, hrb, rfl⟩
        have hl := GW.l
        simp
        by_cases hc : one ≠ oth ∧ (ss.length : Int) < 40
        · rw [if_pos hc]
          simp [show ss.length < 16777216 by omega]
          refine ⟨ss ++ [⟨one, oth, r⟩], ⟨hm1, hm2, GW.w, by simp; omega, fun s hs => ?_⟩, by simp [rowD]⟩
          rcases List.mem_append.mp hs with hs | hs
          · exact GW.s s hs
          · rw [List.mem_singleton.mp hs]
            exact ⟨hone1.1, hone1.2, hoth1.1, hoth1.2, hc.1, by simp at hr; simp [hr], hrb⟩
        · rw [if_neg hc]
          exact ⟨ss, GW, _, _, _, _, _, _, _, rfl⟩
    · rintro ρ ⟨ss, x7, x8, x9, x10, x11, x12, x13, GW, rfl⟩
      simp
      exact ⟨many, w, ss, ⟨rfl, rfl, rfl⟩, GW⟩
  obtain ⟨d, e, m, w, s, rfl, h⟩ := z
  exact ⟨m, w, s, e, h⟩
end DL

set_option Elab.async false
set_option linter.all false
set_option maxRecDepth 100000
set_option maxHeartbeats 4000000
set_option autoImplicit false
/-! P2s: the program's covers, stair_of, is_stair. -/
namespace DL
open PySem
@[simp] theorem oAll_m {l : List Bool} : oAll [.lst (l.map .bl)] = .ok (.bl (l.all id)) := by
  show (match bools (l.map D.bl) with | some bs => R.ok (D.bl (bs.all id)) | none => .bad) = _
  rw [bools_map]
@[simp] theorem oAny_m {l : List Bool} : oAny [.lst (l.map .bl)] = .ok (.bl (l.any id)) := by
  show (match bools (l.map D.bl) with | some bs => R.ok (D.bl (bs.any id)) | none => .bad) = _
  rw [bools_map]
theorem filter_yes {α : Type} (l : List α) : l.filter (fun _ => true) = l := List.filter_eq_self.mpr fun _ _ => rfl
theorem pcovers_ok {a b : List Int} (h : a.length ≤ b.length) (hl : a.length ≤ 1000) : F_covers [rowD a, rowD b] = .ok (.bl (cov a b)) := by
  refine run_ok ?_
  unfold g_covers
  have e : oLen [rowD a] = .ok (.int a.length) := by unfold rowD; simp
  simp [e, itR1_ok (show (0 : Int) ≤ a.length by omega) (show (a.length : Int) ≤ 16777216 by omega), upTo_map]
  rw [lcF_of (enc := fun i : Nat => D.int i) (enc' := D.bl) (fun _ => true) (fun k => decide (a.getD k 0 ≤ b.getD k 0))]
  · rw [filter_yes]
    simp only [R.bind_ok, oAll_m, sat_ok, cov, List.all_map]
    rfl
  · intro k hk
    have hk : k < a.length := List.mem_range.mp hk
    simp [wipeR, getI_row (r := a) (k := k) (by omega) (by omega), getI_row (r := b) (k := k) (by omega) (by omega), at0]
/-! sorted rows, each once -/
theorem cov_self (r : List Int) : cov r r = true := by simp [cov]
theorem stepA_cov (found : List (List Int)) (r : List Int) : ∃ o ∈ stepA found r, cov o r = true := by
  unfold stepA
  split
  · exact ⟨r, by simp, cov_self r⟩
  · rename_i h
    rw [filter_isEmpty] at h
    simp at h
    exact h
theorem stepA_twice (found : List (List Int)) (r : List Int) : stepA (stepA found r) r = stepA found r := by
  obtain ⟨o, ho, hc⟩ := stepA_cov found r
  generalize stepA found r = f at *
  unfold stepA
  rw [if_neg]
  rw [filter_isEmpty]
  simp
  exact ⟨o, ho, hc⟩
/-- neighbours alike, once -/
def dd : List (List Int) → List (List Int)
  | [] => []
  | [a] => [a]
  | a :: b :: l => if a = b then dd (b :: l) else a :: dd (b :: l)
theorem dd_mem {y : List Int} : ∀ {l : List (List Int)}, y ∈ dd l ↔ y ∈ l
  | [] => Iff.rfl
  | [a] => Iff.rfl
  | a :: b :: l => by
    unfold dd
    split
    · rename_i h
      subst h
      rw [dd_mem]
      simp
    · rw [List.mem_cons, dd_mem, List.mem_cons (a := y) (b := a)]
theorem lt_le {a b c : List Int} (h : a < b) (h2 : b ≤ c) : a < c := by
  rcases List.le_iff_lt_or_eq.mp h2 with h2 | h2
  · exact List.lt_trans h h2
  · exact h2 ▸ h
theorem dd_asc : ∀ {l : List (List Int)}, l.Pairwise (· ≤ ·) → (dd l).Pairwise (· < ·)
  | [], _ => List.Pairwise.nil
  | [a], _ => by simp [dd]
  | a :: b :: l, h => by
    have h1 := List.pairwise_cons.mp h
    have ih := dd_asc h1.2
    unfold dd
    split
    · exact ih
    · rename_i hne
      refine List.pairwise_cons.mpr ⟨fun y hy => ?_, ih⟩
      have hy2 : y ∈ b :: l := dd_mem.mp hy
      have hab : a ≤ b := h1.1 b List.mem_cons_self
      have hlt : a < b := by
        rcases List.le_iff_lt_or_eq.mp hab with h | h
        · exact h
        · exact absurd h hne
      rcases List.mem_cons.mp hy2 with e | e
      · subst e; exact hlt
      · exact lt_le hlt ((List.pairwise_cons.mp h1.2).1 y e)
theorem dd_fold : ∀ (l : List (List Int)) (found : List (List Int)), (dd l).foldl stepA found = l.foldl stepA found
  | [], _ => rfl
  | [a], _ => rfl
  | a :: b :: l, found => by
    unfold dd
    split
    · rename_i h
      subst h
      rw [dd_fold (a :: l) found]
      simp only [List.foldl_cons, stepA_twice]
    · rw [List.foldl_cons, List.foldl_cons, dd_fold (b :: l)]
theorem sort_asc (rs : List (List Int)) : (rs.mergeSort rowLe).Pairwise (· ≤ ·) := by
  have h := List.pairwise_mergeSort (le := rowLe) (fun a b c h1 h2 => by
      simp only [rowLe, decide_eq_true_eq] at *
      exact List.le_trans h1 h2) (fun a b => by
      simp only [rowLe, Bool.or_eq_true, decide_eq_true_eq]
      exact List.le_total a b) rs
  exact h.imp fun h => by simpa [rowLe] using h
theorem dd_sort (rs : List (List Int)) : dd (rs.mergeSort rowLe) = sortU rs :=
  asc_ext (dd_asc (sort_asc rs)) sortU_asc fun y => by rw [dd_mem, sortU_mem, List.mem_mergeSort]
theorem fold_sort (rs : List (List Int)) : (rs.mergeSort rowLe).foldl stepA [] = stairA rs := by
  rw [← dd_fold, dd_sort]
  rfl
theorem oSort_ok {rs : List (List Int)} {w : Nat} (h : Wd w rs) (hw : 0 < w) : oSort (rs.map rowD) = .ok (.lst ((rs.mergeSort rowLe).map rowD)) := by
  have hh : rs.all (fun r => !r.isEmpty) = true := by
    rw [List.all_eq_true]
    intro r hr
    have := h r hr
    cases r with
    | nil => exact absurd this (by show ¬ (0 = w); omega)
    | cons a r => rfl
  unfold oSort
  rw [rowsOf_map]
  dsimp only
  rw [if_pos hh]
theorem stair_of_ok {rs : List (List Int)} {w : Nat} (h : Wd w rs) (hw : 0 < w) (hw2 : w ≤ 1000) (hn : rs.length < 16777216) : F_stair_of [.lst (rs.map rowD)] = .ok (.lst ((stairA rs).map rowD)) := by
  refine run_ok ?_
  unfold g_stair_of
  simp [oSort_ok h hw]
  refine loop_foldI (J := fun n found ρ => ∃ x2 x3, found.length ≤ n ∧ (∀ r ∈ found, r.length = w) ∧ ρ = [some (.lst (rs.map rowD)), some (.lst (found.map rowD)), x2, x3]) stepA _ 0 [] _ ⟨_, _, by simp, by simp, rfl⟩ ?_ ?_
  · rintro i found r ρ hi hr ⟨x2, x3, hf, hwf, rfl⟩
    have hrw : r.length = w := h r (List.mem_mergeSort.mp hr)
    simp
    rw [lcF_of (enc := rowD) (enc' := D.bl) (fun _ => true) (fun o => cov o r)]
    · rw [filter_yes]
      simp [-List.map_map]
      unfold stepA
      rw [filter_isEmpty]
      have hlen : found.length < 16777216 := by
        simp at hi
        omega
      by_cases hc : ∀ x ∈ found, cov x r = false
      · have h2 : (found.all fun a => !cov a r) = true := by simpa using hc
        rw [if_pos hc]
        simp [hlen, h2]
        exact ⟨by omega, fun a ha => by rcases ha with ha | rfl <;> simp_all⟩
      · have h2 : (found.all fun a => !cov a r) = false := by
          cases e : (found.all fun a => !cov a r)
          · rfl
          · exact absurd (by simpa using e) hc
        rw [if_neg hc]
        simp [h2]
        exact ⟨by omega, hwf⟩
    · intro o ho
      have := hwf o ho
      simp [pcovers_ok (a := o) (b := r) (by omega) (by omega)]
  · rintro ρ' ⟨x2, x3, _, _, rfl⟩
    simp [fold_sort]
end DL

set_option Elab.async false
set_option linter.all false
set_option maxRecDepth 100000
set_option maxHeartbeats 4000000
set_option autoImplicit false
/-! P2x: texts. -/
namespace DL
open PySem L2 TL
/-! ### texts in D -/
def Asc (x : Str) : Prop := ∀ c ∈ tl x, c < 128
theorem cl_str {n : Nat} {x : Str} (h : Asc x) : Cl n (.str x) := by
  have e : (toP (.str x)).canLay0 = true := by
    show (x.cps.all (· < 0x110000)) = true
    rw [← Array.all_toList, List.all_eq_true]
    intro c hc
    have := h c hc
    exact decide_eq_true (by omega)
  simpa [Cl] using e
theorem okS {x : Str} (h : Asc x) : okP (.str x) = true := (cl_str (n := 0) h).ok (by decide)
theorem oNe_a {a b : Str} (ha : Asc a) (hb : Asc b) : oNe (.str a) (.str b) = .ok (.bl (!decide (a = b))) := oNe_s (okS ha) (okS hb)
theorem oEq_a {a b : Str} (ha : Asc a) (hb : Asc b) : oEq (.str a) (.str b) = .ok (.bl (decide (a = b))) := by
  unfold oEq
  rw [if_pos ⟨okS ha, okS hb⟩]
  congr 3
theorem asc_of {s : String} (h : (s.toList.map Char.toNat).all (· < 128) = true := by decide) : Asc (Str.ofString s) := by
  intro c hc
  rw [tl_ofString] at hc
  exact of_decide_eq_true (List.all_eq_true.mp h c hc)
theorem asc_app {x y : Str} (h : Asc x) (h' : Asc y) : Asc (x ++ y) := fun c hc => by
  rw [tl_append] at hc
  rcases List.mem_append.mp hc with hc | hc
  · exact h c hc
  · exact h' c hc
def numS (n : Nat) : Str := Str.ofString (toString ((n : Nat) : Int))
theorem tl_numS (n : Nat) : tl (numS n) = numL n := tl_num n
theorem asc_num (n : Nat) : Asc (numS n) := fun c hc => by
  rw [tl_numS] at hc
  have := numL_digits n c hc
  omega
theorem oStr_ok {n : Int} (h : 0 ≤ n) (h' : n < 10 ^ 100) : oStr [.int n] = .ok (.str (numS n.toNat)) := by
  show (if n.natAbs.log2 < 1920 then _ else _) = _
  have e : n.natAbs.log2 < 1920 := by
    by_cases z : n.natAbs = 0
    · rw [z]; decide
    · rw [Nat.log2_lt z]
      have : n.natAbs < 10 ^ 100 := by omega
      exact Nat.lt_trans this (by decide +kernel)
  rw [if_pos e]
  have : ((n.toNat : Nat) : Int) = n := by omega
  unfold numS
  rw [this]
theorem len_numS {n k : Nat} (hk : 0 < k) (h : n < 10 ^ k) : (numS n).length ≤ k := by
  rw [len_tl, tl_numS]
  exact numL_len hk h
theorem len_numS_pos (n : Nat) : 0 < (numS n).length := by
  rw [len_tl, tl_numS]
  exact List.length_pos_iff.mpr (numL_ne n)
theorem numS_inj {m n : Nat} (h : numS m = numS n) : m = n := numL_inj (by rw [← tl_numS, ← tl_numS, h])
/-- no number but nought begins with nought -/
theorem numL_head (n : Nat) : n ≠ 0 → ∀ c l, numL n = c :: l → c ≠ 48 := by
  induction n using Nat.strongRecOn with
  | _ n ih =>
    intro hn c l e
    by_cases h : n < 10
    · rw [numL_lt h] at e
      cases e
      omega
    · rw [numL_step (by omega)] at e
      cases e2 : numL (n / 10) with
      | nil => exact absurd e2 (numL_ne _)
      | cons d r =>
        rw [e2, List.cons_append] at e
        cases e
        exact ih (n / 10) (by omega) (by omega) c r e2
theorem cutS_take {z : Str} {k : Nat} (h : k ≤ z.length) : tl (cutS z none (some (k : Int))) = (tl z).take k := by
  unfold cutS
  rw [tl_mk]
  have e : HT.sIx z.length z.length (some (k : Int)) = k := by
    simp [HT.sIx]
    split <;> omega
  have e0 : HT.sIx z.length 0 none = 0 := rfl
  rw [e, e0]
  rfl
/-! ### numbers read -/
theorem sure_ok : F_sure [.bl true] = .ok .non := rfl
theorem digits_txt : tl (Str.ofString "0123456789") = [48, 49, 50, 51, 52, 53, 54, 55, 56, 57] := by rw [tl_ofString]; decide
theorem inS_digit {c : Nat} (h : 48 ≤ c ∧ c ≤ 57) : oInS false (.str ⟨#[c]⟩) (.str (Str.ofString "0123456789")) = .ok (.bl true) := by
  unfold oInS
  dsimp only
  rw [if_pos (show (⟨#[c]⟩ : Str).length = 1 from rfl)]
  have : ((Str.ofString "0123456789").cps.toList.contains ((⟨#[c]⟩ : Str).cps.getD 0 0)) = true := by
    show ((tl (Str.ofString "0123456789")).contains c) = true
    rw [digits_txt, List.contains_iff_mem]
    simp
    omega
  rw [this]
  rfl
theorem asc_0 : Asc (Str.ofString "0") := asc_of
theorem tl_0 : tl (Str.ofString "0") = [48] := by rw [tl_ofString]; decide
theorem oIx_s0 {z : Str} {c : Nat} {l : List Nat} (h : tl z = c :: l) (hz : z.length ≤ 16777216) : oIx (.str z) (.int 0) = .ok (.str ⟨#[c]⟩) := by
  show (if (0 : Int) ≤ 0 ∧ (0 : Int) < z.length ∧ z.length ≤ 16777216 then (match z.cps.toList[(0 : Int).toNat]? with | some c => R.ok (D.str ⟨#[c]⟩) | none => .bad) else .bad) = _
  have hl : 0 < z.length := by rw [len_tl, h]; simp
  rw [if_pos ⟨by decide, by omega, hz⟩]
  have e : z.cps.toList[(0 : Int).toNat]? = some c := by
    show (tl z)[0]? = some c
    rw [h]
    rfl
  rw [e]
@[simp] theorem oLen_s {z : Str} : oLen [.str z] = if z.length ≤ 16777216 then .ok (.int z.length) else .bad := rfl
theorem count_in_num {n : Nat} (h : n < 10 ^ 40) : F_count_in [.str (numS n)] = .ok (.int n) := by
  refine run_ok ?_
  unfold g_count_in
  have hl := len_numS (k := 40) (by decide) h
  have hl0 := len_numS_pos n
  have hl2 : (numS n).length ≤ 16777216 := by omega
  simp [dChain, hl2, hl0, show ((numS n).length : Int) ≤ 40 by omega, sure_ok]
  obtain ⟨c, l, e⟩ : ∃ c l, numL n = c :: l := by
    cases e : numL n with
    | nil => exact absurd e (numL_ne n)
    | cons c l => exact ⟨c, l, rfl⟩
  have ei : iStrs (dV 0) [some (D.str (numS n)), none] = .ok ((numL n).map fun c => D.str ⟨#[c]⟩) := by
    show (if (numS n).length ≤ sizeLine then R.ok ((numS n).cps.toList.map fun c => D.str ⟨#[c]⟩) else .bad) = _
    rw [if_pos (by rw [sizeLine_eq]; exact hl2)]
    rw [← tl_numS]
  rw [ei]
  simp
  refine loop_foldI (J := fun _ (_ : Unit) ρ => ∃ x1, ρ = [some (.str (numS n)), x1]) (fun s _ => s) _ 0 () _ ⟨_, rfl⟩ ?_ ?_
  · rintro i ⟨⟩ c ρ hi hc ⟨x1, rfl⟩
    have hd := numL_digits n c hc
    simp [inS_digit hd, sure_ok]
  · rintro ρ ⟨x1, rfl⟩
    have e0 := oIx_s0 (z := numS n) (by rw [tl_numS]; exact e) hl2
    have ac : Asc ⟨#[c]⟩ := fun d hd => by
      have hd : d ∈ [c] := hd
      rw [List.mem_singleton.mp hd]
      have := asc_num n c (by rw [tl_numS, e]; exact List.mem_cons_self)
      exact this
    have key : (!decide ((⟨#[c]⟩ : Str) = Str.ofString "0")) = true ∨ decide (numS n = Str.ofString "0") = true := by
      by_cases hn : n = 0
      · right
        subst hn
        exact decide_eq_true (ext_tl (by rw [tl_numS, numL_lt (by decide), tl_0]))
      · left
        have := numL_head n hn c l e
        rw [decide_eq_false fun z => this ?_]
        · rfl
        · have z2 := congrArg tl z
          rw [tl_0] at z2
          have z2 : [c] = [48] := z2
          exact (List.cons.inj z2).1
    have ea : oInt [.str (numS n)] = .ok (.int n) := by
      show (if (numS n).length ≤ 640 then (match intText? (numS n) with | some n => R.ok (D.int n) | none => .bad) else .bad) = _
      rw [if_pos (by omega)]
      have := int_num (n := n) (by rw [← tl_numS, ← len_tl]; omega)
      have : intText? (numS n) = some (n : Int) := this
      rw [this]
    simp [e0, oNe_a ac asc_0, oEq_a (asc_num n) asc_0, ea]
    rcases key with k | k
    · simp at k
      simp [k, sure_ok]
    · simp at k
      simp [k, sure_ok]
theorem tl_minus : tl (Str.ofString "-") = [45] := by rw [tl_ofString]; decide
theorem number_in_num {n : Nat} (h : n < 10 ^ 40) : F_number_in [.str (numS n)] = .ok (.int n) := by
  refine run_ok ?_
  unfold g_number_in
  have hl := len_numS (k := 40) (by decide) h
  have hl0 := len_numS_pos n
  have hl2 : (numS n).length ≤ 16777216 := by omega
  have ec := cutS_take (z := numS n) (k := 1) (by omega)
  have ac : Asc (cutS (numS n) none (some 1)) := fun c hc => by
    have hc : c ∈ tl (cutS (numS n) none (some ((1 : Nat) : Int))) := hc
    rw [ec] at hc
    exact asc_num n c (List.mem_of_mem_take hc)
  have en : cutS (numS n) none (some 1) ≠ Str.ofString "-" := fun z => by
    have z2 := congrArg tl z
    rw [tl_minus, show tl (cutS (numS n) none (some 1)) = _ from ec, tl_numS] at z2
    have : (45 : Nat) ∈ numL n := List.mem_of_mem_take (by rw [z2]; exact List.mem_singleton_self _)
    have := numL_digits n 45 this
    omega
  simp [hl2, oNe_a ac (asc_of (s := "-")), en, count_in_num h]
/-! ### the words of a web -/
abbrev S (x : String) : Str := Str.ofString x
def headW (many width : Nat) : List Str := [S "places", numS many, S "prices", numS width]
def stepWd (s : Stp) : List Str := S "step" :: numS s.a.toNat :: numS s.b.toNat :: s.p.map fun x => numS x.toNat
abbrev sp : Str := S " "
abbrev nl : Str := S "\n"
theorem tl_sp : tl sp = [32] := by rw [tl_ofString]; decide
theorem tl_nl : tl nl = [10] := by rw [tl_ofString]; decide
def lineS (ws : List Str) : Str := Txt.join sp ws
def webT (many width : Nat) (ss : List Stp) : Str := Txt.join nl (lineS (headW many width) :: ss.map fun s => lineS (stepWd s))
theorem tl_join2 (y : Str) (ws : List Str) : tl (Txt.join y ws) = joinL (tl y) (ws.map tl) := by rw [join_eq, tl_join]
theorem joinL_mem {S : List Nat} {c : Nat} : ∀ {ps : List (List Nat)}, c ∈ joinL S ps → c ∈ S ∨ ∃ p ∈ ps, c ∈ p
  | [], h => by cases h
  | [p], h => .inr ⟨p, List.mem_singleton_self _, h⟩
  | p :: q :: r, h => by
    have h : c ∈ p ++ (S ++ joinL S (q :: r)) := h
    rcases List.mem_append.mp h with h | h
    · exact .inr ⟨p, List.mem_cons_self, h⟩
    · rcases List.mem_append.mp h with h | h
      · exact .inl h
      · rcases joinL_mem h with h | ⟨z, hz, h⟩
        · exact .inl h
        · exact .inr ⟨z, List.mem_cons_of_mem _ hz, h⟩
theorem joinL_len {S : List Nat} {m : Nat} : ∀ {ps : List (List Nat)}, (∀ p ∈ ps, p.length ≤ m) → (joinL S ps).length ≤ ps.length * (m + S.length)
  | [], _ => Nat.zero_le _
  | [p], h => by
    have := h p List.mem_cons_self
    show p.length ≤ 1 * (m + S.length)
    omega
  | p :: q :: r, h => by
    have h1 := h p List.mem_cons_self
    have h2 := joinL_len (S := S) (m := m) (ps := q :: r) fun z hz => h z (List.mem_cons_of_mem _ hz)
    show (p ++ (S ++ joinL S (q :: r))).length ≤ _
    rw [List.length_append, List.length_append, List.length_cons, Nat.succ_mul]
    omega
/-- words: short, of signs without blanks -/
structure Word (x : Str) : Prop where
  a : ∀ c ∈ tl x, 33 ≤ c ∧ c < 128
  l : (tl x).length ≤ 41
theorem word_num {n : Nat} (h : n < 10 ^ 41) : Word (numS n) := by
  refine ⟨fun c hc => ?_, ?_⟩
  · rw [tl_numS] at hc
    have := numL_digits n c hc
    omega
  · rw [tl_numS]
    exact numL_len (by decide) h
theorem word_of {s : String} (h : (s.toList.map Char.toNat).all (fun c => decide (33 ≤ c ∧ c < 128)) = true := by decide) (hl : (s.toList.map Char.toNat).length ≤ 41 := by decide) : Word (S s) := by
  refine ⟨fun c hc => ?_, ?_⟩
  · unfold S at hc
    rw [tl_ofString] at hc
    exact of_decide_eq_true (List.all_eq_true.mp h c hc)
  · rw [tl_ofString]
    exact hl
theorem Word.asc {x : Str} (h : Word x) : Asc x := fun c hc => (h.a c hc).2
theorem Word.free {x : Str} (h : Word x) : 32 ∉ tl x := fun z => by have := h.a 32 z; omega
theorem sp_small : sp.cps.all (· < 256) = true := by
  rw [← Array.all_toList, show sp.cps.toList = tl sp from rfl, tl_sp]
  decide
theorem nl_small : nl.cps.all (· < 256) = true := by
  rw [← Array.all_toList, show nl.cps.toList = tl nl from rfl, tl_nl]
  decide
theorem line_split {ws : List Str} (hne : ws ≠ []) (h : ∀ x ∈ ws, Word x) : Txt.split (lineS ws) sp = ws := split_join tl_sp sp_small hne fun p hp => (h p hp).free
theorem line_free {ws : List Str} (h : ∀ x ∈ ws, Word x) : 10 ∉ tl (lineS ws) := fun z => by
  unfold lineS at z
  rw [tl_join2, tl_sp] at z
  rcases joinL_mem z with z | ⟨p, hp, z⟩
  · exact absurd z (by decide)
  · obtain ⟨x, hx, rfl⟩ := List.mem_map.mp hp
    have := (h x hx).a 10 z
    omega
theorem line_len {ws : List Str} (h : ∀ x ∈ ws, Word x) : (tl (lineS ws)).length ≤ ws.length * 42 := by
  unfold lineS
  rw [tl_join2, tl_sp]
  have := joinL_len (S := [32]) (m := 41) (ps := ws.map tl) fun p hp => by
    obtain ⟨x, hx, rfl⟩ := List.mem_map.mp hp
    exact (h x hx).l
  simpa using this
structure WebOk (many width : Int) (ss : List Stp) : Prop where
  m1 : 1 ≤ many
  m2 : many ≤ 12
  w : width = 2 ∨ width = 3
  l : ss.length ≤ 40
  s : ∀ s ∈ ss, 0 ≤ s.a ∧ s.a < many ∧ 0 ≤ s.b ∧ s.b < many ∧ s.a ≠ s.b ∧ (s.p.length : Int) = width ∧ ∀ x ∈ s.p, 0 ≤ x ∧ x < 10 ^ 40
theorem WebOk.webB {many width : Int} {ss : List Stp} (h : WebOk many width ss) : webB many width ss = true := by
  unfold DL.webB headB
  rw [decide_eq_true ⟨h.m1, h.m2, h.w, h.l⟩, Bool.true_and, List.all_eq_true]
  intro s hs
  obtain ⟨a1, a2, a3, a4, a5, a6, a7⟩ := h.s s hs
  unfold stepB
  rw [decide_eq_true ⟨a1, a2, a3, a4, a5, a6⟩, Bool.true_and, List.all_eq_true]
  exact fun x hx => decide_eq_true (a7 x hx).1
theorem WebOk.head {many width : Int} {ss : List Stp} (h : WebOk many width ss) : ∀ x ∈ headW many.toNat width.toNat, Word x := by
  intro x hx
  have := h.m1
  have := h.m2
  have := h.w
  unfold headW at hx
  simp only [List.mem_cons, List.not_mem_nil, or_false] at hx
  rcases hx with rfl | rfl | rfl | rfl
  · exact word_of
  · exact word_num (by omega)
  · exact word_of
  · exact word_num (by omega)
theorem WebOk.step {many width : Int} {ss : List Stp} (h : WebOk many width ss) {s : Stp} (hs : s ∈ ss) : ∀ x ∈ stepWd s, Word x := by
  intro x hx
  obtain ⟨a1, a2, a3, a4, a5, a6, a7⟩ := h.s s hs
  have := h.m2
  unfold stepWd at hx
  simp only [List.mem_cons] at hx
  rcases hx with rfl | rfl | rfl | hx
  · exact word_of
  · exact word_num (by omega)
  · exact word_num (by omega)
  · obtain ⟨y, hy, rfl⟩ := List.mem_map.mp hx
    have := a7 y hy
    exact word_num (by omega)
def linesW (many width : Int) (ss : List Stp) : List (List Str) := headW many.toNat width.toNat :: ss.map stepWd
theorem WebOk.lines {many width : Int} {ss : List Stp} (h : WebOk many width ss) : ∀ ws ∈ linesW many width ss, (ws ≠ [] ∧ ws.length ≤ 6) ∧ ∀ x ∈ ws, Word x := by
  intro ws hw
  unfold linesW at hw
  rcases List.mem_cons.mp hw with rfl | hw
  · exact ⟨⟨by simp [headW], by simp [headW]⟩, h.head⟩
  · obtain ⟨s, hs, rfl⟩ := List.mem_map.mp hw
    have h6 := (h.s s hs).2.2.2.2.2.1
    have := h.w
    exact ⟨⟨by simp [stepWd], by simp [stepWd]; omega⟩, h.step hs⟩
theorem webT_lines (many width : Int) (ss : List Stp) : webT many.toNat width.toNat ss = Txt.join nl ((linesW many width ss).map lineS) := by
  unfold webT linesW
  rw [List.map_cons, List.map_map]
  rfl
theorem WebOk.split {many width : Int} {ss : List Stp} (h : WebOk many width ss) : Txt.split (webT many.toNat width.toNat ss) nl = (linesW many width ss).map lineS := by
  rw [webT_lines]
  refine split_join tl_nl nl_small (by simp [linesW]) fun p hp => ?_
  obtain ⟨ws, hw, rfl⟩ := List.mem_map.mp hp
  exact line_free (h.lines ws hw).2
theorem WebOk.len {many width : Int} {ss : List Stp} (h : WebOk many width ss) : (webT many.toNat width.toNat ss).length ≤ 11000 := by
  rw [len_tl, webT_lines, tl_join2, tl_nl]
  have := joinL_len (S := [10]) (m := 252) (ps := ((linesW many width ss).map lineS).map tl) fun p hp => by
    rw [List.map_map] at hp
    obtain ⟨ws, hw, rfl⟩ := List.mem_map.mp hp
    have h1 := h.lines ws hw
    have := line_len h1.2
    have := h1.1.2
    show (tl (lineS ws)).length ≤ _
    omega
  have hl : (linesW many width ss).length ≤ 41 := by
    have := h.l
    simp [linesW]
    omega
  rw [List.length_map, List.length_map] at this
  have e : ([10] : List Nat).length = 1 := rfl
  rw [e] at this
  omega
theorem sIx_1 {n : Nat} (k : Nat) : HT.sIx n 0 (some (k : Int)) = min k n := HT.sIx_nat n 0 k
theorem cutD_from (ds : List D) (k : Nat) : cutD ds (some (k : Int)) none = ds.drop k := by
  unfold cutD
  rw [sIx_1]
  show (ds.drop (min k ds.length)).take (ds.length - min k ds.length) = _
  rw [List.take_of_length_le (by simp)]
  by_cases h : k ≤ ds.length
  · rw [Nat.min_eq_left h]
  · rw [Nat.min_eq_right (by omega), List.drop_length]
    exact (List.drop_eq_nil_of_le (by omega)).symm
theorem oSplit_ok {a b : Str} (hb : tl b ≠ []) (h : a.length ≤ 16000000) : oSplit a (.str b) = .ok (.lst ((Txt.split a b).map .str)) := by
  show (if (b.length == 0) = false ∧ a.length + 2 ≤ sizeLine then _ else _) = _
  have hb2 : (b.length == 0) = false := by
    rw [beq_eq_false_iff_ne, len_tl]
    exact fun z => hb (List.length_eq_zero_iff.mp z)
  have hs : a.length + 2 ≤ sizeLine := by
    rw [sizeLine_eq]
    omega
  rw [if_pos ⟨hb2, hs⟩]
@[simp] theorem dSplit_eq {f g : Env → R D} {ρ : Env} : dSplit f g ρ = (f ρ).bind fun x => (asS x).bind fun a => (g ρ).bind fun y => oSplit a y := rfl
@[simp] theorem dJoin_eq {f g : Env → R D} {ρ : Env} : dJoin f g ρ = (f ρ).bind fun x => (asS x).bind fun a => (g ρ).bind fun y => oJoin a y := rfl
@[simp] theorem asS_s {x : Str} : asS (.str x) = .ok x := rfl
@[simp] theorem dCallL_eq {F : List D → R D} {f : Env → R (List D)} {ρ : Env} : dCallL F f ρ = (f ρ).bind fun ds => match F ds with
  | .ok d => if flat d = true then .ok d else .bad
  | r => r := rfl
@[simp] theorem flat_n : flat .non = true := rfl
theorem getI_cons0 {d : D} {ds : List D} : getI (d :: ds) 0 = .ok d := getI_ok (by decide) rfl
theorem getI_cons1 {d d1 : D} {ds : List D} : getI (d :: d1 :: ds) 1 = .ok d1 := getI_ok (by decide) rfl
theorem getI_cons2 {d d1 d2 : D} {ds : List D} : getI (d :: d1 :: d2 :: ds) 2 = .ok d2 := getI_ok (by decide) rfl
theorem getI_cons3 {d d1 d2 d3 : D} {ds : List D} : getI (d :: d1 :: d2 :: d3 :: ds) 3 = .ok d3 := getI_ok (by decide) rfl
theorem read_web_ok {many width : Int} {ss : List Stp} (h : WebOk many width ss) : F_read_web [.str (webT many.toNat width.toNat ss)] = .ok (webD many width ss) := by
  refine run_ok ?_
  unfold g_read_web
  have hl := h.len
  have e1 : oSplit (webT many.toNat width.toNat ss) (.str (Str.ofString "\n")) = .ok (.lst ((linesW many width ss).map fun ws => .str (lineS ws))) := by
    rw [oSplit_ok (by rw [tl_nl]; simp) (by omega), show Str.ofString "\n" = nl from rfl, h.split, List.map_map]
    rfl
  simp [e1]
  rw [lcF_of (enc := fun ws => D.str (lineS ws)) (enc' := fun ws : List Str => D.lst (ws.map .str)) (fun _ => true) (fun ws => ws)]
  · rw [filter_yes]
    have m1 := h.m1
    have m2 := h.m2
    have hw := h.w
    have n1 := number_in_num (n := many.toNat) (by omega)
    have n2 := number_in_num (n := width.toNat) (by omega)
    have em : ((many.toNat : Nat) : Int) = many := by omega
    have ew : ((width.toNat : Nat) : Int) = width := by omega
    rw [em] at n1
    rw [ew] at n2
    have q1 := oEq_a (asc_of (s := "places")) (asc_of (s := "places"))
    have q2 := oEq_a (asc_of (s := "prices")) (asc_of (s := "prices"))
    have eh : (linesW many width ss).map (fun ws : List Str => D.lst (ws.map .str)) = D.lst ((headW many.toNat width.toNat).map .str) :: ss.map fun s => D.lst ((stepWd s).map .str) := by
      unfold linesW
      rw [List.map_cons, List.map_map]
      rfl
    have ec := cutD_from ((linesW many width ss).map (fun ws : List Str => D.lst (ws.map .str))) 1
    rw [eh] at ec
    simp [eh, getI_cons0, headW, getI_cons1, getI_cons2, getI_cons3, q1, q2, sure_ok, n1, n2, ec] at ec ⊢
    rw [ec]
    refine loop_foldI (J := fun n (g : List Stp) ρ => ∃ (x5 x6 x7 x8 : Option D) (rows : D), g.length = n ∧ ρ = [some (.str (webT many.toNat width.toNat ss)), some rows, some (.int many), some (.int width), some (.lst (g.map stD)), x5, x6, x7, x8]) (fun g s => g ++ [s]) _ 0 [] _ ⟨none, none, none, none, _, rfl, rfl⟩ ?_ ?_
    · rintro i g s ρ hi hs ⟨x5, x6, x7, x8, rows, hg, rfl⟩
      obtain ⟨a1, a2, a3, a4, a5, a6, a7⟩ := h.s s hs
      have q3 := oEq_a (asc_of (s := "step")) (asc_of (s := "step"))
      have ew2 : (stepWd s).map D.str = .str (S "step") :: ((s.a :: s.b :: s.p).map fun x : Int => D.str (numS x.toNat)) := by
        unfold stepWd
        simp
      have ed := cutD_from (D.str (S "step") :: ((s.a :: s.b :: s.p).map fun x : Int => D.str (numS x.toNat))) 1
      have ls : (s.p.length : Int) + 1 + 1 + 1 = 3 + width := by omega
      simp at ed
      have hgl : g.length < 16777216 := by have := h.l; omega
      simp [ew2, getI_cons0, q3, ls, sure_ok, show 0 ≤ width by omega, ed]
      have em2 : (D.str (numS s.a.toNat) :: D.str (numS s.b.toNat) :: s.p.map fun x : Int => D.str (numS x.toNat)) = (s.a :: s.b :: s.p).map fun x : Int => D.str (numS x.toNat) := rfl
      rw [em2, lcF_of (enc := fun x : Int => D.str (numS x.toNat)) (enc' := D.int) (fun _ => true) (fun x => x)]
      · rw [filter_yes]
        have ef := cutD_from (.int s.a :: .int s.b :: s.p.map D.int) 2
        simp at ef
        simp [getI_cons0, getI_cons1, ef, hgl]
        exact ⟨by omega, rfl⟩
      · intro x hx
        have hx2 : 0 ≤ x ∧ x < 10 ^ 40 := by
          rcases List.mem_cons.mp hx with rfl | hx
          · omega
          · rcases List.mem_cons.mp hx with rfl | hx
            · omega
            · exact a7 x hx
        have nx := number_in_num (n := x.toNat) (by omega)
        rw [show ((x.toNat : Nat) : Int) = x by omega] at nx
        refine ⟨_, rfl, rfl, fun _ => ?_⟩
        simp [nx]
    · rintro ρ ⟨x5, x6, x7, x8, rows, hg, rfl⟩
      have ef : ∀ (l g : List Stp), l.foldl (fun g s => g ++ [s]) g = g ++ l := fun l => by
        induction l with
        | nil => simp
        | cons a l ih => intro g; simp [ih]
      rw [ef]
      simp [check_web_ok, h.webB]
  · intro ws hws
    have h1 := h.lines ws hws
    refine ⟨_, rfl, rfl, fun _ => ?_⟩
    have hl := line_len h1.2
    have hs := line_split h1.1.1 h1.2
    simp
    rw [oSplit_ok (by rw [tl_sp]; simp) (by rw [len_tl]; have := h1.1.2; omega), show Str.ofString " " = sp from rfl, hs]
end DL

set_option Elab.async false
set_option linter.all false
set_option maxRecDepth 100000
set_option maxHeartbeats 4000000
set_option autoImplicit false
/-! P2y: webs told as texts. -/
namespace DL
open PySem L2 TL
theorem joinL_snoc {S p : List Nat} : ∀ {ps : List (List Nat)}, ps ≠ [] → joinL S (ps ++ [p]) = joinL S ps ++ (S ++ p)
  | [], h => absurd rfl h
  | [q], _ => rfl
  | q :: q2 :: r, _ => by
    show q ++ (S ++ joinL S ((q2 :: r) ++ [p])) = q ++ (S ++ joinL S (q2 :: r)) ++ (S ++ p)
    rw [joinL_snoc (by simp)]
    simp [List.append_assoc]
theorem WebOk.sub {many width : Int} {ss g : List Stp} (h : WebOk many width ss) (hg : ∀ s ∈ g, s ∈ ss) (hl : g.length ≤ 40) : WebOk many width g := ⟨h.m1, h.m2, h.w, hl, fun s hs => h.s s (hg s hs)⟩
theorem webT_nil (m w : Nat) : webT m w [] = S "places " ++ numS m ++ S " prices " ++ numS w := by
  refine ext_tl ?_
  unfold webT lineS headW
  rw [tl_join2, tl_append, tl_append, tl_append, tl_nl]
  show tl (Txt.join sp _) = _
  rw [tl_join2, tl_sp]
  show tl (S "places") ++ ([32] ++ (tl (numS m) ++ ([32] ++ (tl (S "prices") ++ ([32] ++ tl (numS w)))))) = _
  have e1 : tl (S "places ") = tl (S "places") ++ [32] := by rw [tl_ofString, tl_ofString]; decide
  have e2 : tl (S " prices ") = [32] ++ tl (S "prices") ++ [32] := by rw [tl_ofString, tl_ofString]; decide
  rw [e1, e2]
  simp [List.append_assoc]
theorem webT_snoc (m w : Nat) (g : List Stp) (s : Stp) : webT m w (g ++ [s]) = webT m w g ++ S "\nstep " ++ Txt.join sp (numS s.a.toNat :: numS s.b.toNat :: s.p.map fun x => numS x.toNat) := by
  refine ext_tl ?_
  have e1 : tl (S "\nstep ") = [10] ++ (tl (S "step") ++ [32]) := by rw [tl_ofString, tl_ofString]; decide
  unfold webT
  rw [tl_append, tl_append, tl_join2, tl_join2, tl_join2, tl_nl, tl_sp, List.map_append, ← List.cons_append, List.map_append]
  rw [show List.map tl (List.map (fun s => lineS (stepWd s)) [s]) = [tl (lineS (stepWd s))] from rfl, joinL_snoc (by simp), e1]
  have e2 : tl (lineS (stepWd s)) = tl (S "step") ++ ([32] ++ joinL [32] ((numS s.a.toNat :: numS s.b.toNat :: s.p.map fun x => numS x.toNat).map tl)) := by
    unfold lineS stepWd
    rw [tl_join2, tl_sp]
    rfl
  rw [e2]
  simp [List.append_assoc]
theorem strL_map (ws : List Str) : strL (ws.map D.str) = some ws := by
  induction ws with
  | nil => rfl
  | cons a ws ih =>
    show (strL (ws.map D.str)).map (a :: ·) = _
    rw [ih]
    rfl
theorem oJoin_ok {a : Str} {ws : List Str} {m : Nat} (h : ∀ x ∈ ws, x.length ≤ m) (hz : ws.length * (m + a.length) ≤ 16777216) : oJoin a (.lst (ws.map D.str)) = .ok (.str (Txt.join a ws)) := by
  show (match strL (ws.map D.str) with
    | some ys => if (ys.map fun x : Str => x.length).sum + ys.length * a.length ≤ 16777216 then R.ok (D.str (Txt.join a ys)) else .bad
    | none => .bad) = _
  rw [strL_map]
  have hs : ∀ l : List Str, (∀ x ∈ l, x.length ≤ m) → (l.map fun x : Str => x.length).sum ≤ l.length * m := fun l => by
    induction l with
    | nil => simp
    | cons b l ih =>
      intro q
      have q1 := q b List.mem_cons_self
      have q2 := ih fun x hx => q x (List.mem_cons_of_mem _ hx)
      rw [List.map_cons, List.sum_cons, List.length_cons, Nat.succ_mul]
      omega
  have := hs ws h
  rw [Nat.mul_add] at hz
  exact if_pos (by omega)
theorem oAdd_s {a b : Str} (h : a.length + b.length ≤ 16777216) : oAdd (.str a) (.str b) = .ok (.str (a ++ b)) := if_pos h
theorem len_app (a b : Str) : (a ++ b).length = a.length + b.length := by rw [len_tl, tl_append, List.length_append, ← len_tl, ← len_tl]
theorem nums_word {s : Stp} {many width : Int} {ss : List Stp} (h : WebOk many width ss) (hs : s ∈ ss) : ∀ x ∈ (numS s.a.toNat :: numS s.b.toNat :: s.p.map fun x => numS x.toNat), x.length ≤ 41 := fun x hx => by
  rw [len_tl]
  exact (h.step hs x (List.mem_cons_of_mem _ hx)).l
theorem law_web_text_ok {many width : Int} {ss : List Stp} (h : WebOk many width ss) : F_law_web_text [webD many width ss] = .ok (.str (webT many.toNat width.toNat ss)) := by
  refine run_ok ?_
  unfold g_law_web_text
  have m1 := h.m1
  have m2 := h.m2
  have hw := h.w
  have n1 := oStr_ok (n := many) (by omega) (by omega)
  have n2 := oStr_ok (n := width) (by omega) (by omega)
  have l1 := len_numS (n := many.toNat) (k := 41) (by decide) (by omega)
  have l2 := len_numS (n := width.toNat) (k := 41) (by decide) (by omega)
  have lp : (Str.ofString "places ").length = 7 := by rw [len_tl, tl_ofString]; decide
  have lq : (Str.ofString " prices ").length = 8 := by rw [len_tl, tl_ofString]; decide
  have o1 := oAdd_s (a := Str.ofString "places ") (b := numS many.toNat) (by omega)
  have o2 := oAdd_s (a := Str.ofString "places " ++ numS many.toNat) (b := Str.ofString " prices ") (by rw [len_app]; omega)
  have o3 := oAdd_s (a := Str.ofString "places " ++ numS many.toNat ++ Str.ofString " prices ") (b := numS width.toNat) (by rw [len_app, len_app]; omega)
  simp [n1, n2, o1, o2, o3]
  rw [← webT_nil many.toNat width.toNat]
  refine loop_foldI (J := fun n (g : List Stp) ρ => ∃ (x2 x3 x4 x5 : Option D), g.length = n ∧ (∀ s ∈ g, s ∈ ss) ∧ ρ = [some (webD many width ss), some (.str (webT many.toNat width.toNat g)), x2, x3, x4, x5]) (fun g s => g ++ [s]) _ 0 [] _ ⟨none, none, none, none, rfl, by simp, rfl⟩ ?_ ?_
  · rintro i g s ρ hi hs ⟨x2, x3, x4, x5, hg, hgs, rfl⟩
    obtain ⟨a1, a2, a3, a4, a5, a6, a7⟩ := h.s s hs
    have hl := h.l
    have hg2 := (h.sub hgs (by omega)).len
    have ls : (Str.ofString "\nstep ").length = 6 := by rw [len_tl, tl_ofString]; decide
    have lsp : sp.length = 1 := by rw [len_tl, tl_sp]; rfl
    have oj := oJoin_ok (a := sp) (nums_word h hs) (by simp; rw [lsp]; omega)
    have p1 := oAdd_s (a := webT many.toNat width.toNat g) (b := Str.ofString "\nstep ") (by omega)
    have lj : (Txt.join sp (numS s.a.toNat :: numS s.b.toNat :: s.p.map fun x => numS x.toNat)).length ≤ 1000 := by
      rw [len_tl, tl_join2, tl_sp]
      have := joinL_len (S := [32]) (m := 41) (ps := (numS s.a.toNat :: numS s.b.toNat :: s.p.map fun x => numS x.toNat).map tl) fun p hp => by
        obtain ⟨x, hx, rfl⟩ := List.mem_map.mp hp
        rw [← len_tl]
        exact nums_word h hs x hx
      simp at this
      simp
      omega
    have p2 := oAdd_s (a := webT many.toNat width.toNat g ++ Str.ofString "\nstep ") (b := Txt.join sp (numS s.a.toNat :: numS s.b.toNat :: s.p.map fun x => numS x.toNat)) (by rw [len_app]; omega)
    have at2 : oAdd (.tup [.int s.a, .int s.b]) (rowD s.p) = .ok (.tup ((s.a :: s.b :: s.p).map D.int)) := by
      show (if [D.int s.a, D.int s.b].length + (s.p.map D.int).length ≤ 16777216 then _ else _) = _
      rw [if_pos (by simp; omega)]
      rfl
    simp [at2, p1]
    have em2 : (D.int s.a :: D.int s.b :: s.p.map D.int) = (s.a :: s.b :: s.p).map D.int := rfl
    rw [em2, lcF_of (enc := D.int) (enc' := fun x : Int => D.str (numS x.toNat)) (fun _ => true) (fun x => x)]
    · rw [filter_yes]
      have ej : (s.a :: s.b :: s.p).map (fun x : Int => D.str (numS x.toNat)) = (numS s.a.toNat :: numS s.b.toNat :: s.p.map fun x => numS x.toNat).map D.str := by simp
      have oj2 : oJoin (Str.ofString " ") (.lst ((s.a :: s.b :: s.p).map fun x : Int => D.str (numS x.toNat))) = .ok (.str (Txt.join sp (numS s.a.toNat :: numS s.b.toNat :: s.p.map fun x => numS x.toNat))) := by rw [ej]; exact oj
      simp only [List.map_id', R.bind_ok, asS_s, dV, dC]
      simp at oj2
      simp [oj2, p2]
      refine ⟨by omega, fun t ht => ?_, by rw [webT_snoc]⟩
      rcases ht with ht | rfl
      · exact hgs t ht
      · exact hs
    · intro x hx
      have hx2 : 0 ≤ x ∧ x < 10 ^ 40 := by
        rcases List.mem_cons.mp hx with rfl | hx
        · omega
        · rcases List.mem_cons.mp hx with rfl | hx
          · omega
          · exact a7 x hx
      have nx := oStr_ok (n := x) hx2.1 (by omega)
      refine ⟨_, rfl, rfl, fun _ => ?_⟩
      simp [nx]
  · rintro ρ ⟨x2, x3, x4, x5, hg, hgs, rfl⟩
    have ef : ∀ (l g : List Stp), l.foldl (fun g s => g ++ [s]) g = g ++ l := fun l => by
      induction l with
      | nil => simp
      | cons a l ih => intro g; simp [ih]
    rw [ef]
    simp
theorem lines_len {many width : Int} {ss : List Stp} (h : WebOk many width ss) : ∀ x ∈ lineS (headW many.toNat width.toNat) :: ss.map fun s => lineS (stepWd s), x.length ≤ 252 := fun x hx => by
  have hx : x ∈ (linesW many width ss).map lineS := by
    unfold linesW
    rw [List.map_cons, List.map_map]
    exact hx
  obtain ⟨ws, hw, rfl⟩ := List.mem_map.mp hx
  have h1 := h.lines ws hw
  have := line_len h1.2
  have := h1.1.2
  rw [len_tl]
  omega
theorem show_web_ok {many width : Int} {ss : List Stp} (h : WebOk many width ss) : F_show_web [webD many width ss] = .ok (.str (webT many.toNat width.toNat ss)) := by
  refine run_ok ?_
  unfold g_show_web
  have m1 := h.m1
  have m2 := h.m2
  have hw := h.w
  have n1 := oStr_ok (n := many) (by omega) (by omega)
  have n2 := oStr_ok (n := width) (by omega) (by omega)
  have l1 := len_numS (n := many.toNat) (k := 41) (by decide) (by omega)
  have l2 := len_numS (n := width.toNat) (k := 41) (by decide) (by omega)
  have lp : (Str.ofString "places ").length = 7 := by rw [len_tl, tl_ofString]; decide
  have lq : (Str.ofString " prices ").length = 8 := by rw [len_tl, tl_ofString]; decide
  have o1 := oAdd_s (a := Str.ofString "places ") (b := numS many.toNat) (by omega)
  have o2 := oAdd_s (a := Str.ofString "places " ++ numS many.toNat) (b := Str.ofString " prices ") (by rw [len_app]; omega)
  have o3 := oAdd_s (a := Str.ofString "places " ++ numS many.toNat ++ Str.ofString " prices ") (b := numS width.toNat) (by rw [len_app, len_app]; omega)
  simp [n1, n2, o1, o2, o3]
  have eh : Str.ofString "places " ++ numS many.toNat ++ Str.ofString " prices " ++ numS width.toNat = lineS (headW many.toNat width.toNat) := (webT_nil many.toNat width.toNat).symm
  rw [eh]
  refine loop_foldI (J := fun n (g : List Stp) ρ => ∃ (x5 x6 x7 x8 : Option D), g.length = n ∧ ρ = [some (webD many width ss), some (.int many), some (.int width), some (.lst (ss.map stD)), some (.lst ((lineS (headW many.toNat width.toNat) :: g.map fun s => lineS (stepWd s)).map .str)), x5, x6, x7, x8]) (fun g s => g ++ [s]) _ 0 [] _ ⟨none, none, none, none, rfl, rfl⟩ ?_ ?_
  · rintro i g s ρ hi hs ⟨x5, x6, x7, x8, hg, rfl⟩
    obtain ⟨a1, a2, a3, a4, a5, a6, a7⟩ := h.s s hs
    have hl := h.l
    have s1 := oStr_ok (n := s.a) (by omega) (by omega)
    have s2 := oStr_ok (n := s.b) (by omega) (by omega)
    simp [s1, s2]
    rw [lcF_of (enc := D.int) (enc' := fun x : Int => D.str (numS x.toNat)) (fun _ => true) (fun x => x)]
    · rw [filter_yes]
      have lsp : sp.length = 1 := by rw [len_tl, tl_sp]; rfl
      have oj : oJoin (Str.ofString " ") (.lst ((stepWd s).map .str)) = .ok (.str (lineS (stepWd s))) := oJoin_ok (a := sp) (m := 41) (fun x hx => by rw [len_tl]; exact (h.step hs x hx).l) (by simp [stepWd]; rw [lsp]; omega)
      have oa : oAdd (.lst [.str (Str.ofString "step"), .str (numS s.a.toNat), .str (numS s.b.toNat)]) (.lst (s.p.map fun x : Int => D.str (numS x.toNat))) = .ok (.lst ((stepWd s).map .str)) := by
        show (if _ then _ else _) = _
        rw [if_pos (by simp; omega)]
        simp [stepWd]
      simp [oa, oj, show g.length + 1 < 16777216 by omega]
      omega
    · intro x hx
      have hx2 := a7 x hx
      have nx := oStr_ok (n := x) hx2.1 (by omega)
      refine ⟨_, rfl, rfl, fun _ => ?_⟩
      simp [nx]
  · rintro ρ ⟨x5, x6, x7, x8, hg, rfl⟩
    have ef : ∀ (l g : List Stp), l.foldl (fun g s => g ++ [s]) g = g ++ l := fun l => by
      induction l with
      | nil => simp
      | cons a l ih => intro g; simp [ih]
    rw [ef]
    have lnl : nl.length = 1 := by rw [len_tl, tl_nl]; rfl
    have hl := h.l
    have oj : oJoin (Str.ofString "\n") (.lst ((lineS (headW many.toNat width.toNat) :: ss.map fun s => lineS (stepWd s)).map .str)) = .ok (.str (webT many.toNat width.toNat ss)) := oJoin_ok (a := nl) (m := 252) (lines_len h) (by simp; rw [lnl]; omega)
    simp at oj
    simp [oj]
@[simp] theorem oIsi_ii2 {i : Int} : F_law_whole [.int i] = .ok (.bl true) := rfl
theorem law_same_ok {many width : Int} {ss : List Stp} (h : WebOk many width ss) : F_law_same [webD many width ss, webD many width ss] = .ok (.bl true) := by
  refine run_ok ?_
  unfold g_law_same
  have c0 : oNe (webD many width ss) (webD many width ss) = .ok (.bl false) := by
    rw [oNe_cl cl_web cl_web, deq_self cl_web]
    rfl
  simp [c0]
  refine loop_foldI (J := fun n (_ : Unit) ρ => ∃ (x2 x3 x4 x5 x6 : Option D), ρ = [some (webD many width ss), some (webD many width ss), x2, x3, x4, x5, x6]) (fun g s => g) _ 0 () _ ⟨none, none, none, none, none, rfl⟩ ?_ ?_
  · rintro i ⟨⟩ s ρ hi hs ⟨x2, x3, x4, x5, x6, rfl⟩
    obtain ⟨a1, a2, a3, a4, a5, a6, a7⟩ := h.s s hs
    have hw := h.w
    have oa : oAdd (.lst [.int s.a, .int s.b, .int many, .int width]) (.lst (s.p.map D.int)) = .ok (.lst ((s.a :: s.b :: many :: width :: s.p).map D.int)) := by
      show (if _ then _ else _) = _
      rw [if_pos (by simp; omega)]
      rfl
    have ol : oLstOf (rowD s.p) = .ok (.lst (s.p.map .int)) := rfl
    simp [ol, oa]
    rw [show (D.int s.a :: D.int s.b :: D.int many :: D.int width :: s.p.map D.int) = (s.a :: s.b :: many :: width :: s.p).map D.int from rfl, lcF_of (enc := D.int) (enc' := D.int) (fun _ => false) (fun x => x)]
    · simp
    · intro x hx
      exact ⟨_, rfl, rfl, fun z => by cases z⟩
  · rintro ρ ⟨x2, x3, x4, x5, x6, rfl⟩
    simp
theorem web_ne {many width : Int} {ss : List Stp} : oNe (webD many width ss) (webD many width ss) = .ok (.bl false) := by
  rw [oNe_cl cl_web cl_web, deq_self cl_web]
  rfl
theorem webT_asc {many width : Int} {ss : List Stp} (h : WebOk many width ss) : Asc (webT many.toNat width.toNat ss) := fun c hc => by
  rw [webT_lines, tl_join2, tl_nl] at hc
  rcases joinL_mem hc with hc | ⟨p, hp, hc⟩
  · rw [List.mem_singleton.mp hc]
    decide
  · rw [List.map_map] at hp
    obtain ⟨ws, hw, rfl⟩ := List.mem_map.mp hp
    have hc : c ∈ tl (lineS ws) := hc
    unfold lineS at hc
    rw [tl_join2, tl_sp] at hc
    rcases joinL_mem hc with hc | ⟨p, hp, hc⟩
    · rw [List.mem_singleton.mp hc]
      decide
    · obtain ⟨x, hx, rfl⟩ := List.mem_map.mp hp
      exact ((h.lines ws hw).2 x hx).asc c hc
@[simp] theorem oIsi_ss {x : Str} : oIsi .str (.str x) = .ok (.bl true) := rfl
theorem law_good_ok {many width : Int} {ss : List Stp} (h : WebOk many width ss) : F_law_good [webD many width ss] = .ok (.bl true) := by
  refine run_ok ?_
  unfold g_law_good
  have hs := oNe_a (webT_asc h) (webT_asc h)
  simp [law_web_text_ok h, show_web_ok h, hs, web_ne, itR1_ok (j := 2) (by decide) (by decide), upTo_map]
  refine loop_foldI (J := fun n (_ : Unit) ρ => ∃ (x4 x5 : Option D), ρ = [some (webD many width ss), some (webD many width ss), some (.str (webT many.toNat width.toNat ss)), some (.str (webT many.toNat width.toNat ss)), x4, x5]) (fun g s => g) _ 0 () _ ⟨none, none, rfl⟩ ?_ ?_
  · rintro i ⟨⟩ a ρ hi ha ⟨x4, x5, rfl⟩
    have := h.l
    simp [read_web_ok h, law_same_ok h, show flat (D.bl true) = true from rfl, oMutK, show ss.length < 16777216 by omega]
  · rintro ρ ⟨x4, x5, rfl⟩
    simp
end DL

set_option Elab.async false
set_option linter.all false
set_option maxRecDepth 100000
set_option maxHeartbeats 4000000
set_option autoImplicit false
/-! P2z: numbers below nought as texts. -/
namespace DL
open PySem L2 TL
def intS (x : Int) : Str := Str.ofString (toString x)
theorem intS_nat (n : Nat) : intS (n : Int) = numS n := rfl
theorem tl_neg {n : Nat} (h : 0 < n) : tl (intS (-(n : Int))) = 45 :: numL n := by
  obtain ⟨m, rfl⟩ : ∃ m, n = m + 1 := ⟨n - 1, by omega⟩
  have e : toString (-((m + 1 : Nat) : Int)) = "-" ++ toString (((m + 1 : Nat)) : Int) := rfl
  unfold intS
  rw [e, tl_ofString]
  have e2 := tl_num (m + 1)
  rw [tl_ofString] at e2
  rw [String.toList_append, List.map_append, e2]
  rfl
theorem oStr_int {x : Int} (h : -(10 ^ 100) < x) (h' : x < 10 ^ 100) : oStr [.int x] = .ok (.str (intS x)) := by
  show (if x.natAbs.log2 < 1920 then _ else _) = _
  have e : x.natAbs.log2 < 1920 := by
    by_cases z : x.natAbs = 0
    · rw [z]; decide
    · rw [Nat.log2_lt z]
      have : x.natAbs < 10 ^ 100 := by omega
      exact Nat.lt_trans this (by decide +kernel)
  rw [if_pos e]
  rfl
theorem cutS_drop {z : Str} {k : Nat} : tl (cutS z (some (k : Int)) none) = (tl z).drop k := by
  unfold cutS
  rw [tl_mk]
  have e : HT.sIx z.length 0 (some (k : Int)) = min k z.length := HT.sIx_nat _ _ _
  have e0 : HT.sIx z.length z.length none = z.length := rfl
  rw [e, e0]
  have hl := len_tl z
  show ((tl z).drop (min k z.length)).take (z.length - min k z.length) = _
  rw [List.take_of_length_le (by rw [List.length_drop, ← hl]; omega)]
  by_cases h : k ≤ z.length
  · rw [Nat.min_eq_left h]
  · rw [Nat.min_eq_right (by omega), List.drop_eq_nil_of_le (by omega), List.drop_eq_nil_of_le (by omega)]
theorem asc_neg {n : Nat} (h : 0 < n) : Asc (intS (-(n : Int))) := fun c hc => by
  rw [tl_neg h] at hc
  rcases List.mem_cons.mp hc with rfl | hc
  · decide
  · have := numL_digits n c hc
    omega
theorem tl_minus0 : tl (Str.ofString "-0") = [45, 48] := by rw [tl_ofString]; decide
theorem number_in_neg {n : Nat} (h0 : 0 < n) (h : n < 10 ^ 40) : F_number_in [.str (intS (-(n : Int)))] = .ok (.int (-(n : Int))) := by
  refine run_ok ?_
  unfold g_number_in
  have ht := tl_neg h0
  have hl : (intS (-(n : Int))).length ≤ 41 := by
    rw [len_tl, ht, List.length_cons]
    have := numL_len (k := 40) (by decide) h
    omega
  have hl2 : (intS (-(n : Int))).length ≤ 16777216 := by omega
  have hl1 : 1 ≤ (intS (-(n : Int))).length := by
    rw [len_tl, ht, List.length_cons]
    omega
  have e1 : cutS (intS (-(n : Int))) none (some 1) = Str.ofString "-" := ext_tl (by
    have := cutS_take (z := intS (-(n : Int))) (k := 1) hl1
    rw [tl_minus]
    rw [ht] at this
    exact this)
  have e2 : cutS (intS (-(n : Int))) (some 1) none = numS n := ext_tl (by
    have := cutS_drop (z := intS (-(n : Int))) (k := 1)
    rw [tl_numS]
    rw [ht] at this
    exact this)
  have e3 : intS (-(n : Int)) ≠ Str.ofString "-0" := fun z => by
    have z2 := congrArg tl z
    rw [ht, tl_minus0] at z2
    have z3 := (List.cons.inj z2).2
    exact numL_head n (by omega) 48 [] z3 rfl
  have a1 := oNe_a (asc_of (s := "-")) (asc_of (s := "-"))
  have a2 := oNe_a (asc_neg h0) (asc_of (s := "-0"))
  simp [hl2, e1, a1, a2, e3, sure_ok, e2, count_in_num h]
theorem number_in_int {x : Int} (h : -(10 ^ 40) < x) (h' : x < 10 ^ 40) : F_number_in [.str (intS x)] = .ok (.int x) := by
  by_cases hx : 0 ≤ x
  · obtain ⟨n, rfl⟩ : ∃ n : Nat, x = n := ⟨x.toNat, by omega⟩
    exact number_in_num (by omega)
  · obtain ⟨n, rfl⟩ : ∃ n : Nat, x = -(n : Int) := ⟨(-x).toNat, by omega⟩
    exact number_in_neg (by omega) (by omega)
/-! ### rows -/
abbrev sl : Str := Str.ofString "/"
theorem tl_sl : tl sl = [47] := by rw [tl_ofString]; decide
theorem sl_small : sl.cps.all (· < 256) = true := by
  rw [← Array.all_toList, show sl.cps.toList = tl sl from rfl, tl_sl]
  decide
def rowT (r : List Int) : Str := Txt.join sl (r.map intS)
def Fig (x : Int) : Prop := -(10 ^ 40) < x ∧ x < 10 ^ 40
theorem int_signs {x : Int} : ∀ c ∈ tl (intS x), c = 45 ∨ (48 ≤ c ∧ c ≤ 57) := by
  by_cases hx : 0 ≤ x
  · obtain ⟨n, rfl⟩ : ∃ n : Nat, x = n := ⟨x.toNat, by omega⟩
    intro c hc
    rw [intS_nat, tl_numS] at hc
    exact .inr (numL_digits n c hc)
  · obtain ⟨n, rfl⟩ : ∃ n : Nat, x = -(n : Int) := ⟨(-x).toNat, by omega⟩
    intro c hc
    rw [tl_neg (by omega)] at hc
    rcases List.mem_cons.mp hc with rfl | hc
    · exact .inl rfl
    · exact .inr (numL_digits n c hc)
theorem int_len {x : Int} (h : Fig x) : (tl (intS x)).length ≤ 41 := by
  obtain ⟨h, h'⟩ := h
  by_cases hx : 0 ≤ x
  · obtain ⟨n, rfl⟩ : ∃ n : Nat, x = n := ⟨x.toNat, by omega⟩
    rw [intS_nat, tl_numS]
    exact numL_len (by decide) (by omega)
  · obtain ⟨n, rfl⟩ : ∃ n : Nat, x = -(n : Int) := ⟨(-x).toNat, by omega⟩
    rw [tl_neg (by omega), List.length_cons]
    have := numL_len (k := 40) (n := n) (by decide) (by omega)
    omega
theorem row_split {r : List Int} (h : r ≠ []) : Txt.split (rowT r) sl = r.map intS := by
  refine split_join tl_sl sl_small (by simpa using h) fun p hp => ?_
  obtain ⟨x, _, rfl⟩ := List.mem_map.mp hp
  intro z
  have := int_signs 47 z
  omega
theorem row_word {r : List Int} (h : ∀ x ∈ r, Fig x) (hl : r.length ≤ 3) : ∀ c ∈ tl (rowT r), 45 ≤ c ∧ c ≤ 57 := by
  intro c hc
  unfold rowT at hc
  rw [tl_join2, tl_sl] at hc
  rcases joinL_mem hc with hc | ⟨p, hp, hc⟩
  · rw [List.mem_singleton.mp hc]
    omega
  · rw [List.map_map] at hp
    obtain ⟨x, _, rfl⟩ := List.mem_map.mp hp
    have := int_signs c hc
    omega
theorem row_len {r : List Int} (h : ∀ x ∈ r, Fig x) (hl : r.length ≤ 3) : (tl (rowT r)).length ≤ 126 := by
  unfold rowT
  rw [tl_join2, tl_sl]
  have := joinL_len (S := [47]) (m := 41) (ps := (r.map intS).map tl) fun p hp => by
    rw [List.map_map] at hp
    obtain ⟨x, hx, rfl⟩ := List.mem_map.mp hp
    exact int_len (h x hx)
  rw [List.length_map, List.length_map] at this
  have e : ([47] : List Nat).length = 1 := rfl
  rw [e] at this
  omega
theorem row_in_ok {r : List Int} (h : ∀ x ∈ r, Fig x) (hl : r.length = 2 ∨ r.length = 3) : F_row_in [.str (rowT r)] = .ok (rowD r) := by
  refine run_ok ?_
  unfold g_row_in
  have hne : r ≠ [] := fun z => by rw [z] at hl; simp at hl
  have lw := row_len h (by omega)
  have e1 : oSplit (rowT r) (.str (Str.ofString "/")) = .ok (.lst (r.map fun x => .str (intS x))) := by
    rw [oSplit_ok (by rw [tl_sl]; simp) (by rw [len_tl]; omega), show Str.ofString "/" = sl from rfl, row_split hne, List.map_map]
    rfl
  have hc : (if (r.length : Int) = 2 then D.bl true else D.bl (decide ((r.length : Int) = 3))) = .bl true := by
    rcases hl with hl | hl <;> simp [hl]
  simp [e1]
  rw [hc, sure_ok]
  simp only [sat_ok]
  rw [lcF_of (enc := fun x : Int => D.str (intS x)) (enc' := D.int) (fun _ => true) (fun x => x)]
  · rw [filter_yes]
    simp [rowD]
  · intro x hx
    have := h x hx
    refine ⟨_, rfl, rfl, fun _ => ?_⟩
    simp [number_in_int this.1 this.2]
theorem joins_row {r : List Int} (h : ∀ x ∈ r, Fig x) (hl : r.length ≤ 3) : oJoin sl (.lst (r.map fun x => D.str (intS x))) = .ok (.str (rowT r)) := by
  have hm : ∀ y ∈ r.map intS, y.length ≤ 41 := fun y hy => by
    obtain ⟨x, hx, rfl⟩ := List.mem_map.mp hy
    rw [len_tl]
    exact int_len (h x hx)
  have lsl : sl.length = 1 := by rw [len_tl, tl_sl]; rfl
  have e := oJoin_ok (a := sl) hm (by simp; rw [lsl]; omega)
  rw [List.map_map] at e
  exact e
theorem row_shown_ok {r : List Int} (h : ∀ x ∈ r, Fig x) (hl : r.length ≤ 3) : F_row_shown [rowD r] = .ok (.str (rowT r)) ∧ F_law_row_text [rowD r] = .ok (.str (rowT r)) := by
  have lc : ∀ ρ : Env, lcF [1] (tN 1) bYes (dCall oStr (dCons (dV 1) dNil)) [some (rowD r), none] (r.map D.int) = .ok (r.map fun x => D.str (intS x)) := fun _ => by
    rw [lcF_of (enc := D.int) (enc' := fun x : Int => D.str (intS x)) (fun _ => true) (fun x => x)]
    · rw [filter_yes]
      simp
    · intro x hx
      have := h x hx
      refine ⟨_, rfl, rfl, fun _ => ?_⟩
      simp [oStr_int (x := x) (by have := this.1; omega) (by have := this.2; omega)]
  constructor
  · refine run_ok ?_
    unfold g_row_shown
    simp [lc [], joins_row h hl]
  · refine run_ok ?_
    unfold g_law_row_text
    simp [lc [], joins_row h hl]
end DL

set_option Elab.async false
set_option linter.all false
set_option maxRecDepth 100000
set_option maxHeartbeats 4000000
set_option autoImplicit false
/-! P2v: stairs and ways as texts. -/
namespace DL
open PySem L2 TL
abbrev mi : Str := Str.ofString "-"
def stairT (rs : List (List Int)) : Str := if rs = [] then mi else Txt.join sp (rs.map rowT)
def wayT (ws : List Int) : Str := if ws = [] then mi else Txt.join sp (ws.map intS)
structure RowsOk (rs : List (List Int)) (w : Nat) : Prop where
  hw : w = 2 ∨ w = 3
  l : ∀ r ∈ rs, r.length = w
  f : ∀ r ∈ rs, ∀ x ∈ r, Fig x
  n : rs.length ≤ 1000
theorem RowsOk.word {rs : List (List Int)} {w : Nat} (h : RowsOk rs w) {r : List Int} (hr : r ∈ rs) : (∀ c ∈ tl (rowT r), 45 ≤ c ∧ c ≤ 57) ∧ (tl (rowT r)).length ≤ 126 := by
  have := h.l r hr
  have := h.hw
  exact ⟨row_word (h.f r hr) (by omega), row_len (h.f r hr) (by omega)⟩
theorem RowsOk.split {rs : List (List Int)} {w : Nat} (h : RowsOk rs w) (hn : rs ≠ []) : Txt.split (stairT rs) sp = rs.map rowT := by
  unfold stairT
  rw [if_neg hn]
  refine split_join tl_sp sp_small (by simpa using hn) fun p hp => ?_
  obtain ⟨r, hr, rfl⟩ := List.mem_map.mp hp
  intro z
  have := (h.word hr).1 32 z
  omega
theorem RowsOk.len {rs : List (List Int)} {w : Nat} (h : RowsOk rs w) : (stairT rs).length ≤ 127001 := by
  unfold stairT
  split
  · rw [len_tl, tl_ofString]
    decide
  · rw [len_tl, tl_join2, tl_sp]
    have := joinL_len (S := [32]) (m := 126) (ps := (rs.map rowT).map tl) fun p hp => by
      rw [List.map_map] at hp
      obtain ⟨r, hr, rfl⟩ := List.mem_map.mp hp
      exact (h.word hr).2
    rw [List.length_map, List.length_map] at this
    have e : ([32] : List Nat).length = 1 := rfl
    rw [e] at this
    have := h.n
    omega
theorem RowsOk.asc {rs : List (List Int)} {w : Nat} (h : RowsOk rs w) : Asc (stairT rs) := by
  unfold stairT
  split
  · exact asc_of (s := "-")
  · intro c hc
    rw [tl_join2, tl_sp] at hc
    rcases joinL_mem hc with hc | ⟨p, hp, hc⟩
    · rw [List.mem_singleton.mp hc]
      decide
    · rw [List.map_map] at hp
      obtain ⟨r, hr, rfl⟩ := List.mem_map.mp hp
      have := (h.word hr).1 c hc
      omega
theorem RowsOk.joins {rs : List (List Int)} {w : Nat} (h : RowsOk rs w) : oJoin sp (.lst (rs.map fun r => D.str (rowT r))) = .ok (.str (Txt.join sp (rs.map rowT))) := by
  have hm : ∀ y ∈ rs.map rowT, y.length ≤ 126 := fun y hy => by
    obtain ⟨r, hr, rfl⟩ := List.mem_map.mp hy
    rw [len_tl]
    exact (h.word hr).2
  have lsp : sp.length = 1 := by rw [len_tl, tl_sp]; rfl
  have e := oJoin_ok (a := sp) hm (by have := h.n; simp; rw [lsp]; omega)
  rw [List.map_map] at e
  exact e
theorem cl_rowsV {rs : List (List Int)} : Cl 2 (.lst (rs.map rowD)) := cl_lst (n := 1) fun d hd => by
  obtain ⟨r, _, rfl⟩ := List.mem_map.mp hd
  exact cl_row
theorem rows_nil {rs : List (List Int)} : oEq (.lst (rs.map rowD)) (.lst []) = .ok (.bl (decide (rs = []))) := by
  rw [oEq_nil cl_rowsV]
  cases rs <;> rfl
theorem show_stair_ok {rs : List (List Int)} {w : Nat} (h : RowsOk rs w) : F_show_stair [.lst (rs.map rowD)] = .ok (.str (stairT rs)) := by
  refine run_ok ?_
  unfold g_show_stair stairT
  simp [rows_nil]
  by_cases hn : rs = []
  · simp [hn]
  · simp [hn]
    rw [lcF_of (enc := rowD) (enc' := fun r => D.str (rowT r)) (fun _ => true) (fun r => r)]
    · rw [filter_yes]
      have := h.joins
      simp at this ⊢
      simp [this]
    · intro r hr
      have h1 := h.l r hr
      have := h.hw
      refine ⟨_, rfl, rfl, fun _ => ?_⟩
      simp [(row_shown_ok (h.f r hr) (by omega)).1]
end DL

set_option Elab.async false
set_option linter.all false
set_option maxRecDepth 100000
set_option maxHeartbeats 4000000
set_option autoImplicit false
/-! P2c: shares: covers_within, is_picked, is_cover, are_apart and the laws' own words for them. -/
namespace DL
open PySem
def SmR (r : List Int) : Prop := ∀ x ∈ r, Sm x
/-- no greater by more than the share n of d -/
def nearB (n d : Int) (a b : List Int) : Bool := (List.range a.length).all fun k => decide (a.getD k 0 * d ≤ b.getD k 0 * (n + d))
theorem sm_get {r : List Int} (h : SmR r) (k : Nat) : Sm (r.getD k 0) := by
  rw [List.getD_eq_getElem?_getD]
  by_cases hk : k < r.length
  · rw [List.getElem?_eq_getElem hk]
    exact h _ (List.getElem_mem hk)
  · rw [List.getElem?_eq_none (by omega)]
    exact ⟨by decide, by decide⟩
abbrev shD (n d : Int) : D := .tup [.int n, .int d]
@[simp] theorem oLen_r {r : List Int} : oLen [rowD r] = .ok (.int r.length) := by unfold rowD; simp
theorem within_share {n d : Int} {a b : List Int} (hn : Sm (n + d)) (hd : Sm d) (ha : SmR a) (hb : SmR b) (h : a.length ≤ b.length) (hl : a.length ≤ 1000) : F_covers_within [rowD a, rowD b, shD n d] = .ok (.bl (nearB n d a b)) := by
  refine run_ok ?_
  unfold g_covers_within
  simp [itR1_ok (show (0 : Int) ≤ a.length by omega) (show (a.length : Int) ≤ 16777216 by omega), upTo_map]
  rw [lcF_of (enc := fun i : Nat => D.int i) (enc' := D.bl) (fun _ => true) (fun k => decide (a.getD k 0 * d ≤ b.getD k 0 * (n + d)))]
  · rw [filter_yes]
    simp only [R.bind_ok, oAll_m, sat_ok, nearB, List.all_map]
    rfl
  · intro k hk
    have hk : k < a.length := List.mem_range.mp hk
    simp [getI_row (r := a) (k := k) (by omega) (by omega), getI_row (r := b) (k := k) (by omega) (by omega), at0]
    have e1 := oMul_ok (sm_get ha k) hd
    have e2 := oMul_ok (sm_get hb k) hn
    simp at e1 e2
    simp [e1, e2]
theorem near_law {n d : Int} {a b : List Int} (hn : Sm (n + d)) (hd : Sm d) (ha : SmR a) (hb : SmR b) (h : a.length ≤ b.length) (hl : a.length ≤ 1000) : F_law_near [rowD a, rowD b, shD n d] = .ok (.bl (nearB n d a b)) := by
  refine run_ok ?_
  unfold g_law_near
  simp [itR1_ok (show (0 : Int) ≤ a.length by omega) (show (a.length : Int) ≤ 16777216 by omega), upTo_map]
  refine loop_inv (J := fun i ρ => ∃ x3, (∀ k < i, a.getD k 0 * d ≤ b.getD k 0 * (n + d)) ∧ ρ = [some (rowD a), some (rowD b), some (shD n d), x3]) _ 0 _ ⟨_, by simp, rfl⟩ ?_ ?_
  · rintro i e ρ he ⟨x3, hk, rfl⟩
    obtain ⟨hi, rfl⟩ : i < a.length ∧ e = .int i := by
      rw [List.getElem?_map] at he
      obtain ⟨j, h1, h2⟩ := Option.map_eq_some_iff.mp he
      obtain ⟨h3, h4⟩ := List.getElem?_eq_some_iff.mp h1
      rw [List.getElem_range] at h4
      subst h4
      exact ⟨by simpa using h3, h2.symm⟩
    have e1 := oMul_ok (sm_get ha i) hd
    have e2 := oMul_ok (sm_get hb i) hn
    have g1 : getI [D.int n, D.int d] 1 = .ok (.int d) := getI_ok (by decide) rfl
    have g0 : getI [D.int n, D.int d] 0 = .ok (.int n) := getI_ok (by decide) rfl
    simp [getI_row (r := a) (k := i) (by omega) (by omega), getI_row (r := b) (k := i) (by omega) (by omega), at0, g0, g1]
    simp at e1 e2
    simp [e1, e2]
    split
    · rename_i hlt
      simp [nearB]
      exact ⟨i, hi, by simpa using hlt⟩
    · rename_i hlt
      refine ⟨fun k hk2 => ?_, _, rfl⟩
      by_cases hki : k = i
      · subst hki
        simpa using hlt
      · have := hk k (by omega)
        simpa using this
  · rintro ρ ⟨x3, hk, rfl⟩
    simp [nearB]
    intro k h
    have := hk k (by simpa using h)
    simpa using this
/-! rising rows -/
def adjB : List (List Int) → Bool
  | a :: b :: l => decide (a < b) && adjB (b :: l)
  | _ => true
theorem adj_iff : ∀ {l : List (List Int)}, adjB l = true ↔ l.Pairwise (· < ·)
  | [] => by simp [adjB]
  | [a] => by simp [adjB]
  | a :: b :: l => by
    have ih := adj_iff (l := b :: l)
    unfold adjB
    rw [Bool.and_eq_true, ih, decide_eq_true_eq, List.pairwise_cons (a := a)]
    constructor
    · rintro ⟨h1, h2⟩
      refine ⟨fun y hy => ?_, h2⟩
      rcases List.mem_cons.mp hy with e | e
      · subst e; exact h1
      · exact List.lt_trans h1 ((List.pairwise_cons.mp h2).1 y e)
    · rintro ⟨h1, h2⟩
      exact ⟨h1 b List.mem_cons_self, h2⟩
theorem sortU_iff {l : List (List Int)} : l = sortU l ↔ adjB l = true := by
  rw [adj_iff]
  constructor
  · intro h
    rw [h]
    exact sortU_asc
  · intro h
    exact asc_ext h sortU_asc fun y => sortU_mem.symm
theorem adj_range : ∀ (l : List (List Int)), adjB l = (List.range (l.length - 1)).all fun k => decide (l.getD k [] < l.getD (k + 1) [])
  | [] => rfl
  | [a] => rfl
  | a :: b :: l => by
    have ih := adj_range (b :: l)
    unfold adjB
    rw [ih]
    simp only [List.length_cons, Nat.add_sub_cancel]
    rw [List.range_succ_eq_map]
    simp [List.all_map, Function.comp_def]
theorem toPs_ints (r : List Int) : toPs (r.map .int) = r.map .int := by
  induction r with
  | nil => rfl
  | cons a r ih => simp [toPs, toP, ih]
theorem alike_ints : ∀ (r s : List Int), PySem.W.alikeAll (r.map .int) (s.map .int) = true
  | [], _ => by simp [PySem.W.alikeAll]
  | _ :: _, [] => by simp [PySem.W.alikeAll]
  | a :: r, b :: s => by simp [PySem.W.alikeAll, PySem.W.alike, alike_ints r s]
theorem oLtG_r {r s : List Int} : oLtG (rowD r) (rowD s) = .ok (.bl (decide (r < s))) := by
  have h := congrFun (congrFun (rowLe_tuple (fun x : List Int => x)) s) r
  rw [PySem.W.dataLe_eq] at h
  have h2 : PySem.W.dataLt (.tuple (r.map .int)) (.tuple (s.map .int)) = decide (r < s) := by
    have h3 : (!PySem.W.dataLt (.tuple (r.map .int)) (.tuple (s.map .int))) = rowLe s r := h
    rw [← Bool.not_not (PySem.W.dataLt _ _), h3]
    unfold rowLe
    rw [← decide_not]
    congr 1
    rw [List.not_le]
  have al : PySem.W.alike (toP (rowD r)) (toP (rowD s)) = true := by
    unfold rowD
    simp only [toP, toPs_ints, PySem.W.alike, alike_ints]
  have e : PySem.W.dataLt (toP (rowD r)) (toP (rowD s)) = decide (r < s) := by
    unfold rowD
    simp only [toP, toPs_ints, h2]
  unfold oLtG
  rw [if_pos ⟨cl_row.ok (by decide), cl_row.ok (by decide), al, rfl⟩, e]
theorem deq_row {r s : List Int} : deq (rowD r) (rowD s) = decide (r = s) := by
  rw [Bool.eq_iff_iff, deq_iff cl_row cl_row]
  simp only [rowD, D.tup.injEq, decide_eq_true_eq]
  exact ⟨fun h => (List.map_inj_right (fun a b h => D.int.inj h)).mp h, fun h => by rw [h]⟩
theorem deq_rws {r s : List (List Int)} : deq (.lst (r.map rowD)) (.lst (s.map rowD)) = decide (r = s) := by
  rw [Bool.eq_iff_iff, deq_iff cl_rows cl_rows]
  simp only [D.lst.injEq, decide_eq_true_eq]
  refine ⟨fun h => (List.map_inj_right (fun a b h => ?_)).mp h, fun h => by rw [h]⟩
  have z : deq (rowD a) (rowD b) = true := (deq_iff cl_row cl_row).mpr h
  rw [deq_row] at z
  exact of_decide_eq_true z
theorem oIn_rows {neg : Bool} {r : List Int} {st : List (List Int)} : oIn neg (rowD r) (.lst (st.map rowD)) = .ok (.bl (if neg then !decide (r ∈ st) else decide (r ∈ st))) := by
  have e : (st.map rowD).any (fun z => deq z (rowD r)) = decide (r ∈ st) := by
    induction st with
    | nil => rfl
    | cons a l ih =>
      rw [List.map_cons, List.any_cons, ih, deq_row, Bool.eq_iff_iff]
      simp
      exact or_congr eq_comm Iff.rfl
  unfold oIn
  dsimp only
  rw [if_pos ⟨cl_row.ok (by decide), cl_rows.ok (by decide)⟩, e]
/-- rows of the stair, rising -/
def pickB (st rows : List (List Int)) : Bool := (rows.all fun r => decide (r ∈ st)) && adjB rows
theorem is_picked_ok {st rows : List (List Int)} (hn : rows.length ≤ 16777216) : F_is_picked [.lst (st.map rowD), .lst (rows.map rowD)] = .ok (.bl (pickB st rows)) := by
  refine run_ok ?_
  unfold g_is_picked
  simp
  rw [lcF_of (enc := rowD) (enc' := D.bl) (fun _ => true) (fun r => decide (r ∈ st))]
  · rw [filter_yes]
    simp [-List.map_map]
    by_cases hall : ∀ x ∈ rows, x ∈ st
    · have hb : (rows.all fun r => decide (r ∈ st)) = true := by simpa using hall
      have e2 : itR2 [.int 1, .int (rows.length : Int)] = .ok ((List.range (rows.length - 1)).map fun i : Nat => D.int (1 + (i : Int))) := by
        show (if _ then _ else _) = _
        rw [if_pos (by omega)]
        unfold upTo
        congr 2
        congr 1
        omega
      rw [if_neg (by rintro ⟨x, h1, h2⟩; exact h2 (hall x h1))]
      simp [-List.map_map, e2]
      rw [lcF_of (enc := fun i : Nat => D.int (1 + (i : Int))) (enc' := D.bl) (fun _ => true) (fun k => decide (rows.getD k [] < rows.getD (k + 1) []))]
      · rw [filter_yes]
        simp only [R.bind_ok, oAll_m, sat_ok, pickB, hb, Bool.true_and, adj_range, List.all_map]
        rfl
      · intro k hk
        have hk2 : k < rows.length - 1 := List.mem_range.mp hk
        have g1 : getI (rows.map rowD) (1 + (k : Int) - 1) = .ok (rowD (rows.getD k [])) := by
          rw [getI_map (enc := rowD) (by omega) (by omega)]
          have : (1 + (k : Int) - 1).toNat = k := by omega
          simp [this, List.getElem?_eq_getElem (show k < rows.length by omega)]
        have g2 : getI (rows.map rowD) (1 + (k : Int)) = .ok (rowD (rows.getD (k + 1) [])) := by
          rw [getI_map (enc := rowD) (by omega) (by omega)]
          have : (1 + (k : Int)).toNat = k + 1 := by omega
          simp [this, List.getElem?_eq_getElem (show k + 1 < rows.length by omega)]
        simp [g1, g2, oLtG_r]
    · have hb : (rows.all fun r => decide (r ∈ st)) = false := by
        cases e : (rows.all fun r => decide (r ∈ st))
        · rfl
        · exact absurd (by simpa using e) hall
      rw [if_pos (by simpa using hall)]
      simp [pickB, hb]
  · intro r hr
    simp [oIn_rows]
end DL

set_option Elab.async false
set_option linter.all false
set_option maxRecDepth 100000
set_option maxHeartbeats 4000000
set_option autoImplicit false
/-! P2d: covers and rows apart, the program's word and the laws'. -/
namespace DL
open PySem
def coverB (n d : Int) (st rows : List (List Int)) : Bool := pickB st rows && st.all fun row => rows.any fun one => nearB n d one row
def apartB (n d : Int) (st rows : List (List Int)) : Bool := pickB st rows && st.all fun one => decide ((rows.filter fun row => nearB n d one row).length ≤ 1)
/-- a stair of width w, of bounded numbers -/
structure Nice (w : Nat) (st : List (List Int)) : Prop where
  wd : Wd w st
  sm : ∀ r ∈ st, SmR r
  w0 : 0 < w
  w1 : w ≤ 1000
theorem pick_sub {st rows : List (List Int)} (h : pickB st rows = true) : ∀ r ∈ rows, r ∈ st := by
  unfold pickB at h
  rw [Bool.and_eq_true] at h
  simpa using h.1
theorem is_cover_ok {w : Nat} {n d : Int} {st rows : List (List Int)} (N : Nice w st) (hn : Sm (n + d)) (hd : Sm d) (hl : rows.length ≤ 16777216) : F_is_cover [.lst (st.map rowD), .lst (rows.map rowD), shD n d] = .ok (.bl (coverB n d st rows)) := by
  refine run_ok ?_
  unfold g_is_cover
  simp [is_picked_ok hl]
  cases hp : pickB st rows
  · simp [coverB, hp]
  · have hs := pick_sub hp
    simp
    rw [lcF_of (enc := rowD) (enc' := D.bl) (fun _ => true) (fun row => rows.any fun one => nearB n d one row)]
    · rw [filter_yes]
      simp only [R.bind_ok, oAll_m, sat_ok, coverB, hp, Bool.true_and, List.all_map]
      rfl
    · intro row hr
      simp
      rw [lcF_of (enc := rowD) (enc' := D.bl) (fun _ => true) (fun one => nearB n d one row)]
      · rw [filter_yes]
        simp only [R.bind_ok, oAny_m, List.any_map]
        rfl
      · intro one ho
        have l1 := N.wd one (hs one ho)
        have l2 := N.wd row hr
        have l3 := N.w1
        simp [within_share hn hd (N.sm one (hs one ho)) (N.sm row hr) (by omega) (by omega)]
theorem are_apart_ok {w : Nat} {n d : Int} {st rows : List (List Int)} (N : Nice w st) (hn : Sm (n + d)) (hd : Sm d) (hl : rows.length ≤ 16777216) : F_are_apart [.lst (st.map rowD), .lst (rows.map rowD), shD n d] = .ok (.bl (apartB n d st rows)) := by
  refine run_ok ?_
  unfold g_are_apart
  simp [is_picked_ok hl]
  cases hp : pickB st rows
  · simp [apartB, hp]
  · have hs := pick_sub hp
    simp
    refine loop_inv (J := fun i ρ => ∃ x3 x4, (∀ k < i, ∀ one, st[k]? = some one → (rows.filter fun row => nearB n d one row).length ≤ 1) ∧ ρ = [some (.lst (st.map rowD)), some (.lst (rows.map rowD)), some (shD n d), x3, x4]) _ 0 _ ⟨_, _, by simp, rfl⟩ ?_ ?_
    · rintro i e ρ he ⟨x3, x4, hk, rfl⟩
      rw [List.getElem?_map] at he
      obtain ⟨one, h1, rfl⟩ := Option.map_eq_some_iff.mp he
      have h1m := List.mem_of_getElem? h1
      simp
      rw [lcF_of (enc := rowD) (enc' := rowD) (fun row => nearB n d one row) (fun r => r)]
      · simp
        split
        · rename_i hlt
          simp [apartB, hp]
          exact ⟨one, h1m, by omega⟩
        · rename_i hlt
          refine ⟨fun k hk2 o ho => ?_, _, _, rfl⟩
          by_cases hki : k = i
          · subst hki
            rw [h1] at ho
            cases ho
            omega
          · exact hk k (by omega) o ho
      · intro row ho
        have l1 := N.wd one h1m
        have l2 := N.wd row (hs row ho)
        have l3 := N.w1
        simp [within_share hn hd (N.sm one h1m) (N.sm row (hs row ho)) (by omega) (by omega)]
    · rintro ρ ⟨x3, x4, hk, rfl⟩
      simp [apartB, hp]
      intro one ho
      obtain ⟨k, h1, h2⟩ := List.mem_iff_getElem.mp ho
      exact hk k (by simpa using h1) one (List.getElem?_eq_some_iff.mpr ⟨h1, h2⟩)
theorem mem_filter_none {st rows : List (List Int)} : (rows.filter fun r => !decide (r ∈ st)) = [] ↔ (rows.all fun r => decide (r ∈ st)) = true := by
  simp [List.filter_eq_nil_iff]
/-- what the laws ask ahead -/
theorem law_pick {st rows : List (List Int)} {w : Nat} (N : Nice w st) (hl : rows.length < 64) {T : Type} (z : R Bool) (ds : List D) (h1 : z = .ok (!decide ((rows.filter fun r => !decide (r ∈ st)) = [])))
    (h2 : R Bool) (e2 : (∀ r ∈ rows, r ∈ st) → h2 = .ok (!decide (rows = sortU rows))) : (z.bind fun b => if b = true then R.ok true else h2) = .ok (!pickB st rows) := by
  rw [h1]
  by_cases hall : ∀ r ∈ rows, r ∈ st
  · have hb : (rows.all fun r => decide (r ∈ st)) = true := by simpa using hall
    rw [decide_eq_true (mem_filter_none.mpr hb), e2 hall]
    unfold pickB
    rw [hb]
    simp only [R.bind_ok, Bool.not_true, Bool.false_eq_true, if_false, Bool.true_and]
    congr 2
    rw [Bool.eq_iff_iff, decide_eq_true_eq, sortU_iff]
  · have hb : (rows.all fun r => decide (r ∈ st)) = false := by
      cases e : (rows.all fun r => decide (r ∈ st))
      · rfl
      · exact absurd (by simpa using e) hall
    have hf : ¬ (rows.filter fun r => !decide (r ∈ st)) = [] := fun z => by
      rw [mem_filter_none, hb] at z
      cases z
    rw [decide_eq_false hf]
    simp [pickB, hb]
theorem law_is_cover_ok {w : Nat} {n d : Int} {st rows : List (List Int)} (N : Nice w st) (hn : Sm (n + d)) (hd : Sm d) (hl : rows.length < 64) : F_law_is_cover [.lst (st.map rowD), .lst (rows.map rowD), shD n d] = .ok (.bl (coverB n d st rows)) := by
  refine run_ok ?_
  unfold g_law_is_cover
  refine Eq.mpr (oSeq_wp) ?_
  simp only [oIf_eq, bOr_eq]
  rw [law_pick (T := Nat) N hl _ [] ?_ _ ?_]
  rotate_left
  · simp
    rw [lcF_of (enc := rowD) (enc' := rowD) (fun r => !decide (r ∈ st)) (fun r => r)]
    · simp only [List.map_id', R.bind_ok]
      rw [oNe_cl cl_rows (cl_lst (n := 0) (ds := []) (by simp))]
      rw [deq_nil cl_rows, isEmpty_map]
      simp only [R.bind_ok, asB_bl]
      congr 2
      rw [Bool.eq_iff_iff, List.isEmpty_iff, decide_eq_true_eq, mem_filter_none]
      simp
    · intro r hr
      simp [oIn_rows]
  · intro hall
    have hw : Wd w rows := fun r hr => N.wd r (hall r hr)
    simp [oSortSet_ok hw N.w0 (few64 hl), oNe_cl cl_rows cl_rows, deq_rws]
  cases hp : pickB st rows
  · simp [coverB, hp]
  · have hs := pick_sub hp
    simp
    refine loop_inv (J := fun i ρ => ∃ x3 x4, (∀ k < i, ∀ one, st[k]? = some one → (rows.any fun row => nearB n d row one) = true) ∧ ρ = [some (.lst (st.map rowD)), some (.lst (rows.map rowD)), some (shD n d), x3, x4]) _ 0 _ ⟨_, _, by simp, rfl⟩ ?_ ?_
    · rintro i e ρ he ⟨x3, x4, hk, rfl⟩
      rw [List.getElem?_map] at he
      obtain ⟨one, h1, rfl⟩ := Option.map_eq_some_iff.mp he
      have h1m := List.mem_of_getElem? h1
      simp
      rw [lcF_of (enc := rowD) (enc' := rowD) (fun row => nearB n d row one) (fun r => r)]
      · simp only [List.map_id', R.bind_ok]
        rw [oEq_nil cl_rows, isEmpty_map]
        simp only [R.bind_ok, asB_bl, sat_ok]
        cases hE : (rows.filter fun row => nearB n d row one).isEmpty
        · simp
          intro k hk2 o ho
          by_cases hki : k = i
          · subst hki
            rw [h1] at ho
            cases ho
            rw [filter_isEmpty] at hE
            simpa using hE
          · have := hk k (by omega) o ho
            simpa using this
        · simp [coverB, hp]
          rw [filter_isEmpty] at hE
          exact ⟨one, h1m, by simpa using hE⟩
      · intro row ho
        have l1 := N.wd one h1m
        have l2 := N.wd row (hs row ho)
        have l3 := N.w1
        simp [near_law hn hd (N.sm row (hs row ho)) (N.sm one h1m) (by omega) (by omega)]
    · rintro ρ ⟨x3, x4, hk, rfl⟩
      simp [coverB, hp]
      intro one ho
      obtain ⟨k, h1, h2⟩ := List.mem_iff_getElem.mp ho
      have := hk k (by simpa using h1) one (List.getElem?_eq_some_iff.mpr ⟨h1, h2⟩)
      simpa using this
theorem law_are_apart_ok {w : Nat} {n d : Int} {st rows : List (List Int)} (N : Nice w st) (hn : Sm (n + d)) (hd : Sm d) (hl : rows.length < 64) : F_law_are_apart [.lst (st.map rowD), .lst (rows.map rowD), shD n d] = .ok (.bl (apartB n d st rows)) := by
  refine run_ok ?_
  unfold g_law_are_apart
  refine Eq.mpr (oSeq_wp) ?_
  simp only [oIf_eq, bOr_eq]
  rw [law_pick (T := Nat) N hl _ [] ?_ _ ?_]
  rotate_left
  · simp
    rw [lcF_of (enc := rowD) (enc' := rowD) (fun r => !decide (r ∈ st)) (fun r => r)]
    · simp only [List.map_id', R.bind_ok]
      rw [oNe_cl cl_rows (cl_lst (n := 0) (ds := []) (by simp))]
      rw [deq_nil cl_rows, isEmpty_map]
      simp only [R.bind_ok, asB_bl]
      congr 2
      rw [Bool.eq_iff_iff, List.isEmpty_iff, decide_eq_true_eq, mem_filter_none]
      simp
    · intro r hr
      simp [oIn_rows]
  · intro hall
    have hw : Wd w rows := fun r hr => N.wd r (hall r hr)
    simp [oSortSet_ok hw N.w0 (few64 hl), oNe_cl cl_rows cl_rows, deq_rws]
  cases hp : pickB st rows
  · simp [apartB, hp]
  · have hs := pick_sub hp
    simp
    refine loop_inv (J := fun i ρ => ∃ x3 x4, (∀ k < i, ∀ one, st[k]? = some one → (rows.filter fun row => nearB n d one row).length ≤ 1) ∧ ρ = [some (.lst (st.map rowD)), some (.lst (rows.map rowD)), some (shD n d), x3, x4]) _ 0 _ ⟨_, _, by simp, rfl⟩ ?_ ?_
    · rintro i e ρ he ⟨x3, x4, hk, rfl⟩
      rw [List.getElem?_map] at he
      obtain ⟨one, h1, rfl⟩ := Option.map_eq_some_iff.mp he
      have h1m := List.mem_of_getElem? h1
      simp
      rw [lcF_of (enc := rowD) (enc' := rowD) (fun row => nearB n d one row) (fun r => r)]
      · simp
        split
        · rename_i hlt
          simp [apartB, hp]
          exact ⟨one, h1m, by omega⟩
        · rename_i hlt
          refine ⟨fun k hk2 o ho => ?_, _, _, rfl⟩
          by_cases hki : k = i
          · subst hki
            rw [h1] at ho
            cases ho
            omega
          · exact hk k (by omega) o ho
      · intro row ho
        have l1 := N.wd one h1m
        have l2 := N.wd row (hs row ho)
        have l3 := N.w1
        simp [near_law hn hd (N.sm one h1m) (N.sm row (hs row ho)) (by omega) (by omega)]
    · rintro ρ ⟨x3, x4, hk, rfl⟩
      simp [apartB, hp]
      intro one ho
      obtain ⟨k, h1, h2⟩ := List.mem_iff_getElem.mp ho
      exact hk k (by simpa using h1) one (List.getElem?_eq_some_iff.mpr ⟨h1, h2⟩)
end DL

set_option Elab.async false
set_option linter.all false
set_option maxRecDepth 100000
set_option maxHeartbeats 4000000
set_option autoImplicit false
/-! M1: the lower hull of a falling stair, plain. -/
namespace DL
abbrev Pt := Int × Int
/-- on which side of the line from a to b -/
def cr (a b p : Pt) : Int := (b.1 - a.1) * (p.2 - a.2) - (b.2 - a.2) * (p.1 - a.1)
theorem pos_of_mul {s x : Int} (hs : 0 < s) (h : 0 ≤ s * x) : 0 ≤ x := by
  rcases Int.lt_or_le x 0 with hx | hx
  · have := Int.mul_neg_of_pos_of_neg hs hx
    omega
  · exact hx
theorem spos_of_mul {s x : Int} (hs : 0 < s) (h : 0 < s * x) : 0 < x := by
  rcases Int.lt_or_le 0 x with hx | hx
  · exact hx
  · have := Int.mul_nonpos_of_nonneg_of_nonpos (Int.le_of_lt hs) hx
    omega
theorem crA {a b r p : Pt} (h1 : a.1 < b.1) (h2 : b.1 < r.1) (h3 : p.1 ≤ r.1) (h4 : 0 ≤ cr b r p) (h5 : cr a b r ≤ 0) : 0 ≤ cr a r p := by
  unfold cr at *
  refine pos_of_mul (show 0 < r.1 - b.1 by omega) ?_
  have x := Int.mul_nonneg (show 0 ≤ b.1 - a.1 by omega) h4
  have y := Int.mul_nonneg (show 0 ≤ r.1 - b.1 by omega) h4
  have z := Int.mul_nonneg (show 0 ≤ -((b.1 - a.1) * (r.2 - a.2) - (b.2 - a.2) * (r.1 - a.1)) by omega) (show 0 ≤ r.1 - p.1 by omega)
  grind
theorem crB {a b r p : Pt} (h1 : a.1 < b.1) (h2 : a.1 < r.1) (h3 : a.1 ≤ p.1) (h4 : 0 ≤ cr a b p) (h5 : cr a b r ≤ 0) : 0 ≤ cr a r p := by
  unfold cr at *
  refine pos_of_mul (show 0 < b.1 - a.1 by omega) ?_
  have x := Int.mul_nonneg (show 0 ≤ r.1 - a.1 by omega) h4
  have z := Int.mul_nonneg (show 0 ≤ -((b.1 - a.1) * (r.2 - a.2) - (b.2 - a.2) * (r.1 - a.1)) by omega) (show 0 ≤ p.1 - a.1 by omega)
  grind
theorem crC {a c r p : Pt} (h1 : a.1 < c.1) (h2 : c.1 < r.1) (h3 : p.1 ≤ c.1) (h4 : 0 ≤ cr a c p) (h5 : 0 < cr a c r) : 0 ≤ cr c r p := by
  unfold cr at *
  refine pos_of_mul (show 0 < c.1 - a.1 by omega) ?_
  have x := Int.mul_nonneg (show 0 ≤ r.1 - c.1 by omega) h4
  have z := Int.mul_nonneg (Int.le_of_lt h5) (show 0 ≤ c.1 - p.1 by omega)
  grind
theorem crD {a' a c r : Pt} (h0 : a'.1 < a.1) (h1 : a.1 < c.1) (h2 : c.1 < r.1) (h4 : 0 < cr a' a c) (h5 : 0 < cr a c r) : 0 < cr a' a r := by
  unfold cr at *
  refine spos_of_mul (show 0 < c.1 - a.1 by omega) ?_
  have x := Int.mul_pos (show 0 < a.1 - a'.1 by omega) h5
  have z := Int.mul_pos h4 (show 0 < r.1 - a.1 by omega)
  grind
theorem crE {a p b q t : Pt} (h0 : a.1 < p.1) (h1 : p.1 < b.1) (h2 : q.1 < p.1) (h3 : p.1 < t.1) (h4 : 0 ≤ cr a p q) (h5 : 0 < cr a p b) (h6 : 0 ≤ cr p b t) : 0 < cr q p t := by
  unfold cr at *
  -- slope q p ≤ slope a p < slope p b ≤ slope p t
  refine spos_of_mul (Int.mul_pos (show 0 < p.1 - a.1 by omega) (show 0 < b.1 - p.1 by omega)) ?_
  have x := Int.mul_nonneg (Int.mul_nonneg (show 0 ≤ b.1 - p.1 by omega) (show 0 ≤ t.1 - p.1 by omega)) h4
  have y := Int.mul_nonneg (Int.mul_nonneg (show 0 ≤ p.1 - a.1 by omega) (show 0 ≤ p.1 - q.1 by omega)) h6
  have z := Int.mul_pos (Int.mul_pos (show 0 < p.1 - q.1 by omega) (show 0 < t.1 - p.1 by omega)) h5
  grind
/-! the stack, its top ahead -/
def popTo (r : Pt) : List Pt → List Pt
  | b :: a :: l => if 0 < cr a b r then b :: a :: l else popTo r (a :: l)
  | l => l
def push (S : List Pt) (r : Pt) : List Pt := r :: popTo r S
def hull (L : List Pt) : List Pt := (L.foldl push []).reverse
/-- strictly bent at each -/
def Conv : List Pt → Prop
  | c :: b :: a :: l => 0 < cr a b c ∧ Conv (b :: a :: l)
  | _ => True
/-- all above each piece -/
def Abv (L : List Pt) : List Pt → Prop
  | b :: a :: l => (∀ p ∈ L, 0 ≤ cr a b p) ∧ Abv L (a :: l)
  | _ => True
/-- falling -/
abbrev Dn (l : List Pt) : Prop := l.Pairwise fun a b => b.1 < a.1
structure Hl (S L : List Pt) : Prop where
  sub : S.Sublist L
  ne : L ≠ [] → S ≠ []
  hd : S.head? = L.head?
  la : S.getLast? = L.getLast?
  cv : Conv S
  ab : Abv L S
theorem popTo_ok {L : List Pt} {r : Pt} (hr : ∀ p ∈ L, p.1 < r.1) : ∀ {T : List Pt}, Dn T → Conv T → Abv L T → (∀ t ∈ T, t ∈ L) → T ≠ [] →
    (∀ t, T.head? = some t → ∀ p ∈ L, t.1 ≤ p.1 → 0 ≤ cr t r p) → (∀ t, T.getLast? = some t → ∀ p ∈ L, t.1 ≤ p.1) →
    Conv (r :: popTo r T) ∧ Abv L (r :: popTo r T) ∧ (popTo r T).getLast? = T.getLast? ∧ (popTo r T).Sublist T ∧ popTo r T ≠ []
  | [], _, _, _, _, h, _, _ => absurd rfl h
  | [t], _, _, _, _, _, h, h' => by
    simp only [popTo, Conv, Abv, true_and, and_true]
    refine ⟨fun p hp => ?_, List.Sublist.refl _, by simp⟩
    exact h t rfl p hp (h' t rfl p hp)
  | b :: a :: l, hd, hc, ha, hm, _, h, h' => by
    have hd1 := List.pairwise_cons.mp hd
    have hab : a.1 < b.1 := hd1.1 a (by simp)
    have hbr := hr b (hm b (by simp))
    have har := hr a (hm a (by simp))
    unfold popTo
    split
    · rename_i hcr
      refine ⟨⟨hcr, hc⟩, ⟨fun p hp => ?_, ha⟩, rfl, List.Sublist.refl _, by simp⟩
      rcases Int.lt_or_le p.1 b.1 with hpb | hpb
      · exact crC hab hbr (by omega) (ha.1 p hp) hcr
      · exact h b rfl p hp hpb
    · rename_i hcr
      have hc2 : Conv (a :: l) := by
        cases l with
        | nil => trivial
        | cons x l => exact hc.2
      have hh : ∀ t, (a :: l).head? = some t → ∀ p ∈ L, t.1 ≤ p.1 → 0 ≤ cr t r p := by
        intro t ht p hp htp
        cases ht
        rcases Int.lt_or_le p.1 b.1 with hpb | hpb
        · exact crB hab har htp (ha.1 p hp) (by omega)
        · exact crA hab hbr (Int.le_of_lt (hr p hp)) (h b rfl p hp hpb) (by omega)
      obtain ⟨i1, i2, i3, i4, i5⟩ := popTo_ok hr (T := a :: l) hd1.2 hc2 ha.2 (fun t ht => hm t (List.mem_cons_of_mem _ ht)) (by simp) hh (fun t ht => h' t (by simpa using ht))
      exact ⟨i1, i2, by rw [i3]; simp, i4.trans (List.sublist_cons_self _ _), i5⟩
theorem conv_abv {r : Pt} : ∀ {T : List Pt}, Dn (r :: T) → Conv (r :: T) → ∀ {L : List Pt}, Abv L (r :: T) → Abv (r :: L) (r :: T)
  | [], _, _, _, _ => trivial
  | [t], _, _, L, h => ⟨fun p hp => by
      rcases List.mem_cons.mp hp with rfl | hp
      · unfold cr; grind
      · exact h.1 p hp, trivial⟩
  | c :: a :: l, hd, hc, L, h => by
    have hd1 := List.pairwise_cons.mp hd
    have hd2 := List.pairwise_cons.mp hd1.2
    refine ⟨fun p hp => ?_, ?_⟩
    · rcases List.mem_cons.mp hp with rfl | hp
      · unfold cr; grind
      · exact h.1 p hp
    · -- each piece of c :: a :: l is below r
      have key : ∀ {T : List Pt} {c a : Pt}, Dn (c :: a :: T) → Conv (c :: a :: T) → c.1 < r.1 → 0 < cr a c r → Abv L (c :: a :: T) → Abv (r :: L) (c :: a :: T) := by
        intro T
        induction T with
        | nil =>
          intro c a hd hc hcr h0 ha
          refine ⟨fun p hp => ?_, trivial⟩
          rcases List.mem_cons.mp hp with rfl | hp
          · omega
          · exact ha.1 p hp
        | cons b T ih =>
          intro c a hd hc hcr h0 ha
          have e1 := List.pairwise_cons.mp hd
          have e2 := List.pairwise_cons.mp e1.2
          have hac : a.1 < c.1 := e1.1 a (by simp)
          have hba : b.1 < a.1 := e2.1 b (by simp)
          refine ⟨fun p hp => ?_, ih e1.2 hc.2 (by omega) (crD hba hac hcr hc.1 h0) ha.2⟩
          rcases List.mem_cons.mp hp with rfl | hp
          · omega
          · exact ha.1 p hp
      exact key hd1.2 hc.2 (hd1.1 c (by simp)) hc.1 h.2
theorem push_ok {S L : List Pt} {r : Pt} (hL : Dn (r :: L)) (h : Hl S L) : Hl (push S r) (r :: L) := by
  have hL1 := List.pairwise_cons.mp hL
  unfold push
  by_cases hn : L = []
  · subst hn
    have : S = [] := List.eq_nil_of_sublist_nil h.sub
    subst this
    exact ⟨List.Sublist.refl _, fun _ => by simp [popTo], rfl, rfl, trivial, trivial⟩
  · have hS := h.ne hn
    have hdS : Dn S := List.Pairwise.sublist h.sub hL1.2
    have h1 : ∀ t, S.head? = some t → ∀ p ∈ L, t.1 ≤ p.1 → 0 ≤ cr t r p := by
      intro t ht p hp htp
      rw [h.hd] at ht
      cases L with
      | nil => exact absurd rfl hn
      | cons a L =>
        cases ht
        have e := List.pairwise_cons.mp hL1.2
        rcases List.mem_cons.mp hp with rfl | hp
        · unfold cr; grind
        · have := e.1 p hp
          omega
    have h2 : ∀ t, S.getLast? = some t → ∀ p ∈ L, t.1 ≤ p.1 := by
      intro t ht p hp
      rw [h.la] at ht
      obtain ⟨ys, hy⟩ := List.getLast?_eq_some_iff.mp ht
      subst hy
      have e := List.pairwise_append.mp hL1.2
      rcases List.mem_append.mp hp with hp | hp
      · exact Int.le_of_lt (e.2.2 p hp t (by simp))
      · rw [List.mem_singleton.mp hp]
        exact Int.le_refl _
    obtain ⟨i1, i2, i3, i4, i5⟩ := popTo_ok (L := L) (r := r) hL1.1 hdS h.cv h.ab (fun t ht => h.sub.subset ht) hS h1 h2
    have hdn : Dn (r :: popTo r S) := List.pairwise_cons.mpr ⟨fun q hq => hL1.1 q (h.sub.subset (i4.subset hq)), List.Pairwise.sublist i4 hdS⟩
    refine ⟨List.Sublist.cons₂ r (i4.trans h.sub), fun _ => by simp, rfl, ?_, i1, conv_abv hdn i1 i2⟩
    rw [List.getLast?_cons, List.getLast?_cons, i3, h.la]
/-- rising -/
abbrev Up (l : List Pt) : Prop := l.Pairwise fun a b => a.1 < b.1
theorem fold_ok : ∀ {Q : List Pt} {S L : List Pt}, Hl S L → Dn (Q.reverse ++ L) → Hl (Q.foldl push S) (Q.reverse ++ L)
  | [], S, L, h, _ => h
  | r :: Q, S, L, h, hd => by
    rw [List.reverse_cons, List.append_assoc] at hd ⊢
    have e := List.pairwise_append.mp hd
    exact fold_ok (push_ok e.2.1 h) hd
theorem stack_ok {Q : List Pt} (h : Up Q) : Hl (Q.foldl push []) Q.reverse := by
  have := fold_ok (Q := Q) (S := []) (L := []) ⟨List.Sublist.refl _, fun h => absurd rfl h, rfl, rfl, trivial, trivial⟩ (by
    rw [List.append_nil]
    exact List.pairwise_reverse.mpr h)
  rwa [List.append_nil] at this
/-- below all straight lines of others -/
def extB (L : List Pt) (p : Pt) : Bool := L.all fun q => L.all fun t => decide (q.1 < p.1 → p.1 < t.1 → 0 < cr q p t)
theorem ext_iff {L : List Pt} {p : Pt} : extB L p = true ↔ ∀ q ∈ L, ∀ t ∈ L, q.1 < p.1 → p.1 < t.1 → 0 < cr q p t := by
  unfold extB
  rw [List.all_eq_true]
  refine forall_congr' fun q => imp_congr_right fun _ => ?_
  rw [List.all_eq_true]
  refine forall_congr' fun t => imp_congr_right fun _ => ?_
  exact decide_eq_true_iff
theorem dn_inj {L : List Pt} (h : Dn L) {a b : Pt} (ha : a ∈ L) (hb : b ∈ L) (e : a.1 = b.1) : a = b := by
  induction L with
  | nil => cases ha
  | cons c L ih =>
    have h1 := List.pairwise_cons.mp h
    rcases List.mem_cons.mp ha with e1 | ha <;> rcases List.mem_cons.mp hb with e2 | hb
    · rw [e1, e2]
    · have := h1.1 b hb; rw [e1] at e; omega
    · have := h1.1 a ha; rw [e2] at e; omega
    · exact ih h1.2 ha hb
/-- neighbours in a falling stack -/
theorem hl_mem {S L : List Pt} (hL : Dn L) (h : Hl S L) {p : Pt} (hp : p ∈ L) : p ∈ S ↔ extB L p = true := by
  rw [ext_iff]
  have hdS : Dn S := List.Pairwise.sublist h.sub hL
  constructor
  · intro hpS q hq t ht hqp hpt
    obtain ⟨X, Y, rfl⟩ := List.append_of_mem hpS
    -- the right neighbour is the last of X, the left one the first of Y
    have hY : ∃ a Y', Y = a :: Y' := by
      cases Y with
      | cons a Y' => exact ⟨a, Y', rfl⟩
      | nil =>
        have hl := h.la
        simp at hl
        obtain ⟨ys, hy⟩ := List.getLast?_eq_some_iff.mp hl.symm
        subst hy
        have e := List.pairwise_append.mp hL
        rcases List.mem_append.mp hq with hq | hq
        · have := e.2.2 q hq p (by simp); omega
        · rw [List.mem_singleton.mp hq] at hqp; omega
    have hX : ∃ b X', X = X' ++ [b] := by
      rcases List.eq_nil_or_concat X with rfl | ⟨X', b, rfl⟩
      · have hl := h.hd
        simp at hl
        cases L with
        | nil => cases ht
        | cons c L =>
          simp at hl
          subst hl
          have e := List.pairwise_cons.mp hL
          rcases List.mem_cons.mp ht with rfl | ht
          · omega
          · have := e.1 t ht; omega
      · exact ⟨b, X', by simp⟩
    obtain ⟨a, Y', rfl⟩ := hY
    obtain ⟨b, X', rfl⟩ := hX
    have hsp : ∀ {X' : List Pt}, Conv (X' ++ [b] ++ p :: a :: Y') → Abv L (X' ++ [b] ++ p :: a :: Y') → 0 < cr a p b ∧ (∀ t ∈ L, 0 ≤ cr p b t) ∧ ∀ t ∈ L, 0 ≤ cr a p t := by
      intro X'
      induction X' with
      | nil => intro c d; exact ⟨c.1, d.1, d.2.1⟩
      | cons x X' ih =>
        intro c d
        refine ih ?_ ?_
        · cases X' with
          | nil => exact c.2
          | cons y X' => cases X' <;> exact c.2
        · cases X' with
          | nil => exact d.2
          | cons y X' => exact d.2
    obtain ⟨s1, s2, s3⟩ := hsp h.cv h.ab
    have hd1 := List.pairwise_append.mp hdS
    have hpb : p.1 < b.1 := hd1.2.2 b (by simp) p (by simp)
    have hap : a.1 < p.1 := (List.pairwise_cons.mp hd1.2.1).1 a (by simp)
    exact crE hap hpb hqp hpt (s3 q hq) s1 (s2 t ht)
  · intro hx
    refine Classical.byContradiction fun hn => ?_
    have key : ∀ {T : List Pt}, (∀ t ∈ T, t ∈ S) → Abv L T → (∀ b, T.head? = some b → p.1 < b.1) → (∀ a, T.getLast? = some a → a.1 ≤ p.1) → T = [] := by
      intro T
      induction T with
      | nil => intros; rfl
      | cons b T ih =>
        intro hm ha h1 h2
        have hb := h1 b rfl
        cases T with
        | nil =>
          have := h2 b rfl
          omega
        | cons a T =>
          rcases Int.lt_trichotomy a.1 p.1 with hlt | heq | hgt
          · have z := hx a (h.sub.subset (hm a (by simp))) b (h.sub.subset (hm b (by simp))) hlt hb
            have y := ha.1 p hp
            unfold cr at z y
            grind
          · have := dn_inj hL (h.sub.subset (hm a (by simp))) hp heq
            subst this
            exact absurd (hm a (by simp)) hn
          · have := ih (fun t ht => hm t (List.mem_cons_of_mem _ ht)) ha.2 (fun b hb => by cases hb; exact hgt) (fun c hc => h2 c (by simpa using hc))
            cases this
    have hS : S = [] := key (fun t ht => ht) h.ab (fun b hb => by
        have hbL := hb
        rw [h.hd] at hbL
        cases L with
        | nil => cases hp
        | cons c L =>
          cases hbL
          rcases List.mem_cons.mp hp with rfl | hp'
          · exact absurd (List.mem_of_head? hb) hn
          · exact (List.pairwise_cons.mp hL).1 p hp') (fun a ha => by
        rw [h.la] at ha
        obtain ⟨ys, hy⟩ := List.getLast?_eq_some_iff.mp ha
        subst hy
        have e := List.pairwise_append.mp hL
        rcases List.mem_append.mp hp with hp | hp
        · exact Int.le_of_lt (e.2.2 p hp a (by simp))
        · rw [List.mem_singleton.mp hp]
          exact Int.le_refl _)
    subst hS
    exact h.ne (fun z => by subst z; cases hp) rfl
theorem up_ext : ∀ {A B : List Pt}, Up A → Up B → (∀ y, y ∈ A ↔ y ∈ B) → A = B
  | [], B, _, _, h => by
    cases B with
    | nil => rfl
    | cons b B => exact absurd ((h b).mpr (by simp)) (by simp)
  | a :: A, [], _, _, h => absurd ((h a).mp (by simp)) (by simp)
  | a :: A, b :: B, ha, hb, h => by
    have ha1 := List.pairwise_cons.mp ha
    have hb1 := List.pairwise_cons.mp hb
    have e : a = b := by
      rcases List.mem_cons.mp ((h a).mp (by simp)) with e | e
      · exact e
      · rcases List.mem_cons.mp ((h b).mpr (by simp)) with e2 | e2
        · exact e2.symm
        · have := ha1.1 b e2
          have := hb1.1 a e
          omega
    subst e
    rw [up_ext ha1.2 hb1.2 fun y => ?_]
    constructor
    · intro hy
      rcases List.mem_cons.mp ((h y).mp (List.mem_cons_of_mem _ hy)) with e | e
      · have := ha1.1 y hy
        rw [e] at this
        omega
      · exact e
    · intro hy
      rcases List.mem_cons.mp ((h y).mpr (List.mem_cons_of_mem _ hy)) with e | e
      · have := hb1.1 y hy
        rw [e] at this
        omega
      · exact e
/-- the hull: what is below all lines -/
theorem hull_eq {L : List Pt} (h : Up L) : hull L = L.filter (extB L) := by
  have H := stack_ok h
  have hd : Dn L.reverse := List.pairwise_reverse.mpr h
  refine up_ext ?_ (h.filter _) fun y => ?_
  · exact List.pairwise_reverse.mpr (List.Pairwise.sublist H.sub hd)
  · unfold hull
    rw [List.mem_reverse, List.mem_filter]
    have e : extB L.reverse y = extB L y := by
      rw [Bool.eq_iff_iff, ext_iff, ext_iff]
      simp
    constructor
    · intro hy
      have hyL := H.sub.subset hy
      exact ⟨List.mem_reverse.mp hyL, e ▸ (hl_mem hd H hyL).mp hy⟩
    · rintro ⟨h1, h2⟩
      exact (hl_mem hd H (List.mem_reverse.mpr h1)).mpr (e ▸ h2)
/-- pieces of the rising hull -/
inductive Nxt (a b : Pt) : List Pt → Prop
  | here {l : List Pt} : Nxt a b (a :: b :: l)
  | there {c : Pt} {l : List Pt} : Nxt a b l → Nxt a b (c :: l)
theorem nxt_iff {a b : Pt} {l : List Pt} : Nxt a b l ↔ ∃ X Y, l = X ++ a :: b :: Y := by
  constructor
  · intro h
    induction h with
    | @here l => exact ⟨[], l, rfl⟩
    | @there c l _ ih =>
      obtain ⟨X, Y, rfl⟩ := ih
      exact ⟨c :: X, Y, rfl⟩
  · rintro ⟨X, Y, rfl⟩
    induction X with
    | nil => exact .here
    | cons c X ih => exact .there ih
/-- what the hull's pieces keep -/
theorem hull_piece {L : List Pt} (h : Up L) {a b : Pt} (hn : Nxt a b (hull L)) : a.1 < b.1 ∧ a ∈ L ∧ b ∈ L ∧ ∀ p ∈ L, 0 ≤ cr a b p := by
  have H := stack_ok h
  have hd : Dn L.reverse := List.pairwise_reverse.mpr h
  have hdS := List.Pairwise.sublist H.sub hd
  obtain ⟨X, Y, e⟩ := nxt_iff.mp hn
  unfold hull at e
  have e2 : L.foldl push [] = Y.reverse ++ b :: a :: X.reverse := by
    rw [← List.reverse_reverse (L.foldl push []), e]
    simp
  rw [e2] at H hdS
  have hab := H.ab
  have z : ∀ {Z : List Pt}, Abv L.reverse (Z ++ b :: a :: X.reverse) → ∀ p ∈ L.reverse, 0 ≤ cr a b p := by
    intro Z
    induction Z with
    | nil => intro d; exact d.1
    | cons x Z ih =>
      intro d
      refine ih ?_
      cases Z with
      | nil => exact d.2
      | cons y Z => exact d.2
  have s := List.pairwise_append.mp hdS
  exact ⟨(List.pairwise_cons.mp s.2.1).1 a (by simp), List.mem_reverse.mp (H.sub.subset (by simp)), List.mem_reverse.mp (H.sub.subset (by simp)), fun p hp => z hab p (List.mem_reverse.mpr hp)⟩
/-- a bend -/
theorem hull_bend {L : List Pt} (h : Up L) {a b c : Pt} {X Y : List Pt} (e : hull L = X ++ a :: b :: c :: Y) : 0 < cr a b c := by
  have hL := hull_eq h
  have hm : b ∈ L.filter (extB L) := by rw [← hL, e]; simp
  have hup : Up (X ++ a :: b :: c :: Y) := by rw [← e, hL]; exact h.filter _
  have s := (List.pairwise_append.mp hup).2.1
  have s1 := List.pairwise_cons.mp s
  have s2 := List.pairwise_cons.mp s1.2
  have ha : a ∈ L := (List.mem_filter.mp (by rw [← hL, e]; simp : a ∈ L.filter (extB L))).1
  have hc : c ∈ L := (List.mem_filter.mp (by rw [← hL, e]; simp : c ∈ L.filter (extB L))).1
  exact ext_iff.mp (List.mem_filter.mp hm).2 a ha c hc (s1.1 b (by simp)) (s2.1 c (by simp))
theorem hull_ne {L : List Pt} (h : Up L) (hn : L ≠ []) : hull L ≠ [] := fun z => by
  have H := stack_ok h
  exact H.ne (by simpa using hn) (by simpa [hull] using z)
theorem hull_head {L : List Pt} (h : Up L) : (hull L).head? = L.head? := by
  have H := (stack_ok h).la
  unfold hull
  rw [List.head?_reverse, H, List.getLast?_reverse]
theorem hull_last {L : List Pt} (h : Up L) : (hull L).getLast? = L.getLast? := by
  have H := (stack_ok h).hd
  unfold hull
  rw [List.getLast?_reverse, H, List.head?_reverse]
theorem hull_sub {L : List Pt} (h : Up L) : ∀ p ∈ hull L, p ∈ L := fun p hp => by
  rw [hull_eq h] at hp
  exact (List.mem_filter.mp hp).1
theorem hull_up {L : List Pt} (h : Up L) : Up (hull L) := by
  rw [hull_eq h]
  exact h.filter _
end DL

set_option Elab.async false
set_option linter.all false
set_option maxRecDepth 100000
set_option maxHeartbeats 4000000
set_option autoImplicit false
/-! M2: thinned, plain. -/
namespace DL
abbrev Pt2 := Int × Int
/-- covers within the share -/
def nr (n d : Int) (p q : Pt2) : Bool := decide (p.1 * d ≤ q.1 * (n + d)) && decide (p.2 * d ≤ q.2 * (n + d))
theorem nr_iff {n d : Int} {p q : Pt2} : nr n d p q = true ↔ p.1 * d ≤ q.1 * (n + d) ∧ p.2 * d ≤ q.2 * (n + d) := by
  simp [nr]
/-- a stair of two prices -/
structure St (L : List Pt2) : Prop where
  up : L.Pairwise fun a b => a.1 < b.1 ∧ b.2 < a.2
  nn : ∀ p ∈ L, 0 ≤ p.1 ∧ 0 ≤ p.2
structure Thin (n d : Int) (L C A : List Pt2) : Prop where
  len : C.length = A.length
  cs : C.Sublist L
  as : A.Sublist L
  cv : ∀ p ∈ L, ∃ c ∈ C, nr n d c p = true
  ap : ∀ p ∈ L, (A.filter (nr n d p)).length ≤ 1
/-- the k-th -/
def gp (L : List Pt2) (k : Nat) : Pt2 := L.getD k (0, 0)
theorem gp_mem {L : List Pt2} {k : Nat} (h : k < L.length) : gp L k ∈ L := by
  unfold gp
  rw [List.getD_eq_getElem?_getD, List.getElem?_eq_getElem h]
  exact List.getElem_mem h
theorem st_le {L : List Pt2} (h : St L) {i j : Nat} (hij : i ≤ j) (hj : j < L.length) : (gp L i).1 ≤ (gp L j).1 ∧ (gp L j).2 ≤ (gp L i).2 := by
  rcases Nat.lt_or_eq_of_le hij with hlt | rfl
  · have := List.pairwise_iff_getElem.mp h.up i j (by omega) hj hlt
    unfold gp
    rw [List.getD_eq_getElem?_getD, List.getD_eq_getElem?_getD, List.getElem?_eq_getElem hj, List.getElem?_eq_getElem (show i < L.length by omega)]
    exact ⟨Int.le_of_lt this.1, Int.le_of_lt this.2⟩
  · exact ⟨Int.le_refl _, Int.le_refl _⟩
/-- what the walk keeps: numbers of rows -/
structure Gr (n d : Int) (L : List Pt2) (at' : Nat) (ci ai : List Nat) : Prop where
  len : ci.length = ai.length
  le : at' ≤ L.length
  cl : ∀ i ∈ ci, i < at'
  al : ∀ i ∈ ai, i < at'
  cu : ci.Pairwise (· < ·)
  au : ai.Pairwise (· < ·)
  cv : ∀ j < at', ∃ i ∈ ci, nr n d (gp L i) (gp L j) = true
  ap : ∀ k < L.length, (ai.filter fun i => nr n d (gp L k) (gp L i)).length ≤ 1
  af : ∀ i ∈ ai, ∀ k < L.length, nr n d (gp L k) (gp L i) = true → ∀ j, at' ≤ j → j < L.length → nr n d (gp L k) (gp L j) = false
theorem gr_nil {n d : Int} {L : List Pt2} : Gr n d L 0 [] [] :=
  ⟨rfl, Nat.zero_le _, by simp, by simp, .nil, .nil, by omega, by simp, by simp⟩
theorem nr_self {n d : Int} (hn : 0 ≤ n) {p : Pt2} (hp : 0 ≤ p.1 ∧ 0 ≤ p.2) : nr n d p p = true := by
  rw [nr_iff]
  have a := Int.mul_nonneg hp.1 hn
  have b := Int.mul_nonneg hp.2 hn
  constructor <;> grind
/-- one turn -/
theorem gr_step {n d : Int} (hn : 0 ≤ n) (hd : 0 ≤ d) {L : List Pt2} (S : St L) {i0 la at' : Nat} {ci ai : List Nat} (G : Gr n d L i0 ci ai) (hi : i0 < L.length)
    (hla : la < L.length) (hnla : nr n d (gp L la) (gp L i0) = true) (hmax : ∀ k < L.length, nr n d (gp L k) (gp L i0) = true → k ≤ la)
    (h1 : la < at') (h2 : at' ≤ L.length) (h3 : ∀ j, la < j → j < at' → nr n d (gp L la) (gp L j) = true) (h4 : at' < L.length → nr n d (gp L la) (gp L at') = false) :
    Gr n d L at' (ci ++ [la]) (ai ++ [i0]) := by
  have hila : i0 ≤ la := hmax i0 hi (nr_self hn (S.nn _ (gp_mem hi)))
  refine ⟨by simp [G.len], h2, ?_, ?_, ?_, ?_, ?_, ?_, ?_⟩
  · intro i hi'
    rcases List.mem_append.mp hi' with h | h
    · have := G.cl i h; omega
    · rw [List.mem_singleton.mp h]; exact h1
  · intro i hi'
    rcases List.mem_append.mp hi' with h | h
    · have := G.al i h; omega
    · rw [List.mem_singleton.mp h]; omega
  · refine List.pairwise_append.mpr ⟨G.cu, by simp, fun a ha b hb => ?_⟩
    rw [List.mem_singleton.mp hb]
    have := G.cl a ha
    omega
  · refine List.pairwise_append.mpr ⟨G.au, by simp, fun a ha b hb => ?_⟩
    rw [List.mem_singleton.mp hb]
    exact G.al a ha
  · intro j hj
    rcases Nat.lt_or_ge j i0 with hlt | hge
    · obtain ⟨i, h, h'⟩ := G.cv j hlt
      exact ⟨i, List.mem_append_left _ h, h'⟩
    · refine ⟨la, by simp, ?_⟩
      rcases Nat.lt_or_ge la j with hlt | hge2
      · exact h3 j hlt hj
      · have o1 := st_le S hge (show j < L.length by omega)
        have o2 := st_le S hge2 hla
        have p1 := S.nn _ (gp_mem (L := L) (k := j) (by omega))
        rw [nr_iff] at hnla ⊢
        have a := Int.mul_nonneg (show 0 ≤ (gp L j).1 - (gp L i0).1 by omega) (show 0 ≤ n + d by omega)
        have b := Int.mul_nonneg (show 0 ≤ (gp L j).2 - (gp L la).2 by omega) hd
        have c := Int.mul_nonneg p1.2 hn
        constructor <;> grind
  · intro k hk
    rw [List.filter_append, List.length_append]
    have := G.ap k hk
    cases e : nr n d (gp L k) (gp L i0)
    · simp [e, this]
    · have : ai.filter (fun i => nr n d (gp L k) (gp L i)) = [] := by
        rw [List.filter_eq_nil_iff]
        intro i h1 h2
        rw [G.af i h1 k hk h2 i0 (Nat.le_refl _) hi] at e
        cases e
      simp [e, this]
  · intro i hi' k hk hki j hj1 hj2
    rcases List.mem_append.mp hi' with h | h
    · exact G.af i h k hk hki j (by omega) hj2
    · rw [List.mem_singleton.mp h] at hki
      have hkl := hmax k hk hki
      have f := h4 (by omega)
      cases e : nr n d (gp L k) (gp L j)
      · rfl
      · exfalso
        rw [← Bool.not_eq_true, nr_iff] at f
        rw [nr_iff] at e
        have o1 := st_le S hkl hla
        have o2 := st_le S hj1 hj2
        have o3 := st_le S (show la ≤ at' by omega) (show at' < L.length by omega)
        have p1 := S.nn _ (gp_mem (L := L) (k := at') (by omega))
        have a := Int.mul_nonneg (show 0 ≤ (gp L at').1 - (gp L la).1 by omega) hd
        have b := Int.mul_nonneg p1.1 hn
        have c := Int.mul_nonneg (show 0 ≤ (gp L k).2 - (gp L la).2 by omega) hd
        have d' := Int.mul_nonneg (show 0 ≤ (gp L at').2 - (gp L j).2 by omega) (show 0 ≤ n + d by omega)
        apply f
        constructor <;> grind
theorem gp_sub {L : List Pt2} {is : List Nat} (h : is.Pairwise (· < ·)) (h2 : ∀ i ∈ is, i < L.length) : (is.map (gp L)).Sublist L := by
  have key : ∀ (L : List Pt2) (o : Nat) (is : List Nat), is.Pairwise (· < ·) → (∀ i ∈ is, o ≤ i) → (∀ i ∈ is, i - o < L.length) → (is.map fun i => gp L (i - o)).Sublist L := by
    intro L
    induction L with
    | nil =>
      intro o is h h1 h2
      cases is with
      | nil => exact List.Sublist.refl _
      | cons i is => exact absurd (h2 i (by simp)) (by simp)
    | cons a L ih =>
      intro o is h h1 h2
      cases is with
      | nil => exact List.nil_sublist _
      | cons i is =>
        have hp := List.pairwise_cons.mp h
        by_cases hi : i = o
        · subst hi
          rw [List.map_cons]
          have e0 : gp (a :: L) (i - i) = a := by simp [gp]
          rw [e0]
          refine List.Sublist.cons₂ a ?_
          have := ih (i + 1) is hp.2 (fun j hj => hp.1 j hj) (fun j hj => by
            have := h2 j (List.mem_cons_of_mem _ hj)
            have := hp.1 j hj
            simp at *
            omega)
          have e : is.map (fun j => gp (a :: L) (j - i)) = is.map fun j => gp L (j - (i + 1)) := by
            refine List.map_congr_left fun j hj => ?_
            have := hp.1 j hj
            rw [show j - i = (j - (i + 1)) + 1 by omega]
            simp [gp]
          rw [e]
          exact this
        · refine List.Sublist.cons a ?_
          have hall : ∀ j ∈ i :: is, o < j := by
            intro j hj
            have h1i := h1 i (by simp)
            rcases List.mem_cons.mp hj with rfl | hj
            · omega
            · have := hp.1 j hj; omega
          have := ih (o + 1) (i :: is) h (fun j hj => hall j hj) (fun j hj => by
            have := h2 j hj
            have := hall j hj
            simp at *
            omega)
          have e : (i :: is).map (fun j => gp (a :: L) (j - o)) = (i :: is).map fun j => gp L (j - (o + 1)) := by
            refine List.map_congr_left fun j hj => ?_
            have := hall j hj
            rw [show j - o = (j - (o + 1)) + 1 by omega]
            simp [gp]
          rw [e]
          exact this
  simpa using key L 0 is h (fun _ _ => Nat.zero_le _) (fun i hi => by simpa using h2 i hi)
theorem gr_thin {n d : Int} {L : List Pt2} {ci ai : List Nat} (G : Gr n d L L.length ci ai) : Thin n d L (ci.map (gp L)) (ai.map (gp L)) := by
  refine ⟨by simp [G.len], gp_sub G.cu G.cl, gp_sub G.au G.al, fun p hp => ?_, fun p hp => ?_⟩
  · obtain ⟨j, hj, rfl⟩ := List.mem_iff_getElem.mp hp
    obtain ⟨i, h1, h2⟩ := G.cv j hj
    refine ⟨gp L i, List.mem_map_of_mem h1, ?_⟩
    have : gp L j = L[j] := by simp [gp, List.getElem?_eq_getElem hj]
    rwa [this] at h2
  · obtain ⟨k, hk, rfl⟩ := List.mem_iff_getElem.mp hp
    have : gp L k = L[k] := by simp [gp, List.getElem?_eq_getElem hk]
    rw [← this, List.filter_map, List.length_map]
    exact G.ap k hk
/-! no cover is shorter than rows apart -/
theorem dual_aux {n d : Int} : ∀ {C A : List Pt2}, (∀ a ∈ A, ∃ c ∈ C, nr n d c a = true) → (∀ c ∈ C, (A.filter (nr n d c)).length ≤ 1) → A.length ≤ C.length
  | [], A, h, _ => by
    cases A with
    | nil => simp
    | cons a A => obtain ⟨c, hc, _⟩ := h a (by simp); cases hc
  | c :: C, A, h, h2 => by
    have e := h2 c (by simp)
    have s : (A.filter fun a => !nr n d c a).length + (A.filter (nr n d c)).length = A.length := by
      clear h h2 e
      induction A with
      | nil => rfl
      | cons a A ih => cases e : nr n d c a <;> simp [e] <;> omega
    have ih := dual_aux (n := n) (d := d) (C := C) (A := A.filter fun a => !nr n d c a) (fun a ha => by
        obtain ⟨h3, h4⟩ := List.mem_filter.mp ha
        obtain ⟨c', h5, h6⟩ := h a h3
        rcases List.mem_cons.mp h5 with rfl | h5
        · rw [h6] at h4; cases h4
        · exact ⟨c', h5, h6⟩) (fun c' hc' => by
        have := h2 c' (List.mem_cons_of_mem _ hc')
        rw [List.filter_filter]
        refine Nat.le_trans ?_ this
        have : (A.filter fun a => nr n d c' a && !nr n d c a).Sublist (A.filter (nr n d c')) := by
          have z := (List.filter_sublist (p := fun a => !nr n d c a) (l := A.filter (nr n d c')))
          rw [List.filter_filter] at z
          refine List.Sublist.trans ?_ z
          have : (fun a => nr n d c' a && !nr n d c a) = fun a => !nr n d c a && nr n d c' a := by funext a; exact Bool.and_comm _ _
          rw [this]
          exact List.Sublist.refl _
        exact this.length_le)
    simp only [List.length_cons]
    omega
theorem Thin.least {n d : Int} {L C A C' : List Pt2} (T : Thin n d L C A) (hs : ∀ c ∈ C', c ∈ L) (hc : ∀ p ∈ L, ∃ c ∈ C', nr n d c p = true) : C.length ≤ C'.length := by
  rw [T.len]
  exact dual_aux (fun a ha => hc a (T.as.subset ha)) fun c hc' => T.ap c (hs c hc')
end DL

set_option Elab.async false
set_option linter.all false
set_option maxRecDepth 100000
set_option maxHeartbeats 4000000
set_option autoImplicit false
/-! P2h: corners. -/
namespace DL
open PySem
abbrev rw2 (p : Pt) : List Int := [p.1, p.2]
abbrev pD (p : Pt) : D := .tup [.int p.1, .int p.2]
theorem pD_row (p : Pt) : rowD (rw2 p) = pD p := rfl
/-- bounds of a point -/
def Bp (p : Pt) : Prop := (0 ≤ p.1 ∧ p.1 ≤ 1000000000000000000000000000000000000000000000) ∧ (0 ≤ p.2 ∧ p.2 ≤ 1000000000000000000000000000000000000000000000)
@[simp] theorem get2_0 {a b : D} : getI [a, b] 0 = .ok a := getI_ok (by decide) rfl
@[simp] theorem get2_1 {a b : D} : getI [a, b] 1 = .ok b := getI_ok (by decide) rfl
theorem is_below_ok {a b c : Pt} (ha : Bp a) (hb : Bp b) (hc : Bp c) : F_is_below [pD a, pD b, pD c] = .ok (.bl (decide (0 < cr a b c))) := by
  refine run_ok ?_
  unfold g_is_below
  unfold Bp at ha hb hc
  simp
  rw [oMul_ok (i := a.2 - b.2) ⟨by omega, by omega⟩ ⟨by omega, by omega⟩, oMul_ok (i := b.2 - c.2) ⟨by omega, by omega⟩ ⟨by omega, by omega⟩]
  simp
  unfold cr
  constructor <;> intro h <;> grind
/-- in lowest terms -/
def lowA (n d : Int) : Pt := (n / (Int.gcd n d : Int), d / (Int.gcd n d : Int))
theorem lowest_ok {n d : Int} (hn : 0 ≤ n) (hd : 0 < d) (hn1 : n < 2 ^ 250) (hd1 : d < 2 ^ 250) : F_lowest [.int n, .int d] = .ok (pD (lowA n d)) := by
  refine run_ok ?_
  unfold g_lowest
  simp only [oSeq_wp]
  simp
  refine gcd_wp hn (by omega) (by omega) hn1 hd1 ?_
  have h0 : 0 < Int.gcd n d := Int.gcd_pos_of_ne_zero_right _ (by omega)
  have h1 : (Int.gcd n d : Int) ≤ d := Int.le_of_dvd hd (Int.gcd_dvd_right ..)
  have hs : Sm (Int.gcd n d : Int) := ⟨by omega, by omega⟩
  simp [oDiv_ok (i := n) (show (0 : Int) < (Int.gcd n d : Int) by omega) hs, oDiv_ok (i := d) (show (0 : Int) < (Int.gcd n d : Int) by omega) hs, lowA]
/-- what lowest terms keep -/
theorem lowA_ok {n d : Int} (hn : 0 ≤ n) (hd : 0 < d) : ∃ g : Int, 0 < g ∧ n = (lowA n d).1 * g ∧ d = (lowA n d).2 * g ∧ 0 ≤ (lowA n d).1 ∧ 0 < (lowA n d).2 ∧ Int.gcd (lowA n d).1 (lowA n d).2 = 1 := by
  have h0 : 0 < Int.gcd n d := Int.gcd_pos_of_ne_zero_right _ (by omega)
  have e1 := Int.ediv_mul_cancel (Int.gcd_dvd_left n d)
  have e2 := Int.ediv_mul_cancel (Int.gcd_dvd_right n d)
  have e3 := Int.gcd_ediv_gcd_ediv_gcd h0
  refine ⟨Int.gcd n d, by omega, e1.symm, e2.symm, Int.ediv_nonneg hn (by omega), ?_, e3⟩
  exact Int.ediv_pos_of_pos_of_dvd hd (by omega) (Int.gcd_dvd_right n d)
/-! the ends -/
def lowE (a b : Pt) : Pt := lowA (a.2 - b.2) (a.2 - b.2 + b.1 - a.1)
def en (K : List Pt) (k : Nat) : Pt := if k = 0 then (1, 1) else if k < K.length then lowE (gp K (k - 1)) (gp K k) else (0, 1)
abbrev cD (c : Pt × Pt × Pt) : D := .tup [pD c.1, pD c.2.1, pD c.2.2]
def cornersK (K : List Pt) : List (Pt × Pt × Pt) := (List.range K.length).map fun k => (gp K k, en K (k + 1), en K k)
def cornersA (L : List Pt) : List (Pt × Pt × Pt) := if L = [] then [] else cornersK (hull L)
theorem dropLast_rev {α : Type} (a : α) (l : List α) : (a :: l).reverse.dropLast = l.reverse := by simp
theorem getI_rev {S : List Pt} {a b : Pt} : getI ((a :: b :: S).reverse.map pD) ((((a :: b :: S).reverse.map pD).length : Int) - 1) = .ok (pD a) ∧ getI ((a :: b :: S).reverse.map pD) ((((a :: b :: S).reverse.map pD).length : Int) - 2) = .ok (pD b) := by
  have e : (a :: b :: S).reverse.map pD = S.reverse.map pD ++ [pD b, pD a] := by simp
  rw [e]
  constructor
  · refine getI_ok (by simp <;> omega) ?_
    rw [List.getElem?_append_right (by simp <;> omega)]
    simp only [List.length_append, List.length_map, List.length_reverse, List.length_cons, List.length_nil]
    rw [show ((((S.length + (0 + 1 + 1) : Nat)) : Int) - 1).toNat - S.length = 1 by omega]
    rfl
  · refine getI_ok (by simp <;> omega) ?_
    rw [List.getElem?_append_right (by simp <;> omega)]
    simp only [List.length_append, List.length_map, List.length_reverse, List.length_cons, List.length_nil]
    rw [show ((((S.length + (0 + 1 + 1) : Nat)) : Int) - 2).toNat - S.length = 0 by omega]
    rfl
theorem gp_get {K : List Pt} {k : Int} {j : Nat} (h : k = j) (hj : j < K.length) : getI (K.map pD) k = .ok (pD (gp K j)) := by
  subst h
  rw [getI_map (enc := pD) (by omega) (by simpa using hj)]
  simp [gp, List.getElem?_eq_getElem hj]
theorem popTo_len (r : Pt) : ∀ S : List Pt, (popTo r S).length ≤ S.length
  | [] => by simp [popTo]
  | [a] => by simp [popTo]
  | b :: a :: l => by
    unfold popTo
    split
    · exact Nat.le_refl _
    · have := popTo_len r (a :: l)
      simp at *
      omega
theorem popTo_mem {r p : Pt} : ∀ {S : List Pt}, p ∈ popTo r S → p ∈ S
  | [], h => h
  | [a], h => h
  | b :: a :: l, h => by
    unfold popTo at h
    split at h
    · exact h
    · exact List.mem_cons_of_mem _ (popTo_mem h)
theorem cl_pts {ps : List Pt} : Cl 2 (.lst (ps.map pD)) := by
  have := cl_rows (rs := ps.map rw2)
  rw [List.map_map] at this
  exact this
theorem corners_ok {L : List Pt} (h : St L) (hb : ∀ p ∈ L, Bp p) (hl : L.length ≤ 1000) : F_corners [.lst (L.map pD)] = .ok (.lst ((cornersA L).map cD)) := by
  refine run_ok ?_
  unfold g_corners
  rw [oSeq_wp]
  simp only [oIf_eq, dB_eq, d2_eq, dV_z, R.bind_ok, dLst_eq, dNil_eq, List.map_cons, List.map_nil, List.cons_append]
  rw [oEq_nil cl_pts]
  by_cases hL : L = []
  · subst hL
    simp [cornersA]
  have hup : Up L := h.up.imp fun z => z.1
  have hLm : L.map pD ≠ [] := by simpa using hL
  have e0 : getI (L.map pD) 0 = .ok (pD (gp L 0)) := gp_get rfl (List.length_pos_iff.mpr hL)
  simp [hL, e0]
  refine wp_mid (I := fun ρ => ∃ x2 x4 x5, ρ = [some (.lst (L.map pD)), some (.lst ((hull L).map pD)), x2, none, x4, x5]) ?_ ?_
  · refine loop_foldI (J := fun n (S : List Pt) ρ => ∃ x2 x4 x5, S.length ≤ n ∧ (∀ p ∈ S, p ∈ L) ∧ ρ = [some (.lst (L.map pD)), some (.lst (S.reverse.map pD)), x2, none, x4, x5]) push L 0 [] _ ⟨_, _, _, by simp, by simp, rfl⟩ ?_ ?_
    · rintro i S r ρ hi hr ⟨x2, x4, x5, hS, hSm, rfl⟩
      simp
      refine wp_mid (I := fun ρ => ρ = [some (.lst (L.map pD)), some (.lst ((popTo r S).reverse.map pD)), some (pD r), none, x4, x5]) ?_ ?_
      · refine while_wp (J := fun k ρ => ∃ S', S'.length = k ∧ popTo r S' = popTo r S ∧ (∀ p ∈ S', p ∈ L) ∧ ρ = [some (.lst (L.map pD)), some (.lst (S'.reverse.map pD)), some (pD r), none, x4, x5]) S.length ⟨S, rfl, rfl, hSm, by simp⟩ (by omega) ?_
        rintro k ρ ⟨S', hk, hp, hm, rfl⟩
        match S', hk, hp, hm with
        | [], hk, hp, hm => simp [← hp, popTo]
        | [a], hk, hp, hm => simp [← hp, popTo]
        | b :: a :: l, hk, hp, hm =>
          obtain ⟨g1, g2⟩ := getI_rev (S := l) (a := b) (b := a)
          simp only [bAnd_eq, dB_eq, d2_eq, dCall_eq, dCons_eq, dNil_eq, dV_z, dV_s, R.bind_ok, oLen_l, dC_eq, ixK_eq, kL_eq, isL_l, bNot_eq, oSub_i, g1, g2]
          simp [is_below_ok (hb _ (hm a (by simp))) (hb _ (hm b (by simp))) (hb r hr)]
          have hl : ((l.length : Int) + 1 + 1 > 1) := by omega
          by_cases hc : 0 < cr a b r
          · have e : popTo r (b :: a :: l) = b :: a :: l := by unfold popTo; rw [if_pos hc]
            rw [← hp, e]
            simp [hc]
            intro _ hh
            omega
          · have e : popTo r (b :: a :: l) = popTo r (a :: l) := by rw [popTo]; rw [if_neg hc]
            have hc2 : cr a b r ≤ 0 := by omega
            simp [hc2, mPop, show (1 : Int) < (l.length : Int) + 1 + 1 by omega, show (1 : Int) < (l.length : Int) + 2 by omega]
            refine ⟨l.length + 1, by simp at hk; omega, a :: l, by simp, by rw [← e, hp], fun p1 p2 hp => hm _ (List.mem_cons_of_mem _ hp), by simp⟩
      · rintro ρ rfl
        have := popTo_len r S
        simp [show (popTo r S).length < 16777216 by omega]
        refine ⟨by simp [push]; omega, fun p1 p2 hp => ?_, by simp [push]⟩
        · unfold push at hp
          rcases List.mem_cons.mp hp with e | hp
          · rw [e]; exact hr
          · exact hSm _ (popTo_mem hp)
    · rintro ρ ⟨x2, x4, x5, _, _, rfl⟩
      exact ⟨x2, x4, x5, rfl⟩
  rintro ρ ⟨x2, x4, x5, rfl⟩
  have hK : ∀ p ∈ hull L, Bp p := fun p hp => hb p (hull_sub hup p hp)
  have hne := hull_ne hup hL
  have hKl : (hull L).length ≤ 1000 := by
    rw [hull_eq hup]
    exact Nat.le_trans (List.length_filter_le _ _) hl
  have hKf : ∀ i j, i < j → j < (hull L).length → (gp (hull L) i).1 < (gp (hull L) j).1 ∧ (gp (hull L) j).2 < (gp (hull L) i).2 := by
    intro i j hij hj
    have hp : (hull L).Pairwise fun a b => a.1 < b.1 ∧ b.2 < a.2 := by
      rw [hull_eq hup]
      exact h.up.filter _
    have := List.pairwise_iff_getElem.mp hp i j (by omega) hj hij
    simpa [gp, List.getElem?_eq_getElem hj, List.getElem?_eq_getElem (show i < (hull L).length by omega)] using this
  unfold cornersA
  rw [if_neg hL]
  generalize hull L = K at hK hne hKl hKf
  have hKp : 0 < K.length := List.length_pos_iff.mpr hne
  have e2 : itR2 [.int 1, .int (K.length : Int)] = .ok ((List.range (K.length - 1)).map fun i : Nat => D.int (1 + (i : Int))) := by
    show (if _ then _ else _) = _
    rw [if_pos (by omega)]
    unfold upTo
    congr 2
    congr 1
    omega
  simp [e2]
  refine loop_inv (J := fun i ρ => ∃ x4 x5, ρ = [some (.lst (L.map pD)), some (.lst (K.map pD)), x2, some (.lst (((List.range (i + 1)).map (en K)).map pD)), x4, x5]) _ 0 _ ⟨x4, x5, by simp [en]⟩ ?_ ?_
  · rintro i e ρ he ⟨x4, x5, rfl⟩
    obtain ⟨hi, rfl⟩ : i < K.length - 1 ∧ e = .int (1 + (i : Int)) := by
      rw [List.getElem?_map] at he
      obtain ⟨j, h1, h2⟩ := Option.map_eq_some_iff.mp he
      obtain ⟨h3, h4⟩ := List.getElem?_eq_some_iff.mp h1
      rw [List.getElem_range] at h4
      subst h4
      exact ⟨by simpa using h3, h2.symm⟩
    have g1 : getI (K.map pD) (1 + (i : Int)) = .ok (pD (gp K (i + 1))) := gp_get (by omega) (by omega)
    have g0 : getI (K.map pD) (1 + (i : Int) - 1) = .ok (pD (gp K i)) := gp_get (by omega) (by omega)
    have f := hKf i (i + 1) (by omega) (by omega)
    have b1 := hK _ (gp_mem (L := K) (k := i) (by omega))
    have b2 := hK _ (gp_mem (L := K) (k := i + 1) (by omega))
    unfold Bp at b1 b2
    simp [-List.map_map, g0, g1, lowest_ok (n := (gp K i).2 - (gp K (i + 1)).2) (d := (gp K i).2 - (gp K (i + 1)).2 + (gp K (i + 1)).1 - (gp K i).1) (by omega) (by omega) (by omega) (by omega), show i + 1 < 16777216 by omega]
    rw [List.range_succ (n := i + 1)]
    simp [en, show i + 1 < K.length by omega, lowE]
  · rintro ρ ⟨x4, x5, rfl⟩
    have e3 : ((List.range (0 + (List.map (fun i : Nat => D.int (1 + (i : Int))) (List.range (K.length - 1))).length + 1)).map (en K)).map pD = ((List.range K.length).map (en K)).map pD := by
      congr 3
      simp
      omega
    rw [e3]
    simp [-List.map_map, show K.length < 16777216 by omega]
    have e4 : ((List.range K.length).map (en K)).map pD ++ [D.tup [.int 0, .int 1]] = ((List.range (K.length + 1)).map (en K)).map pD := by
      rw [List.range_succ]
      simp [en, show K.length ≠ 0 by omega]
    rw [e4]
    have e5 : enumF 0 (K.map pD) = (List.range K.length).map fun k : Nat => D.tup [.int (k : Int), pD (gp K k)] := by
      apply List.ext_getElem?
      intro k
      by_cases hk : k < K.length
      · rw [enumF_get (d := pD (gp K k))]
        · simp [hk]
        · simp [gp, List.getElem?_eq_getElem hk]
      · rw [List.getElem?_eq_none (by rw [enumF_length]; simp; omega), List.getElem?_eq_none (by simp <;> omega)]
    simp [-List.map_map, itE, e5]
    rw [lcF_of (enc := fun k : Nat => D.tup [.int (k : Int), pD (gp K k)]) (enc' := cD) (fun _ => true) (fun k : Nat => (gp K k, en K (k + 1), en K k))]
    · rw [filter_yes]
      rfl
    · intro k hk
      have hk2 : k < K.length := List.mem_range.mp hk
      have g1 : ∀ (z : Int) (j : Nat), z = j → j < K.length + 1 → getI (((List.range (K.length + 1)).map (en K)).map pD) z = .ok (pD (en K j)) := by
        intro z j hz hj
        subst hz
        rw [getI_map (enc := pD) (by omega) (by simpa using hj)]
        simp
      simp [-List.map_map, g1 (k : Int) k rfl (by omega), g1 ((k : Int) + 1) (k + 1) (by omega) (by omega)]
end DL

set_option Elab.async false
set_option linter.all false
set_option maxRecDepth 100000
set_option maxHeartbeats 4000000
set_option autoImplicit false
/-! P2a: any stair. -/
namespace DL
open PySem
/-- entries in bounds -/
def Bd (rs : List (List Int)) : Prop := ∀ r ∈ rs, ∀ x ∈ r, 0 ≤ x ∧ x ≤ 1000000000000000000000000000000000000000000
theorem stairA_bd {rs : List (List Int)} (h : Bd rs) : Bd (stairA rs) := fun r hr => h r (stairA_mem hr)
theorem any_stair_ex (ns : List Int) (w : Nat) (hw : w = 2 ∨ w = 3) : ∃ rs : List (List Int), F_law_any_stair [.lst (ns.map .int), .int w] = .ok (.lst ((stairA rs).map rowD)) ∧ Wd w rs ∧ rs.length ≤ 40 ∧ Bd rs := by
  have z : ∃ d, F_law_any_stair [.lst (ns.map .int), .int w] = .ok d ∧ ∃ rs : List (List Int), d = .lst ((stairA rs).map rowD) ∧ Wd w rs ∧ rs.length ≤ 40 ∧ Bd rs := by
    refine run_ex ?_
    unfold g_law_any_stair
    obtain ⟨m1, b1, c1⟩ := mix_ok (c := cellA ns 0) (k := 1) (by decide) (by decide)
    obtain ⟨m2, b2, c2⟩ := mix_ok (c := cellA ns 0) (k := 2) (by decide) (by decide)
    obtain ⟨m3, b3, c3⟩ := mix_ok (c := cellA ns 0) (k := 3) (by decide) (by decide)
    obtain ⟨m4, b4, c4⟩ := mix_ok (c := cellA ns 0) (k := 4) (by decide) (by decide)
    obtain ⟨far, e1, h1⟩ := pick4 (a := 0) (b := 0) (c := 900000000000000000000000000000000000000000) (d := 100000000000000000000000000000000000000) (k := mixA (cellA ns 0) 1 % 4) (by omega) (by omega)
    obtain ⟨span, e2, h2⟩ := pick4 (a := 4) (b := 12) (c := 40) (d := 1000) (k := mixA (cellA ns 0) 2 % 4) (by omega) (by omega)
    have hfar : 0 ≤ far ∧ far ≤ 900000000000000000000000000000000000000000 := by omega
    have hspan : 4 ≤ span ∧ span ≤ 1000 := by omega
    clear h1 h2
    simp [F_cell_at (show (0 : Int) ≤ 0 by decide), m1, m2, m3, m4, e1, e2, itR1_ok (j := mixA (cellA ns 0) 3 % 41) (by omega) (by omega), upTo_map]
    refine loop_foldI (J := fun n (_ : Unit) ρ => ∃ (rs : List (List Int)) (x6 x7 x8 x9 : Option D), rs.length = n ∧ Wd w rs ∧ Bd rs ∧ ρ = [some (.lst (ns.map .int)), some (.int w), some (.int (cellA ns 0)), some (.int far), some (.int span), some (.lst (rs.map rowD)), x6, x7, x8, x9]) (fun s _ => s) _ 0 () _ ⟨[], _, _, _, _, rfl, by simp [Wd], by simp [Bd], rfl⟩ ?_ ?_
    · rintro k ⟨⟩ a ρ hk ha ⟨rs, x6, x7, x8, x9, hl, hwd, hbd, rfl⟩
      have ha2 : a < 41 := by have := List.mem_range.mp ha; omega
      simp [itR1_ok (j := (w : Int)) (by omega) (by omega), upTo_map]
      refine loop_foldI (J := fun n (_ : Unit) ρ => ∃ (r : List Int) (x8 x9 : Option D), r.length = n ∧ (∀ x ∈ r, 0 ≤ x ∧ x ≤ 1000000000000000000000000000000000000000000) ∧ ρ = [some (.lst (ns.map .int)), some (.int w), some (.int (cellA ns 0)), some (.int far), some (.int span), some (.lst (rs.map rowD)), some (.int a), some (.lst (r.map .int)), x8, x9]) (fun s _ => s) _ 0 () _ ⟨[], _, _, rfl, by simp, rfl⟩ ?_ ?_
      · rintro s ⟨⟩ b ρ hs hb ⟨r, x8, x9, hr, hrb, rfl⟩
        have hb2 : b < w := List.mem_range.mp hb
        obtain ⟨m, hm1, hm2⟩ := mix_ok (c := cellA ns (1 + (a : Int) % 30)) (k := 3 * (a : Int) % 60 + b) (by omega) (by omega)
        simp [oMul_ok (i := 3) (j := (a : Int)) ⟨by decide, by decide⟩ ⟨by omega, by omega⟩, F_cell_at (ns := ns) (k := 1 + (a : Int) % 30) (by omega), m]
        generalize mixA (cellA ns (1 + (a : Int) % 30)) (3 * (a : Int) % 60 + b) = z at hm1 hm2
        have hr2 : r.length < 16777216 := by simp at hs; omega
        have h9 : 0 ≤ z / 100000 % 2 ∧ z / 100000 % 2 < 2 := by omega
        simp [oDiv_ok (i := z) (j := 100000) (by decide) ⟨by decide, by decide⟩, oMul_ok (i := far) (j := z / 100000 % 2) ⟨by omega, by omega⟩ ⟨by omega, by omega⟩, show (0 : Int) < span by omega, hr2]
        refine ⟨r ++ [z % span + far * (z / 100000 % 2)], by simp; omega, ?_, by simp⟩
        intro x hx
        rcases List.mem_append.mp hx with hx | hx
        · exact hrb x hx
        · rw [List.mem_singleton.mp hx]
          have h10 : z / 100000 % 2 = 0 ∨ z / 100000 % 2 = 1 := by omega
          have h11 : 0 ≤ z % span := Int.emod_nonneg _ (by omega)
          have h12 : z % span < span := Int.emod_lt_of_pos _ (by omega)
          rcases h10 with h10 | h10 <;> rw [h10] <;> omega
      · rintro ρ ⟨r, x8, x9, hr, hrb, rfl⟩
        simp [m4]
        have hrw : r.length = w := by simpa using hr
        have hrs : rs.length < 16777216 := by simp at hk; omega
        have r0 := getI_row (r := r) (k := 0) (by decide) (by omega)
        have r1 := getI_row (r := r) (k := 1) (by decide) (by omega)
        have q1 : 0 ≤ at0 r 1 % 4 ∧ at0 r 1 % 4 < 4 := by omega
        by_cases hq : mixA (cellA ns 0) 4 % 2 = 1 ∧ (w : Int) = 2
        · have h1 : (1 : Int) < r.length := by omega
          simp [hq.1, hq.2, oDiv_ok (i := span) (j := 2) (by decide) ⟨by decide, by decide⟩, r0, r1, h1, oMul_ok (i := at0 r 1 % 4) (j := (a : Int) % 3) ⟨by omega, by omega⟩ ⟨by omega, by omega⟩, hrs]
          have p0 : 0 ≤ at0 r 0 := by
            unfold at0
            rw [List.getD_eq_getElem?_getD, List.getElem?_eq_getElem (by simp; omega)]
            exact (hrb _ (List.getElem_mem _)).1
          have p1 : 0 ≤ at0 r 1 % 4 * ((a : Int) % 3) := Int.mul_nonneg (by omega) (by omega)
          refine ⟨rs ++ [r.set 1 (if at0 r 1 % 4 * ((a : Int) % 3) < span + span / 2 - at0 r 0 then span + span / 2 - at0 r 0 - at0 r 1 % 4 * ((a : Int) % 3) else 0)], by simp; omega, ?_, ?_, by simp [rowD]⟩
          · intro y hy
            rcases List.mem_append.mp hy with hy | hy
            · exact hwd y hy
            · rw [List.mem_singleton.mp hy]; simp [hrw]
          · intro y hy
            rcases List.mem_append.mp hy with hy | hy
            · exact hbd y hy
            · rw [List.mem_singleton.mp hy]
              intro x hx
              rcases List.mem_or_eq_of_mem_set hx with hx | hx
              · exact hrb x hx
              · rw [hx]
                split <;> omega
        · rw [if_neg hq]
          simp [hrs]
          refine ⟨rs ++ [r], by simp; omega, ?_, ?_, by simp [rowD]⟩
          · intro y hy
            rcases List.mem_append.mp hy with hy | hy
            · exact hwd y hy
            · rw [List.mem_singleton.mp hy]; exact hrw
          · intro y hy
            rcases List.mem_append.mp hy with hy | hy
            · exact hbd y hy
            · rw [List.mem_singleton.mp hy]; exact hrb
    · rintro ρ ⟨rs, x6, x7, x8, x9, hl, hwd, hbd, rfl⟩
      have hn : rs.length ≤ 40 := by simp at hl; omega
      simp [stair_ok hwd (by omega) (by omega) (few64 (by omega))]
      exact ⟨rs, rfl, hwd, hn, hbd⟩
  obtain ⟨d, e, n, rfl, h⟩ := z
  exact ⟨n, e, h⟩
end DL

set_option Elab.async false
set_option linter.all false
set_option maxRecDepth 100000
set_option maxHeartbeats 4000000
set_option autoImplicit false
/-! P2b: any stair, as the laws of shares draw it. -/
namespace DL
open PySem
theorem any_stair2_ex (ns : List Int) (w : Nat) (hw : w = 2 ∨ w = 3) : ∃ rs : List (List Int), F_law_any_stair_v2 [.lst (ns.map .int), .int w] = .ok (.lst ((stairA rs).map rowD)) ∧ Wd w rs ∧ rs.length ≤ 40 ∧ Bd rs := by
  have z : ∃ d, F_law_any_stair_v2 [.lst (ns.map .int), .int w] = .ok d ∧ ∃ rs : List (List Int), d = .lst ((stairA rs).map rowD) ∧ Wd w rs ∧ rs.length ≤ 40 ∧ Bd rs := by
    refine run_ex ?_
    unfold g_law_any_stair_v2
    obtain ⟨m1, b1, c1⟩ := mix_ok (c := cellA ns 0) (k := 1) (by decide) (by decide)
    obtain ⟨m2, b2, c2⟩ := mix_ok (c := cellA ns 0) (k := 2) (by decide) (by decide)
    obtain ⟨m3, b3, c3⟩ := mix_ok (c := cellA ns 0) (k := 3) (by decide) (by decide)
    obtain ⟨m4, b4, c4⟩ := mix_ok (c := cellA ns 0) (k := 4) (by decide) (by decide)
    obtain ⟨far, e1, h1⟩ := pick4 (a := 0) (b := 0) (c := 0) (d := 100000000000000000000000000000000000000) (k := mixA (cellA ns 0) 1 % 4) (by omega) (by omega)
    obtain ⟨span, e2, h2⟩ := pick4 (a := 4) (b := 12) (c := 40) (d := 1000) (k := mixA (cellA ns 0) 2 % 4) (by omega) (by omega)
    have hfar : 0 ≤ far ∧ far ≤ 900000000000000000000000000000000000000000 := by omega
    have hspan : 4 ≤ span ∧ span ≤ 1000 := by omega
    clear h1 h2
    simp [F_cell_at (show (0 : Int) ≤ 0 by decide), m1, m2, m3, m4, e1, e2, itR1_ok (j := mixA (cellA ns 0) 3 % 41) (by omega) (by omega), upTo_map]
    refine loop_foldI (J := fun n (_ : Unit) ρ => ∃ (rs : List (List Int)) (x6 x7 x8 x9 : Option D), rs.length = n ∧ Wd w rs ∧ Bd rs ∧ ρ = [some (.lst (ns.map .int)), some (.int w), some (.int (cellA ns 0)), some (.int far), some (.int span), some (.lst (rs.map rowD)), x6, x7, x8, x9]) (fun s _ => s) _ 0 () _ ⟨[], _, _, _, _, rfl, by simp [Wd], by simp [Bd], rfl⟩ ?_ ?_
    · rintro k ⟨⟩ a ρ hk ha ⟨rs, x6, x7, x8, x9, hl, hwd, hbd, rfl⟩
      have ha2 : a < 41 := by have := List.mem_range.mp ha; omega
      simp [itR1_ok (j := (w : Int)) (by omega) (by omega), upTo_map]
      refine loop_foldI (J := fun n (_ : Unit) ρ => ∃ (r : List Int) (x8 x9 : Option D), r.length = n ∧ (∀ x ∈ r, 0 ≤ x ∧ x ≤ 1000000000000000000000000000000000000000000) ∧ ρ = [some (.lst (ns.map .int)), some (.int w), some (.int (cellA ns 0)), some (.int far), some (.int span), some (.lst (rs.map rowD)), some (.int a), some (.lst (r.map .int)), x8, x9]) (fun s _ => s) _ 0 () _ ⟨[], _, _, rfl, by simp, rfl⟩ ?_ ?_
      · rintro s ⟨⟩ b ρ hs hb ⟨r, x8, x9, hr, hrb, rfl⟩
        have hb2 : b < w := List.mem_range.mp hb
        obtain ⟨m, hm1, hm2⟩ := mix_ok (c := cellA ns (1 + (a : Int) % 30)) (k := 3 * (a : Int) % 60 + b) (by omega) (by omega)
        simp [oMul_ok (i := 3) (j := (a : Int)) ⟨by decide, by decide⟩ ⟨by omega, by omega⟩, F_cell_at (ns := ns) (k := 1 + (a : Int) % 30) (by omega), m]
        generalize mixA (cellA ns (1 + (a : Int) % 30)) (3 * (a : Int) % 60 + b) = z at hm1 hm2
        have hr2 : r.length < 16777216 := by simp at hs; omega
        have h9 : 0 ≤ z / 100000 % 2 ∧ z / 100000 % 2 < 2 := by omega
        simp [oDiv_ok (i := z) (j := 100000) (by decide) ⟨by decide, by decide⟩, oMul_ok (i := far) (j := z / 100000 % 2) ⟨by omega, by omega⟩ ⟨by omega, by omega⟩, show (0 : Int) < span by omega, hr2]
        refine ⟨r ++ [z % span + far * (z / 100000 % 2)], by simp; omega, ?_, by simp⟩
        intro x hx
        rcases List.mem_append.mp hx with hx | hx
        · exact hrb x hx
        · rw [List.mem_singleton.mp hx]
          have h10 : z / 100000 % 2 = 0 ∨ z / 100000 % 2 = 1 := by omega
          have h11 : 0 ≤ z % span := Int.emod_nonneg _ (by omega)
          have h12 : z % span < span := Int.emod_lt_of_pos _ (by omega)
          rcases h10 with h10 | h10 <;> rw [h10] <;> omega
      · rintro ρ ⟨r, x8, x9, hr, hrb, rfl⟩
        simp [m4]
        have hrw : r.length = w := by simpa using hr
        have hrs : rs.length < 16777216 := by simp at hk; omega
        have r0 := getI_row (r := r) (k := 0) (by decide) (by omega)
        have r1 := getI_row (r := r) (k := 1) (by decide) (by omega)
        have q1 : 0 ≤ at0 r 1 % 4 ∧ at0 r 1 % 4 < 4 := by omega
        by_cases hq : mixA (cellA ns 0) 4 % 2 = 1 ∧ (w : Int) = 2
        · have h1 : (1 : Int) < r.length := by omega
          simp [hq.1, hq.2, oDiv_ok (i := span) (j := 2) (by decide) ⟨by decide, by decide⟩, r0, r1, h1, oMul_ok (i := at0 r 1 % 4) (j := (a : Int) % 3) ⟨by omega, by omega⟩ ⟨by omega, by omega⟩, hrs]
          have p0 : 0 ≤ at0 r 0 := by
            unfold at0
            rw [List.getD_eq_getElem?_getD, List.getElem?_eq_getElem (by simp; omega)]
            exact (hrb _ (List.getElem_mem _)).1
          have p1 : 0 ≤ at0 r 1 % 4 * ((a : Int) % 3) := Int.mul_nonneg (by omega) (by omega)
          refine ⟨rs ++ [r.set 1 (if at0 r 1 % 4 * ((a : Int) % 3) < span + span / 2 - at0 r 0 then span + span / 2 - at0 r 0 - at0 r 1 % 4 * ((a : Int) % 3) else 0)], by simp; omega, ?_, ?_, by simp [rowD]⟩
          · intro y hy
            rcases List.mem_append.mp hy with hy | hy
            · exact hwd y hy
            · rw [List.mem_singleton.mp hy]; simp [hrw]
          · intro y hy
            rcases List.mem_append.mp hy with hy | hy
            · exact hbd y hy
            · rw [List.mem_singleton.mp hy]
              intro x hx
              rcases List.mem_or_eq_of_mem_set hx with hx | hx
              · exact hrb x hx
              · rw [hx]
                split <;> omega
        · rw [if_neg hq]
          simp [hrs]
          refine ⟨rs ++ [r], by simp; omega, ?_, ?_, by simp [rowD]⟩
          · intro y hy
            rcases List.mem_append.mp hy with hy | hy
            · exact hwd y hy
            · rw [List.mem_singleton.mp hy]; exact hrw
          · intro y hy
            rcases List.mem_append.mp hy with hy | hy
            · exact hbd y hy
            · rw [List.mem_singleton.mp hy]; exact hrb
    · rintro ρ ⟨rs, x6, x7, x8, x9, hl, hwd, hbd, rfl⟩
      have hn : rs.length ≤ 40 := by simp at hl; omega
      simp [stair_ok hwd (by omega) (by omega) (few64 (by omega))]
      exact ⟨rs, rfl, hwd, hn, hbd⟩
  obtain ⟨d, e, n, rfl, h⟩ := z
  exact ⟨n, e, h⟩
end DL

set_option Elab.async false
set_option linter.all false
set_option maxRecDepth 100000
set_option maxHeartbeats 4000000
set_option autoImplicit false
/-! P2i: a stair of two prices as points; what corners keep. -/
namespace DL
open PySem
theorem foldA_pw : ∀ {xs found : List (List Int)}, found.Pairwise (fun a b => a < b ∧ cov a b = false) → xs.Pairwise (· < ·) → (∀ a ∈ found, ∀ b ∈ xs, a < b) → (xs.foldl stepA found).Pairwise (fun a b => a < b ∧ cov a b = false)
  | [], _, h, _, _ => h
  | x :: xs, found, h, hx, hf => by
    have h1 := List.pairwise_cons.mp hx
    rw [List.foldl_cons]
    refine foldA_pw ?_ h1.2 fun a ha b hb => ?_
    · unfold stepA
      split
      · rename_i he
        rw [filter_isEmpty] at he
        simp at he
        refine List.pairwise_append.mpr ⟨h, by simp, fun a ha b hb => ?_⟩
        rw [List.mem_singleton.mp hb]
        exact ⟨hf a ha x (by simp), he a ha⟩
      · exact h
    · rcases stepA_mem ha with ha | ha
      · exact hf a ha b (List.mem_cons_of_mem _ hb)
      · rw [ha]
        exact h1.1 b hb
theorem stairA_pw (rs : List (List Int)) : (stairA rs).Pairwise fun a b => a < b ∧ cov a b = false :=
  foldA_pw .nil sortU_asc (by simp)
theorem wd2_pts : ∀ {rs : List (List Int)}, Wd 2 rs → ∃ L : List Pt, rs = L.map rw2
  | [], _ => ⟨[], rfl⟩
  | r :: rs, h => by
    obtain ⟨L, hL⟩ := wd2_pts (rs := rs) fun r hr => h r (List.mem_cons_of_mem _ hr)
    have hr := h r (by simp)
    match r, hr with
    | [x, y], _ => exact ⟨(x, y) :: L, by rw [hL]; rfl⟩
theorem cov2 {p q : Pt} : cov (rw2 p) (rw2 q) = true ↔ p.1 ≤ q.1 ∧ p.2 ≤ q.2 := by
  unfold cov
  simp [List.range_succ]
theorem stairA_pts {rs : List (List Int)} (h : Wd 2 rs) (hb : Bd rs) : ∃ L : List Pt, stairA rs = L.map rw2 ∧ St L ∧ (∀ p ∈ L, Bp p) ∧ L.length ≤ rs.length := by
  obtain ⟨L, hL⟩ := wd2_pts (stairA_wd h)
  have hp := stairA_pw rs
  have hbd := stairA_bd hb
  have hlen := stairA_len rs
  rw [hL] at hp hbd hlen
  have hbp : ∀ p ∈ L, (0 ≤ p.1 ∧ p.1 ≤ 1000000000000000000000000000000000000000000) ∧ (0 ≤ p.2 ∧ p.2 ≤ 1000000000000000000000000000000000000000000) := fun p hp => by
    have := hbd (rw2 p) (List.mem_map_of_mem hp)
    exact ⟨this p.1 (by simp), this p.2 (by simp)⟩
  refine ⟨L, hL, ⟨?_, fun p hp => ⟨(hbp p hp).1.1, (hbp p hp).2.1⟩⟩, fun p hp => ?_, by simpa using hlen⟩
  · rw [List.pairwise_map] at hp
    refine hp.imp fun {a b} z => ?_
    have z1 := z.1
    have z2 := z.2
    rw [← Bool.not_eq_true, cov2] at z2
    rw [List.cons_lt_cons_iff, List.cons_lt_cons_iff] at z1
    simp at z1
    omega
  · have := hbp p hp
    unfold Bp
    omega
theorem pts_rows (L : List Pt) : (L.map rw2).map rowD = L.map pD := by
  rw [List.map_map]
  rfl
theorem pD_inj {a b : Pt} (h : pD a = pD b) : a = b := by
  simp at h
  exact Prod.ext h.1 h.2
theorem deq_pD {a b : Pt} : deq (pD a) (pD b) = decide (a = b) := by
  rw [← pD_row, ← pD_row, deq_row]
  congr 1
  simp [rw2, Prod.ext_iff]
theorem deq_pts {a b : List Pt} : deq (.lst (a.map pD)) (.lst (b.map pD)) = decide (a = b) := by
  rw [Bool.eq_iff_iff, deq_iff cl_pts cl_pts]
  simp only [D.lst.injEq, decide_eq_true_eq]
  exact ⟨fun h => (List.map_inj_right fun a b h => pD_inj h).mp h, fun h => by rw [h]⟩
theorem cl_pD {p : Pt} : Cl 1 (pD p) := cl_row (r := rw2 p)
theorem oEq_pD {a b : Pt} : oEq (pD a) (pD b) = .ok (.bl (decide (a = b))) := by rw [oEq_cl cl_pD cl_pD, deq_pD]
theorem oNe_pD {a b : Pt} : oNe (pD a) (pD b) = .ok (.bl (!decide (a = b))) := by rw [oNe_cl cl_pD cl_pD, deq_pD]
theorem oMin_is {ns : List Int} (h : ns ≠ []) : oMin [.lst (ns.map .int)] = .ok (.int (minL ns)) := by
  show (match intL (ns.map D.int) with | some [] => R.bad | some ns => R.ok (D.int (minL ns)) | none => .bad) = _
  rw [ints_map]
  cases ns with
  | nil => exact absurd rfl h
  | cons a l => rfl
theorem oMax_is {ns : List Int} (h : ns ≠ []) : oMax [.lst (ns.map .int)] = .ok (.int (maxL ns)) := by
  show (match intL (ns.map D.int) with | some [] => R.bad | some ns => R.ok (D.int (maxL ns)) | none => .bad) = _
  rw [ints_map]
  cases ns with
  | nil => exact absurd rfl h
  | cons a l => rfl
theorem minL_is {ns : List Int} {x : Int} (h : x ∈ ns) (h2 : ∀ y ∈ ns, x ≤ y) : minL ns = x := by
  have := minL_mem (ns := ns) (fun z => by rw [z] at h; cases h)
  have := this.2 x h
  have := h2 _ (minL_mem (ns := ns) (fun z => by rw [z] at h; cases h)).1
  omega
theorem getI_last {ds : List D} {d : D} : getI (ds ++ [d]) (-1) = .ok d := by
  have e : L2.atI (ds ++ [d]) (-1) = some d := by
    unfold L2.atI L2.ixN
    rw [if_neg (by omega), if_pos (by simp; omega)]
    have h3 : (-1 + ((ds ++ [d]).length : Int)).toNat = ds.length := by simp; omega
    rw [h3]
    simp
  unfold getI
  rw [e]
theorem get3 {a b c : D} : getI [a, b, c] 0 = .ok a ∧ getI [a, b, c] 1 = .ok b ∧ getI [a, b, c] 2 = .ok c := ⟨getI_ok (by decide) rfl, getI_ok (by decide) rfl, getI_ok (by decide) rfl⟩
@[simp] theorem get3_0 {a b c : D} : getI [a, b, c] 0 = .ok a := get3.1
@[simp] theorem get3_1 {a b c : D} : getI [a, b, c] 1 = .ok b := get3.2.1
@[simp] theorem get3_2 {a b c : D} : getI [a, b, c] 2 = .ok c := get3.2.2
/-! the ends -/
/-- worth by n of d -/
def wo (w p : Pt) : Int := p.1 * w.1 + p.2 * (w.2 - w.1)
structure Fr (f : Pt) : Prop where
  n : 0 ≤ f.1
  d : 0 < f.2
  nd : f.1 ≤ f.2
  g : Int.gcd f.1 f.2 = 1
  b : f.2 ≤ 10000000000000000000000000000000000000000000000
theorem div_cross {n d g a b : Int} (hg : 0 < g) (h : 0 ≤ (n * g) * a + (d * g) * b) : 0 ≤ n * a + d * b := by
  refine pos_of_mul hg ?_
  grind
section
variable {L : List Pt}
/-- pieces by numbers -/
theorem hull_at (h : St L) {k : Nat} (hk : k + 1 < (hull L).length) : (gp (hull L) k).1 < (gp (hull L) (k + 1)).1 ∧ (gp (hull L) (k + 1)).2 < (gp (hull L) k).2 ∧ gp (hull L) k ∈ L ∧ gp (hull L) (k + 1) ∈ L ∧ ∀ p ∈ L, 0 ≤ cr (gp (hull L) k) (gp (hull L) (k + 1)) p := by
  have hup : Up L := h.up.imp fun z => z.1
  have e : hull L = (hull L).take k ++ gp (hull L) k :: gp (hull L) (k + 1) :: (hull L).drop (k + 2) := by
    have e1 : (hull L).drop k = gp (hull L) k :: (hull L).drop (k + 1) := by
      rw [List.drop_eq_getElem_cons (show k < (hull L).length by omega)]
      simp [gp, List.getElem?_eq_getElem (show k < (hull L).length by omega)]
    have e2 : (hull L).drop (k + 1) = gp (hull L) (k + 1) :: (hull L).drop (k + 2) := by
      rw [List.drop_eq_getElem_cons hk]
      simp [gp, List.getElem?_eq_getElem hk]
    rw [← e2, ← e1, List.take_append_drop]
  have hp := hull_piece hup (nxt_iff.mpr ⟨_, _, e⟩)
  have hf : (hull L).Pairwise fun a b => a.1 < b.1 ∧ b.2 < a.2 := by
    rw [hull_eq hup]
    exact h.up.filter _
  have := List.pairwise_iff_getElem.mp hf k (k + 1) (by omega) hk (by omega)
  refine ⟨hp.1, ?_, hp.2.1, hp.2.2.1, hp.2.2.2⟩
  simpa [gp, List.getElem?_eq_getElem hk, List.getElem?_eq_getElem (show k < (hull L).length by omega)] using this.2
theorem hull_bent (h : St L) {k : Nat} (hk : k + 2 < (hull L).length) : 0 < cr (gp (hull L) k) (gp (hull L) (k + 1)) (gp (hull L) (k + 2)) := by
  have hup : Up L := h.up.imp fun z => z.1
  have g : ∀ j, j < (hull L).length → (hull L).drop j = gp (hull L) j :: (hull L).drop (j + 1) := fun j hj => by
    rw [List.drop_eq_getElem_cons hj]
    simp [gp, List.getElem?_eq_getElem hj]
  refine hull_bend hup (X := (hull L).take k) (Y := (hull L).drop (k + 3)) ?_
  rw [← g (k + 2) hk, ← g (k + 1) (by omega), ← g k (by omega), List.take_append_drop]
theorem lowE_ok {a b : Pt} (h1 : a.1 < b.1) (h2 : b.2 < a.2) : ∃ g : Int, 0 < g ∧ a.2 - b.2 = (lowE a b).1 * g ∧ (a.2 - b.2 + b.1 - a.1) = (lowE a b).2 * g ∧ 0 < (lowE a b).1 ∧ (lowE a b).1 < (lowE a b).2 ∧ Int.gcd (lowE a b).1 (lowE a b).2 = 1 := by
  obtain ⟨g, g0, e1, e2, n0, d0, hg⟩ := lowA_ok (n := a.2 - b.2) (d := a.2 - b.2 + b.1 - a.1) (by omega) (by omega)
  unfold lowE
  refine ⟨g, g0, e1, e2, ?_, ?_, hg⟩
  · refine spos_of_mul g0 ?_
    rw [Int.mul_comm, ← e1]
    omega
  · have : 0 < (lowA (a.2 - b.2) (a.2 - b.2 + b.1 - a.1)).2 - (lowA (a.2 - b.2) (a.2 - b.2 + b.1 - a.1)).1 := by
      refine spos_of_mul g0 ?_
      rw [Int.mul_comm, Int.sub_mul, ← e1, ← e2]
      omega
    omega
theorem en_fr (h : St L) (hb : ∀ p ∈ L, Bp p) (k : Nat) : Fr (en (hull L) k) := by
  unfold en
  split
  · exact ⟨by decide, by decide, by decide, by decide, by decide⟩
  · rename_i h0
    split
    · rename_i h1
      obtain ⟨j, rfl⟩ : ∃ j, k = j + 1 := ⟨k - 1, by omega⟩
      obtain ⟨a1, a2, a3, a4, _⟩ := hull_at h h1
      rw [show j + 1 - 1 = j by omega]
      have b1 := hb _ a3
      have b2 := hb _ a4
      generalize gp (hull L) j = a at *
      generalize gp (hull L) (j + 1) = b at *
      obtain ⟨g, g0, e1, e2, n0, d0, hg⟩ := lowE_ok a1 a2
      unfold Bp at b1 b2
      refine ⟨by omega, by omega, by omega, hg, ?_⟩
      have : (lowE a b).2 ≤ (lowE a b).2 * g := by
        have := Int.mul_le_mul_of_nonneg_left (show 1 ≤ g by omega) (show 0 ≤ (lowE a b).2 by omega)
        omega
      omega
    · exact ⟨by decide, by decide, by decide, by decide, by decide⟩
/-- an end is worth it -/
theorem lowE_best {a b p : Pt} (h1 : a.1 < b.1) (h2 : b.2 < a.2) (h3 : 0 ≤ cr a b p) : wo (lowE a b) a ≤ wo (lowE a b) p ∧ wo (lowE a b) b ≤ wo (lowE a b) p := by
  obtain ⟨g, g0, e1, e2, _⟩ := lowE_ok h1 h2
  unfold cr at h3
  unfold wo
  generalize lowE a b = f at *
  have k1 : 0 ≤ p.1 * f.1 + p.2 * (f.2 - f.1) - (a.1 * f.1 + a.2 * (f.2 - f.1)) := by
    refine pos_of_mul g0 ?_
    have e : g * (p.1 * f.1 + p.2 * (f.2 - f.1) - (a.1 * f.1 + a.2 * (f.2 - f.1))) = (b.1 - a.1) * (p.2 - a.2) - (b.2 - a.2) * (p.1 - a.1) := by grind
    rw [e]
    exact h3
  have k2 : 0 ≤ p.1 * f.1 + p.2 * (f.2 - f.1) - (b.1 * f.1 + b.2 * (f.2 - f.1)) := by
    refine pos_of_mul g0 ?_
    have e : g * (p.1 * f.1 + p.2 * (f.2 - f.1) - (b.1 * f.1 + b.2 * (f.2 - f.1))) = (b.1 - a.1) * (p.2 - a.2) - (b.2 - a.2) * (p.1 - a.1) := by grind
    rw [e]
    exact h3
  omega
theorem gp_head : ∀ {K : List Pt}, K ≠ [] → K.head? = some (gp K 0)
  | [], h => absurd rfl h
  | a :: K, _ => rfl
theorem gp_lastq {K : List Pt} (h : K ≠ []) : K.getLast? = some (gp K (K.length - 1)) := by
  have := List.length_pos_iff.mpr h
  rw [List.getLast?_eq_getElem?, List.getElem?_eq_getElem (by omega)]
  simp [gp, List.getElem?_eq_getElem (show K.length - 1 < K.length by omega)]
theorem hull_first (h : St L) (hn : L ≠ []) : ∀ p ∈ L, (gp (hull L) 0).1 ≤ p.1 := by
  have hup : Up L := h.up.imp fun z => z.1
  have e := hull_head hup
  rw [gp_head (hull_ne hup hn), gp_head hn] at e
  cases L with
  | nil => exact absurd rfl hn
  | cons a L =>
    rw [Option.some_inj.mp e]
    intro p hp
    show a.1 ≤ p.1
    rcases List.mem_cons.mp hp with rfl | hp
    · exact Int.le_refl _
    · exact Int.le_of_lt ((List.pairwise_cons.mp hup).1 p hp)
theorem hull_final (h : St L) (hn : L ≠ []) : ∀ p ∈ L, (gp (hull L) ((hull L).length - 1)).2 ≤ p.2 := by
  have hup : Up L := h.up.imp fun z => z.1
  have e := hull_last hup
  rw [gp_lastq (hull_ne hup hn)] at e
  obtain ⟨ys, hy⟩ := List.getLast?_eq_some_iff.mp e.symm
  intro p hp
  rw [hy] at hp
  have s := List.pairwise_append.mp (hy ▸ h.up)
  rcases List.mem_append.mp hp with hp | hp
  · exact Int.le_of_lt (s.2.2 p hp _ (by simp)).2
  · rw [← List.mem_singleton.mp hp]
    exact Int.le_refl _
theorem en_best (h : St L) (hn : L ≠ []) {k : Nat} (hk : k < (hull L).length) {p : Pt} (hp : p ∈ L) : wo (en (hull L) k) (gp (hull L) k) ≤ wo (en (hull L) k) p ∧ wo (en (hull L) (k + 1)) (gp (hull L) k) ≤ wo (en (hull L) (k + 1)) p := by
  constructor
  · cases k with
    | zero =>
      have := hull_first h hn p hp
      simp [en, wo]
      exact this
    | succ j =>
      obtain ⟨a1, a2, a3, a4, a5⟩ := hull_at h hk
      have := (lowE_best a1 a2 (a5 p hp)).2
      simpa [en, hk] using this
  · by_cases h1 : k + 1 < (hull L).length
    · obtain ⟨a1, a2, a3, a4, a5⟩ := hull_at h h1
      have := (lowE_best a1 a2 (a5 p hp)).1
      simpa [en, h1] using this
    · have := hull_final h hn p hp
      rw [show (hull L).length - 1 = k by omega] at this
      simp [en, h1, wo]
      exact this
theorem en_lt (h : St L) {k : Nat} (hk : k < (hull L).length) : (en (hull L) (k + 1)).1 * (en (hull L) k).2 < (en (hull L) k).1 * (en (hull L) (k + 1)).2 := by
  have one : ∀ {a b : Pt}, a.1 < b.1 → b.2 < a.2 → 0 < (lowE a b).1 ∧ (lowE a b).1 < (lowE a b).2 := fun h1 h2 => by
    obtain ⟨g, _, _, _, r1, r2, _⟩ := lowE_ok h1 h2
    exact ⟨r1, r2⟩
  cases k with
  | zero =>
    by_cases h1 : 1 < (hull L).length
    · obtain ⟨a1, a2, _⟩ := hull_at h h1
      have := one a1 a2
      simp [en, h1]
      exact this.2
    · simp [en, h1]
  | succ j =>
    obtain ⟨a1, a2, _⟩ := hull_at h hk
    have o1 := one a1 a2
    by_cases h1 : j + 2 < (hull L).length
    · obtain ⟨b1, b2, _⟩ := hull_at h h1
      have o2 := one b1 b2
      have hb := hull_bent h h1
      obtain ⟨g, g0, e1, e2, _⟩ := lowE_ok a1 a2
      obtain ⟨g', g0', e1', e2', _⟩ := lowE_ok b1 b2
      simp [en, hk, h1, show j + 1 + 1 = j + 2 by omega]
      generalize lowE (gp (hull L) j) (gp (hull L) (j + 1)) = f at *
      rw [show j + 1 + 1 = j + 2 by omega] at *
      generalize lowE (gp (hull L) (j + 1)) (gp (hull L) (j + 2)) = f' at *
      unfold cr at hb
      have : 0 < f.1 * f'.2 - f'.1 * f.2 := by
        refine spos_of_mul (Int.mul_pos g0 g0') ?_
        have e : g * g' * (f.1 * f'.2 - f'.1 * f.2) = ((gp (hull L) (j + 1)).1 - (gp (hull L) j).1) * ((gp (hull L) (j + 2)).2 - (gp (hull L) j).2) - ((gp (hull L) (j + 1)).2 - (gp (hull L) j).2) * ((gp (hull L) (j + 2)).1 - (gp (hull L) j).1) := by
          have e3 : g * g' * (f.1 * f'.2 - f'.1 * f.2) = (f.1 * g) * (f'.2 * g') - (f'.1 * g') * (f.2 * g) := by grind
          rw [e3, ← e1, ← e2, ← e1', ← e2']
          grind
        rw [e]
        exact hb
      omega
    · simp [en, hk, h1]
      exact o1.1
end
end DL

set_option Elab.async false
set_option linter.all false
set_option maxRecDepth 100000
set_option maxHeartbeats 4000000
set_option autoImplicit false
/-! P2v2: stairs and ways read back. -/
namespace DL
open PySem L2 TL
/-! ### the laws' texts -/
theorem mi_len : mi.length = 1 := by rw [len_tl, tl_minus]; rfl
theorem mulS_1 : oMulS (.str mi) (.int 1) = .ok (.str mi) := by
  have e : repS mi 1 = mi := by
    unfold repS
    rw [if_neg (by decide), if_pos (by simp)]
  unfold oMulS
  dsimp only
  rw [e, if_pos ⟨by decide, by decide, by rw [mi_len]; decide, by rw [mi_len]; decide⟩]
theorem mulS_0 : oMulS (.str mi) (.int 0) = .ok (.str Str.empty) := by
  have e : repS mi 0 = Str.empty := by
    unfold repS
    rw [if_pos (by decide)]
  unfold oMulS
  dsimp only
  rw [e, if_pos ⟨by decide, by decide, by simp, by decide⟩]
theorem app_empty (x : Str) : x ++ Str.empty = x := ext_tl (by rw [tl_append]; show tl x ++ [] = tl x; simp)
theorem empty_app (x : Str) : Str.empty ++ x = x := ext_tl (by rw [tl_append]; rfl)
theorem empty_len : Str.empty.length = 0 := rfl
theorem join_nil (s : Str) : Txt.join s [] = Str.empty := ext_tl (by rw [tl_join2]; rfl)
theorem law_stair_text_ok {rs : List (List Int)} {w : Nat} (h : RowsOk rs w) : F_law_stair_text [.lst (rs.map rowD)] = .ok (.str (stairT rs)) := by
  refine run_ok ?_
  unfold g_law_stair_text
  simp [rows_nil]
  rw [lcF_of (enc := rowD) (enc' := fun r => D.str (rowT r)) (fun _ => true) (fun r => r)]
  · rw [filter_yes]
    have hj := h.joins
    have hl := h.len
    unfold stairT at hl ⊢
    simp at hj ⊢
    simp [hj]
    by_cases hn : rs = []
    · subst hn
      simp [mulS_1, join_nil]
      rw [oAdd_s (by rw [empty_len, mi_len]; decide)]
      simp [empty_app]
    · simp [hn, mulS_0] at hl ⊢
      rw [oAdd_s (by rw [empty_len]; omega)]
      simp [app_empty]
  · intro r hr
    have h1 := h.l r hr
    have := h.hw
    refine ⟨_, rfl, rfl, fun _ => ?_⟩
    simp [(row_shown_ok (h.f r hr) (by omega)).2]
/-! ### ways -/
structure WayOk (ws : List Int) : Prop where
  b : ∀ x ∈ ws, 0 ≤ x ∧ x < 10 ^ 40
  n : ws.length ≤ 100000
theorem intS_nonneg {x : Int} (h : 0 ≤ x) : intS x = numS x.toNat := by
  unfold numS intS
  rw [Int.toNat_of_nonneg h]
theorem WayOk.joins {ws : List Int} (h : WayOk ws) : oJoin sp (.lst (ws.map fun x => D.str (intS x))) = .ok (.str (Txt.join sp (ws.map intS))) := by
  have hm : ∀ y ∈ ws.map intS, y.length ≤ 41 := fun y hy => by
    obtain ⟨x, hx, rfl⟩ := List.mem_map.mp hy
    rw [len_tl]
    exact int_len ⟨by have := h.b x hx; omega, (h.b x hx).2⟩
  have lsp : sp.length = 1 := by rw [len_tl, tl_sp]; rfl
  have e := oJoin_ok (a := sp) hm (by have := h.n; simp; rw [lsp]; omega)
  rw [List.map_map] at e
  exact e
theorem WayOk.len {ws : List Int} (h : WayOk ws) : (wayT ws).length ≤ 4200001 := by
  unfold wayT
  split
  · rw [mi_len]; decide
  · rw [len_tl, tl_join2, tl_sp]
    have := joinL_len (S := [32]) (m := 41) (ps := (ws.map intS).map tl) fun p hp => by
      rw [List.map_map] at hp
      obtain ⟨x, hx, rfl⟩ := List.mem_map.mp hp
      exact int_len ⟨by have := h.b x hx; omega, (h.b x hx).2⟩
    rw [List.length_map, List.length_map] at this
    have e : ([32] : List Nat).length = 1 := rfl
    rw [e] at this
    have := h.n
    omega
theorem ints_nil {ws : List Int} : oEq (.lst (ws.map .int)) (.lst []) = .ok (.bl (decide (ws = []))) := by
  rw [oEq_nil (n := 1) (cl_lst (n := 0) cl_ints)]
  cases ws <;> rfl
theorem strs_way {ws : List Int} (h : WayOk ws) {vs : List Nat} {ρ : Env} {i : Nat} (hi : ∀ d, dV i ((wipeR ρ vs).set i (some d)) = .ok d) : lcF vs (tN i) bYes (dCall oStr (dCons (dV i) dNil)) ρ (ws.map .int) = .ok (ws.map fun x => D.str (intS x)) := by
  rw [lcF_of (enc := D.int) (enc' := fun x : Int => D.str (intS x)) (fun _ => true) (fun x => x)]
  · rw [filter_yes]
    simp
  · intro x hx
    have := h.b x hx
    refine ⟨_, rfl, rfl, fun _ => ?_⟩
    simp [hi, oStr_int (x := x) (by omega) (by omega)]
theorem law_way_text_ok {ws : List Int} (h : WayOk ws) : F_law_way_text [.lst (ws.map .int)] = .ok (.str (wayT ws)) := by
  refine run_ok ?_
  unfold g_law_way_text
  simp [ints_nil]
  rw [strs_way h (fun _ => rfl)]
  have hj := h.joins
  have hl := h.len
  unfold wayT at hl ⊢
  simp at hj ⊢
  simp [hj]
  by_cases hn : ws = []
  · subst hn
    simp [mulS_1, join_nil]
    rw [oAdd_s (by rw [empty_len, mi_len]; decide)]
    simp [empty_app]
  · simp [hn, mulS_0] at hl ⊢
    rw [oAdd_s (by rw [empty_len]; omega)]
    simp [app_empty]
theorem show_way_ok {ws : List Int} (h : WayOk ws) : F_show_way [.lst (ws.map .int)] = .ok (.str (wayT ws)) := by
  refine run_ok ?_
  unfold g_show_way wayT
  simp [ints_nil]
  by_cases hn : ws = []
  · simp [hn]
  · simp [hn]
    rw [strs_way h (fun _ => rfl)]
    have hj := h.joins
    simp at hj ⊢
    simp [hj]
theorem joinL_sub {S : List Nat} {c : Nat} {p : List Nat} : ∀ {ps : List (List Nat)}, p ∈ ps → c ∈ p → c ∈ joinL S ps
  | [], h, _ => by cases h
  | [q], h, hc => by
    rw [List.mem_singleton.mp h] at hc
    exact hc
  | q :: q2 :: r, h, hc => by
    show c ∈ q ++ (S ++ joinL S (q2 :: r))
    rcases List.mem_cons.mp h with rfl | h
    · exact List.mem_append_left _ hc
    · exact List.mem_append_right _ (List.mem_append_right _ (joinL_sub h hc))
theorem WayOk.asc {ws : List Int} (h : WayOk ws) : Asc (wayT ws) := by
  unfold wayT
  split
  · exact asc_of (s := "-")
  · intro c hc
    rw [tl_join2, tl_sp] at hc
    rcases joinL_mem hc with hc | ⟨p, hp, hc⟩
    · rw [List.mem_singleton.mp hc]
      decide
    · rw [List.map_map] at hp
      obtain ⟨x, hx, rfl⟩ := List.mem_map.mp hp
      have := int_signs (x := x) c hc
      omega
theorem WayOk.ne {ws : List Int} (h : WayOk ws) (hn : ws ≠ []) : wayT ws ≠ mi := by
  intro z
  unfold wayT at z
  rw [if_neg hn] at z
  have z2 := congrArg tl z
  rw [tl_join2, tl_sp, tl_minus] at z2
  cases ws with
  | nil => exact hn rfl
  | cons a ws =>
    have ha := (h.b a List.mem_cons_self).1
    have hc := numL_ne a.toNat
    cases e : numL a.toNat with
    | nil => exact hc e
    | cons c l =>
      have hd := numL_digits a.toNat c (by rw [e]; exact List.mem_cons_self)
      have : c ∈ joinL [32] (((a :: ws).map intS).map tl) := joinL_sub (p := tl (intS a)) (by simp) (by rw [intS_nonneg ha, tl_numS, e]; exact List.mem_cons_self)
      rw [z2] at this
      have := List.mem_singleton.mp this
      omega
theorem WayOk.split {ws : List Int} (h : WayOk ws) (hn : ws ≠ []) : Txt.split (wayT ws) sp = ws.map intS := by
  unfold wayT
  rw [if_neg hn]
  refine split_join tl_sp sp_small (by simpa using hn) fun p hp => ?_
  obtain ⟨x, _, rfl⟩ := List.mem_map.mp hp
  intro z
  have := int_signs 32 z
  omega
theorem read_way_ok {ws : List Int} (h : WayOk ws) : F_read_way [.str (wayT ws)] = .ok (.lst (ws.map .int)) := by
  refine run_ok ?_
  unfold g_read_way
  have he := oEq_a h.asc (asc_of (s := "-"))
  by_cases hn : ws = []
  · subst hn
    have : wayT [] = mi := rfl
    rw [this] at he ⊢
    simp [he]
  · simp [he, h.ne hn]
    rw [oSplit_ok (by rw [tl_sp]; simp) (by have := h.len; omega), show Str.ofString " " = sp from rfl, h.split hn, List.map_map]
    simp
    rw [lcF_of (enc := D.str ∘ intS) (enc' := D.int) (fun _ => true) (fun x => x)]
    · rw [filter_yes]
      simp
    · intro x hx
      have hb := h.b x hx
      have := count_in_num (n := x.toNat) (by omega)
      rw [← intS_nonneg hb.1, Int.toNat_of_nonneg hb.1] at this
      refine ⟨_, rfl, rfl, fun _ => ?_⟩
      simp [this]
/-! ### stairs -/
theorem foldA_self : ∀ {xs found : List (List Int)}, (found ++ xs).Pairwise (fun a b => a < b ∧ cov a b = false) → xs.foldl stepA found = found ++ xs
  | [], found, _ => by simp
  | x :: xs, found, h => by
    have h1 := (List.pairwise_append.mp h).2.2
    have e : stepA found x = found ++ [x] := by
      unfold stepA
      rw [if_pos]
      rw [filter_isEmpty]
      simp
      exact fun a ha => (h1 a ha x List.mem_cons_self).2
    rw [List.foldl_cons, e, foldA_self (by simpa using h)]
    simp
theorem stairA_self {rs : List (List Int)} (h : rs.Pairwise fun a b => a < b ∧ cov a b = false) : stairA rs = rs := by
  unfold stairA
  have : sortU rs = rs := asc_ext sortU_asc (h.imp fun z => z.1) fun y => sortU_mem
  rw [this, foldA_self (by simpa using h)]
  simp
theorem stairA_twice (rs : List (List Int)) : stairA (stairA rs) = stairA rs := stairA_self (stairA_pw rs)
theorem is_stair_is {rs : List (List Int)} {w : Nat} (h : Wd w rs) (hw : 0 < w) (hw2 : w ≤ 1000) (hn : rs.length < 16777216) : F_is_stair [.lst (rs.map rowD)] = .ok (.bl (decide (rs = stairA rs))) := by
  refine run_ok ?_
  unfold g_is_stair
  simp [stair_of_ok h hw hw2 hn]
  rw [oEq_cl cl_rowsV cl_rowsV, deq_rws]
  simp
theorem loopQ_wp {i : Nat} {hh : D → Env → R Env} {g : Env → Out} {N : Env → Prop} {T : D → Env → Prop} {X : Ex → Env → Prop} (ds : List D) (J : Nat → Env → Prop) (hJ : ∀ k ρ, J k ρ → dV i ρ = .ok (.lst ds)) : ∀ (n k : Nat) (ρ : Env), k + n = ds.length → J k ρ →
    (∀ k d ρ, ds[k]? = some d → J k ρ → Sat (hh d ρ) (fun ρ1 => (g ρ1).wp (J (k + 1)) T X) (fun _ => False)) → (∀ ρ, J ds.length ρ → N ρ) → (loopQ i hh g n k ρ).wp N T X
  | 0, k, ρ, hk, h0, _, hN => by
    unfold loopQ
    rw [hJ k ρ h0]
    have : ds.length = k := by omega
    dsimp only
    rw [if_pos this]
    exact hN ρ (this ▸ h0)
  | n + 1, k, ρ, hk, h0, hs, hN => by
    have hlt : k < ds.length := by omega
    have h1 := hs k ds[k] ρ (List.getElem?_eq_getElem hlt) h0
    unfold loopQ
    rw [hJ k ρ h0]
    dsimp only
    rw [if_pos (by omega), List.getElem?_eq_getElem hlt]
    dsimp only
    cases e : hh ds[k] ρ with
    | exc c => rw [e] at h1; exact h1.elim
    | bad => rw [e] at h1; exact h1.elim
    | ok ρ1 =>
      rw [e] at h1
      dsimp only
      rw [wp_seq]
      have h1 : (g ρ1).wp (J (k + 1)) T X := h1
      cases e2 : g ρ1 with
      | nx ρ2 =>
        rw [e2] at h1
        exact loopQ_wp ds J hJ n (k + 1) ρ2 (by omega) h1 hs hN
      | rt d => rw [e2] at h1; exact h1
      | xc e ρ => rw [e2] at h1; exact h1
      | bad => rw [e2] at h1; exact h1
theorem forP_wp {i : Nat} {hh : D → Env → R Env} {g : Env → Out} {ρ : Env} {N : Env → Prop} {T : D → Env → Prop} {X : Ex → Env → Prop} (ds : List D) (J : Nat → Env → Prop) (hJ : ∀ k ρ, J k ρ → dV i ρ = .ok (.lst ds)) (h0 : J 0 ρ)
    (hs : ∀ k d ρ, ds[k]? = some d → J k ρ → Sat (hh d ρ) (fun ρ1 => (g ρ1).wp (J (k + 1)) T X) (fun _ => False)) (hN : ∀ ρ, J ds.length ρ → N ρ) : (oForP i hh g ρ).wp N T X := by
  unfold oForP
  rw [hJ 0 ρ h0]
  exact loopQ_wp ds J hJ ds.length 0 ρ (by omega) h0 hs hN
theorem RowsOk.ne {rs : List (List Int)} {w : Nat} (h : RowsOk rs w) (hn : rs ≠ []) : stairT rs ≠ mi := by
  intro z
  unfold stairT at z
  rw [if_neg hn] at z
  have z2 := congrArg tl z
  rw [tl_join2, tl_sp, tl_minus] at z2
  cases rs with
  | nil => exact hn rfl
  | cons r rs =>
    have hl := h.l r List.mem_cons_self
    have hw := h.hw
    match r, hl with
    | a :: b :: r, _ =>
      have h47 : (47 : Nat) ∈ tl (rowT (a :: b :: r)) := by
        unfold rowT
        rw [tl_join2, tl_sl]
        show 47 ∈ tl (intS a) ++ ([47] ++ _)
        simp
      have : 47 ∈ joinL [32] ((((a :: b :: r) :: rs).map rowT).map tl) := joinL_sub (p := tl (rowT (a :: b :: r))) (by simp) h47
      rw [z2] at this
      have := List.mem_singleton.mp this
      omega
    | [_], e => simp at e; omega
    | [], e => simp at e; omega
theorem RowsOk.wd {rs : List (List Int)} {w : Nat} (h : RowsOk rs w) : Wd w rs := h.l
theorem read_stair_ok {rs : List (List Int)} {w : Nat} (h : RowsOk rs w) (hs : stairA rs = rs) : F_read_stair [.str (stairT rs)] = .ok (.lst (rs.map rowD)) := by
  refine run_ok ?_
  unfold g_read_stair
  have he := oEq_a h.asc (asc_of (s := "-"))
  have hw := h.hw
  by_cases hn : rs = []
  · subst hn
    have : stairT [] = mi := rfl
    rw [this] at he ⊢
    simp [he]
  · simp [he, h.ne hn]
    rw [oSplit_ok (by rw [tl_sp]; simp) (by have := h.len; omega), show Str.ofString " " = sp from rfl, h.split hn, List.map_map]
    simp
    rw [lcF_of (enc := D.str ∘ rowT) (enc' := rowD) (fun _ => true) (fun r => r)]
    · rw [filter_yes]
      simp
      refine forP_wp (rs.map rowD) (fun k ρ => ∃ x2, ρ = [some (.str (stairT rs)), some (.lst (rs.map rowD)), x2, none]) (fun k ρ ⟨x2, e⟩ => by rw [e]; rfl) ⟨none, rfl⟩ ?_ ?_
      · rintro k d ρ hk ⟨x2, rfl⟩
        rw [List.getElem?_map] at hk
        obtain ⟨r, hr, rfl⟩ := Option.map_eq_some_iff.mp hk
        have hr2 := h.l r (List.mem_of_getElem? hr)
        obtain ⟨r0, l0, e0⟩ : ∃ r0 l0, rs = r0 :: l0 := by
          cases rs with
          | nil => exact absurd rfl hn
          | cons a l => exact ⟨a, l, rfl⟩
        have hr3 := h.l r0 (by rw [e0]; simp)
        have l1 : oLen [rowD r] = .ok (.int w) := by unfold rowD; simp [hr2]
        have l2 : oLen [rowD r0] = .ok (.int w) := by unfold rowD; simp [hr3]
        have g0 : getI (rs.map rowD) 0 = .ok (rowD r0) := by rw [e0]; exact getI_cons0
        simp [l1, g0, l2, sure_ok]
      · rintro ρ ⟨x2, rfl⟩
        have := h.n
        simp [is_stair_is h.wd (by omega) (by omega) (show rs.length < 16777216 by omega), hs, show flat (D.bl true) = true from rfl, sure_ok]
    · intro r hr
      refine ⟨_, rfl, rfl, fun _ => ?_⟩
      have := h.l r hr
      simp [row_in_ok (h.f r hr) (by omega)]
end DL

set_option Elab.async false
set_option linter.all false
set_option maxRecDepth 100000
set_option maxHeartbeats 4000000
set_option autoImplicit false
/-! W1: rows, stairs of sets of rows, ways (plain). -/
namespace DL
/-! ### rows -/
def addR (a b : List Int) : List Int := List.zipWith (· + ·) a b
theorem addR_len {a b : List Int} (h : a.length = b.length) : (addR a b).length = a.length := by
  unfold addR
  rw [List.length_zipWith, h, Nat.min_self]
theorem cov_nil {b : List Int} : cov [] b = true := rfl
theorem cov_cons {x y : Int} {a b : List Int} : cov (x :: a) (y :: b) = (decide (x ≤ y) && cov a b) := by
  unfold cov
  rw [List.length_cons, List.range_succ_eq_map, List.all_cons, List.all_map]
  rfl
theorem cov_trans : ∀ {a b c : List Int}, a.length = b.length → b.length = c.length → cov a b = true → cov b c = true → cov a c = true
  | [], _, _, _, _, _, _ => cov_nil
  | x :: a, [], _, h, _, _, _ => by cases h
  | x :: a, y :: b, [], _, h, _, _ => by cases h
  | x :: a, y :: b, z :: c, h, h', h1, h2 => by
    rw [cov_cons, Bool.and_eq_true, decide_eq_true_eq] at h1 h2 ⊢
    exact ⟨by omega, cov_trans (by simpa using h) (by simpa using h') h1.2 h2.2⟩
theorem cov_anti : ∀ {a b : List Int}, a.length = b.length → cov a b = true → cov b a = true → a = b
  | [], [], _, _, _ => rfl
  | [], _ :: _, h, _, _ => by cases h
  | _ :: _, [], h, _, _ => by cases h
  | x :: a, y :: b, h, h1, h2 => by
    rw [cov_cons, Bool.and_eq_true, decide_eq_true_eq] at h1 h2
    rw [cov_anti (by simpa using h) h1.2 h2.2, show x = y by omega]
theorem cov_le : ∀ {a b : List Int}, a.length = b.length → cov a b = true → a ≤ b
  | [], [], _, _ => List.le_refl _
  | [], _ :: _, h, _ => by cases h
  | _ :: _, [], h, _ => by cases h
  | x :: a, y :: b, h, h1 => by
    rw [cov_cons, Bool.and_eq_true, decide_eq_true_eq] at h1
    have ih := cov_le (by simpa using h) h1.2
    rw [List.cons_le_cons_iff]
    rcases Int.lt_or_eq_of_le h1.1 with z | z
    · exact .inl z
    · exact .inr ⟨z, ih⟩
theorem cov_add : ∀ {a b p : List Int}, a.length = b.length → a.length = p.length → cov a b = true → cov (addR a p) (addR b p) = true
  | [], _, _, _, _, _ => cov_nil
  | x :: a, [], _, h, _, _ => by cases h
  | x :: a, y :: b, [], _, h, _ => by cases h
  | x :: a, y :: b, z :: p, h, h', h1 => by
    rw [cov_cons, Bool.and_eq_true, decide_eq_true_eq] at h1
    show cov ((x + z) :: addR a p) ((y + z) :: addR b p) = true
    rw [cov_cons, Bool.and_eq_true, decide_eq_true_eq]
    exact ⟨by omega, cov_add (by simpa using h) (by simpa using h') h1.2⟩
theorem cov_grow : ∀ {r p : List Int}, r.length = p.length → (∀ x ∈ p, 0 ≤ x) → cov r (addR r p) = true
  | [], _, _, _ => cov_nil
  | x :: r, [], h, _ => by cases h
  | x :: r, y :: p, h, hp => by
    show cov (x :: r) ((x + y) :: addR r p) = true
    rw [cov_cons, Bool.and_eq_true, decide_eq_true_eq]
    have := hp y List.mem_cons_self
    exact ⟨by omega, cov_grow (by simpa using h) fun z hz => hp z (List.mem_cons_of_mem _ hz)⟩
theorem addR_nn : ∀ {a b : List Int}, (∀ x ∈ a, 0 ≤ x) → (∀ x ∈ b, 0 ≤ x) → ∀ x ∈ addR a b, 0 ≤ x
  | [], _, _, _, x, h => by cases h
  | _ :: _, [], _, _, x, h => by cases h
  | u :: a, v :: b, ha, hb, x, h => by
    rcases List.mem_cons.mp h with rfl | h
    · have := ha u List.mem_cons_self
      have := hb v List.mem_cons_self
      show 0 ≤ u + v
      omega
    · exact addR_nn (fun y hy => ha y (List.mem_cons_of_mem _ hy)) (fun y hy => hb y (List.mem_cons_of_mem _ hy)) x h
/-! ### stairs of sets -/
structure IsSt (w : Nat) (S : List Int → Prop) (L : List (List Int)) : Prop where
  wd : ∀ r, S r → r.length = w
  pw : L.Pairwise fun a b => a < b ∧ cov a b = false
  sub : ∀ r ∈ L, S r
  all : ∀ r, S r → ∃ o ∈ L, cov o r = true
theorem pw_same {L : List (List Int)} (h : L.Pairwise fun a b => a < b ∧ cov a b = false) {a b : List Int} (ha : a ∈ L) (hb : b ∈ L) (hl : a.length = b.length) (hc : cov a b = true) : a = b := by
  induction h with
  | nil => cases ha
  | @cons x l hx hl' ih =>
    rcases List.mem_cons.mp ha with rfl | ha'
    · rcases List.mem_cons.mp hb with rfl | hb'
      · rfl
      · rw [(hx b hb').2] at hc
        cases hc
    · rcases List.mem_cons.mp hb with rfl | hb'
      · have h1 := (hx a ha').1
        have h2 := cov_le hl hc
        exact absurd h1 (List.not_lt.mpr h2)
      · exact ih ha' hb'
theorem IsSt.unique {w : Nat} {S : List Int → Prop} {L M : List (List Int)} (hL : IsSt w S L) (hM : IsSt w S M) : L = M := by
  have key : ∀ {L M : List (List Int)}, IsSt w S L → IsSt w S M → ∀ x ∈ L, x ∈ M := fun {L M} hL hM x hx => by
    have sx := hL.sub x hx
    obtain ⟨y, hy, c1⟩ := hM.all x sx
    have sy := hM.sub y hy
    obtain ⟨z, hz, c2⟩ := hL.all y sy
    have lx := hL.wd x sx
    have ly := hL.wd y sy
    have lz := hL.wd z (hL.sub z hz)
    have e := pw_same hL.pw hz hx (by omega) (cov_trans (by omega) (by omega) c2 c1)
    subst e
    rw [cov_anti (by omega) c2 c1]
    exact hy
  exact asc_ext (hL.pw.imp fun z => z.1) (hM.pw.imp fun z => z.1) fun y => ⟨key hL hM y, key hM hL y⟩
theorem stepA_sub {found : List (List Int)} {r : List Int} : ∀ o ∈ found, o ∈ stepA found r := fun o h => by
  unfold stepA
  split
  · exact List.mem_append_left _ h
  · exact h
theorem foldA_sub : ∀ {xs found : List (List Int)}, ∀ o ∈ found, o ∈ xs.foldl stepA found
  | [], _, _, h => h
  | x :: xs, found, o, h => foldA_sub (xs := xs) o (stepA_sub o h)
theorem foldA_cov : ∀ {xs found : List (List Int)}, ∀ r ∈ xs, ∃ o ∈ xs.foldl stepA found, cov o r = true
  | [], _, _, h => by cases h
  | x :: xs, found, r, h => by
    rcases List.mem_cons.mp h with rfl | h
    · obtain ⟨o, ho, hc⟩ := stepA_cov found r
      exact ⟨o, foldA_sub (xs := xs) o ho, hc⟩
    · exact foldA_cov (xs := xs) r h
theorem stairA_is {w : Nat} {rs : List (List Int)} (h : Wd w rs) : IsSt w (· ∈ rs) (stairA rs) where
  wd := h
  pw := stairA_pw rs
  sub := fun r hr => stairA_mem hr
  all := fun r hr => foldA_cov r (sortU_mem.mpr hr)
/-- the stair of a list is that of a set, if the list is of it and covers it -/
theorem stairA_of {w : Nat} {rs : List (List Int)} {S : List Int → Prop} (hw : ∀ r, S r → r.length = w) (h1 : ∀ r ∈ rs, S r) (h2 : ∀ r, S r → ∃ o ∈ rs, cov o r = true) : IsSt w S (stairA rs) where
  wd := hw
  pw := stairA_pw rs
  sub := fun r hr => h1 r (stairA_mem hr)
  all := fun r hr => by
    obtain ⟨o, ho, c1⟩ := h2 r hr
    have hwd : Wd w rs := fun r hr => hw r (h1 r hr)
    obtain ⟨p, hp, c2⟩ := (stairA_is hwd).all o ho
    refine ⟨p, hp, cov_trans ?_ ?_ c2 c1⟩
    · rw [hwd o ho, hwd p (stairA_mem hp)]
    · rw [hwd o ho, hw r hr]
theorem IsSt.same {w : Nat} {S T : List Int → Prop} {L : List (List Int)} (h : IsSt w S L) (hw : ∀ r, T r → r.length = w) (h1 : ∀ r ∈ L, T r) (h2 : ∀ r, T r → ∃ o, S o ∧ cov o r = true) : IsSt w T L where
  wd := hw
  pw := h.pw
  sub := h1
  all := fun r hr => by
    obtain ⟨o, ho, c1⟩ := h2 r hr
    obtain ⟨p, hp, c2⟩ := h.all o ho
    refine ⟨p, hp, cov_trans ?_ ?_ c2 c1⟩
    · rw [h.wd o ho, h.wd p (h.sub p hp)]
    · rw [h.wd o ho, hw r hr]
/-! ### ways -/
structure Web (n w : Nat) (ss : List Stp) : Prop where
  st : ∀ s ∈ ss, 0 ≤ s.a ∧ s.a < n ∧ 0 ≤ s.b ∧ s.b < n ∧ s.a ≠ s.b ∧ s.p.length = w ∧ ∀ x ∈ s.p, 0 ≤ x
def nought (w : Nat) : List Int := List.replicate w 0
theorem nought_len {w : Nat} : (nought w).length = w := by simp [nought]
theorem nought_nn {w : Nat} : ∀ x ∈ nought w, 0 ≤ x := fun x h => by
  rw [List.eq_of_mem_replicate h]
  exact Int.le_refl _
inductive Way (ss : List Stp) (w : Nat) (s0 : Int) : Int → List Int → List Nat → Prop
  | nil : Way ss w s0 s0 (nought w) []
  | snoc {q : Int} {r : List Int} {ws : List Nat} {k : Nat} {st : Stp} : Way ss w s0 q r ws → ss[k]? = some st → st.a = q → Way ss w s0 st.b (addR r st.p) (ws ++ [k])
/-- by visited places, the last one first, none twice -/
inductive SWay (ss : List Stp) (w : Nat) (s0 : Int) : List Int → List Int → Prop
  | nil : SWay ss w s0 [s0] (nought w)
  | snoc {q : Int} {ns r : List Int} {st : Stp} : SWay ss w s0 (q :: ns) r → st ∈ ss → st.a = q → st.b ∉ q :: ns → SWay ss w s0 (st.b :: q :: ns) (addR r st.p)
section
variable {n w : Nat} {ss : List Stp} {s0 : Int}
theorem Way.len (hW : Web n w ss) {q : Int} {r : List Int} {ws : List Nat} (h : Way ss w s0 q r ws) : r.length = w := by
  induction h with
  | nil => exact nought_len
  | snoc _ hk _ ih =>
    have := (hW.st _ (List.mem_of_getElem? hk)).2.2.2.2.2.1
    rw [addR_len (by omega), ih]
theorem Way.nn (hW : Web n w ss) {q : Int} {r : List Int} {ws : List Nat} (h : Way ss w s0 q r ws) : ∀ x ∈ r, 0 ≤ x := by
  induction h with
  | nil => exact nought_nn
  | snoc _ hk _ ih => exact addR_nn ih (hW.st _ (List.mem_of_getElem? hk)).2.2.2.2.2.2
theorem Way.at (hW : Web n w ss) (h0 : 0 ≤ s0 ∧ s0 < n) {q : Int} {r : List Int} {ws : List Nat} (h : Way ss w s0 q r ws) : 0 ≤ q ∧ q < n := by
  cases h with
  | nil => exact h0
  | snoc _ hk _ =>
    have := hW.st _ (List.mem_of_getElem? hk)
    omega
theorem SWay.way {ns r : List Int} (h : SWay ss w s0 ns r) : ∃ q l ws, ns = q :: l ∧ Way ss w s0 q r ws ∧ ws.length = l.length := by
  induction h with
  | nil => exact ⟨s0, [], [], rfl, .nil, rfl⟩
  | @snoc q ns r st _ hs ha _ ih =>
    obtain ⟨q', l, ws, e, hw, hl⟩ := ih
    cases e
    obtain ⟨k, hk⟩ := List.mem_iff_getElem?.mp hs
    exact ⟨st.b, q :: ns, ws ++ [k], rfl, .snoc hw hk ha, by simp [hl]⟩
theorem SWay.len (hW : Web n w ss) {ns r : List Int} (h : SWay ss w s0 ns r) : r.length = w := by
  obtain ⟨q, l, ws, _, hw, _⟩ := h.way
  exact hw.len hW
theorem SWay.upto (hW : Web n w ss) {ns r : List Int} (h : SWay ss w s0 ns r) : ∀ b ∈ ns, ∃ l r', SWay ss w s0 (b :: l) r' ∧ cov r' r = true ∧ l.length + 1 ≤ ns.length := by
  induction h with
  | nil =>
    intro b hb
    rw [List.mem_singleton.mp hb]
    exact ⟨[], nought w, .nil, cov_self _, Nat.le_refl _⟩
  | @snoc q ns r st h1 hs ha hn ih =>
    intro b hb
    have hst := hW.st st hs
    have hl := h1.len hW
    rcases List.mem_cons.mp hb with rfl | hb
    · exact ⟨q :: ns, _, .snoc h1 hs ha hn, cov_self _, Nat.le_refl _⟩
    · obtain ⟨l, r', k1, k2, k3⟩ := ih b hb
      have hl' := k1.len hW
      refine ⟨l, r', k1, cov_trans (by omega) ?_ k2 (cov_grow (by omega) hst.2.2.2.2.2.2), by simp at k3 ⊢; omega⟩
      rw [addR_len (by omega)]
theorem Way.simple (hW : Web n w ss) {q : Int} {r : List Int} {ws : List Nat} (h : Way ss w s0 q r ws) : ∃ l r', SWay ss w s0 (q :: l) r' ∧ cov r' r = true ∧ l.length ≤ ws.length := by
  induction h with
  | nil => exact ⟨[], nought w, .nil, cov_self _, Nat.le_refl _⟩
  | @snoc q r ws k st h1 hk ha ih =>
    obtain ⟨l, r', k1, k2, k3⟩ := ih
    have hs := List.mem_of_getElem? hk
    have hst := hW.st st hs
    have hl := h1.len hW
    have hl' := k1.len hW
    have hp := hst.2.2.2.2.2.1
    have hc := cov_add (p := st.p) (show r'.length = r.length by omega) (by omega) k2
    by_cases hb : st.b ∈ q :: l
    · obtain ⟨l2, r2, j1, j2, j3⟩ := k1.upto hW st.b hb
      have hl2 := j1.len hW
      refine ⟨l2, r2, j1, cov_trans (by omega) ?_ j2 (cov_trans (by omega) ?_ (k2) (cov_grow (by omega) hst.2.2.2.2.2.2)), by simp at j3 ⊢; omega⟩
      · rw [addR_len (by omega)]; omega
      · rw [addR_len (by omega)]
    · exact ⟨q :: l, _, .snoc k1 hs ha hb, hc, by simp; omega⟩
theorem SWay.nodup {ns r : List Int} (h : SWay ss w s0 ns r) : ns.Nodup := by
  induction h with
  | nil => simp
  | snoc _ _ _ hn ih => exact List.nodup_cons.mpr ⟨hn, ih⟩
theorem SWay.range (hW : Web n w ss) (h0 : 0 ≤ s0 ∧ s0 < n) {ns r : List Int} (h : SWay ss w s0 ns r) : ∀ x ∈ ns, 0 ≤ x ∧ x < n := by
  induction h with
  | nil =>
    intro x hx
    rw [List.mem_singleton.mp hx]
    exact h0
  | snoc _ hs _ _ ih =>
    intro x hx
    have := hW.st _ hs
    rcases List.mem_cons.mp hx with rfl | hx
    · omega
    · exact ih x hx
theorem ints_len : ∀ {n : Nat} {l : List Int}, l.Nodup → (∀ x ∈ l, 0 ≤ x ∧ x < n) → l.length ≤ n := fun {n l} hn h => by
  have : (l.map Int.toNat).Nodup := by
    refine List.pairwise_map.mpr (hn.imp_of_mem fun {a b} ha hb hab z => hab ?_)
    have := h a ha
    have := h b hb
    omega
  have := L2.nat_nodup_len (l.map Int.toNat) (List.range n) this fun x hx => by
    obtain ⟨y, hy, rfl⟩ := List.mem_map.mp hx
    have := h y hy
    exact List.mem_range.mpr (by omega)
  simpa using this
/-- a way is covered by one of fewer steps than there are places -/
theorem Way.short (hW : Web n w ss) (h0 : 0 ≤ s0 ∧ s0 < n) {q : Int} {r : List Int} {ws : List Nat} (h : Way ss w s0 q r ws) : ∃ r' ws', Way ss w s0 q r' ws' ∧ cov r' r = true ∧ ws'.length + 1 ≤ n := by
  obtain ⟨l, r', k1, k2, _⟩ := h.simple hW
  have hl := ints_len k1.nodup (k1.range hW h0)
  obtain ⟨q', l', ws', e, hw, hl'⟩ := k1.way
  cases e
  exact ⟨r', ws', hw, k2, by simp at hl; omega⟩
end
end DL

set_option Elab.async false
set_option linter.all false
set_option maxRecDepth 100000
set_option maxHeartbeats 4000000
set_option autoImplicit false
/-! W2: stairs round by round; how many rows there can be (plain). -/
namespace DL
/-- the rows of all ways to q -/
def Rch (ss : List Stp) (w : Nat) (s0 q : Int) : List Int → Prop := fun r => ∃ ws, Way ss w s0 q r ws
/-- .. of at most k steps -/
def RchK (ss : List Stp) (w : Nat) (s0 : Int) (k : Nat) (q : Int) : List Int → Prop := fun r => ∃ ws, Way ss w s0 q r ws ∧ ws.length ≤ k
def at2 (f : List (List (List Int))) (q : Int) : List (List Int) := f.getD q.toNat []
def moreA (f m : List (List (List Int))) (st : Stp) : List (List (List Int)) := m.set st.b.toNat (at2 m st.b ++ (at2 f st.a).map fun r => addR r st.p)
def rndA (ss : List Stp) (f : List (List (List Int))) : List (List (List Int)) := (ss.foldl (moreA f) f).map stairA
def rounds (ss : List Stp) : Nat → List (List (List Int)) → List (List (List Int))
  | 0, f => f
  | k + 1, f => rounds ss k (rndA ss f)
def start0 (n w : Nat) (s0 : Int) : List (List (List Int)) := (List.replicate n []).set s0.toNat [nought w]
/-- the stairs of all places -/
def stairsA (n w : Nat) (ss : List Stp) (s0 : Int) : List (List (List Int)) := rounds ss (n - 1) (start0 n w s0)
theorem getD_set {α : Type} {l : List α} {i j : Nat} {x d : α} (h : i < l.length) : (l.set i x).getD j d = if j = i then x else l.getD j d := by
  rw [List.getD_eq_getElem?_getD, List.getD_eq_getElem?_getD, List.getElem?_set]
  by_cases e : i = j
  · subst e
    simp [h]
  · rw [if_neg e, if_neg (Ne.symm e)]
theorem moreA_len {f m : List (List (List Int))} {st : Stp} : (moreA f m st).length = m.length := by simp [moreA]
theorem foldM_len {f : List (List (List Int))} : ∀ {ss : List Stp} {m : List (List (List Int))}, (ss.foldl (moreA f) m).length = m.length
  | [], _ => rfl
  | s :: ss, m => by rw [List.foldl_cons, foldM_len, moreA_len]
section
variable {n w : Nat} {ss : List Stp} {s0 : Int}
theorem moreA_mem {f m : List (List (List Int))} {st : Stp} (hm : m.length = n) (hb : 0 ≤ st.b ∧ st.b < n) {q : Int} (hq : 0 ≤ q) {r : List Int} : r ∈ at2 (moreA f m st) q ↔ r ∈ at2 m q ∨ (st.b = q ∧ ∃ r' ∈ at2 f st.a, addR r' st.p = r) := by
  unfold at2 moreA
  rw [getD_set (by omega)]
  by_cases e : q.toNat = st.b.toNat
  · have : st.b = q := by omega
    subst this
    rw [if_pos rfl]
    simp [at2]
  · rw [if_neg e]
    have : st.b ≠ q := fun z => e (by rw [z])
    simp [this]
theorem foldM_mem (hW : Web n w ss) {f : List (List (List Int))} : ∀ {l : List Stp} {m : List (List (List Int))}, (∀ s ∈ l, s ∈ ss) → m.length = n → ∀ {q : Int}, 0 ≤ q → ∀ {r : List Int}, r ∈ at2 (l.foldl (moreA f) m) q ↔ r ∈ at2 m q ∨ ∃ st ∈ l, st.b = q ∧ ∃ r' ∈ at2 f st.a, addR r' st.p = r
  | [], _, _, _, _, _, _ => by simp
  | s :: l, m, hl, hm, q, hq, r => by
    have hs := hW.st s (hl s List.mem_cons_self)
    rw [List.foldl_cons, foldM_mem hW (fun x hx => hl x (List.mem_cons_of_mem _ hx)) (by rw [moreA_len, hm]) hq, moreA_mem hm ⟨hs.2.2.1, hs.2.2.2.1⟩ hq]
    constructor
    · rintro ((h | h) | ⟨st, h1, h2⟩)
      · exact .inl h
      · exact .inr ⟨s, List.mem_cons_self, h⟩
      · exact .inr ⟨st, List.mem_cons_of_mem _ h1, h2⟩
    · rintro (h | ⟨st, h1, h2⟩)
      · exact .inl (.inl h)
      · rcases List.mem_cons.mp h1 with rfl | h1
        · exact .inl (.inr h2)
        · exact .inr ⟨st, h1, h2⟩
/-- behind k rounds -/
structure RoundOk (n w : Nat) (ss : List Stp) (s0 : Int) (k : Nat) (f : List (List (List Int))) : Prop where
  len : f.length = n
  st : ∀ q : Int, 0 ≤ q → q < n → IsSt w (RchK ss w s0 k q) (at2 f q)
theorem map_at2 {f : List (List (List Int))} {q : Int} : at2 (f.map stairA) q = stairA (at2 f q) := by
  unfold at2
  rw [List.getD_eq_getElem?_getD, List.getD_eq_getElem?_getD, List.getElem?_map]
  cases f[q.toNat]? <;> rfl
theorem start_ok (h0 : 0 ≤ s0 ∧ s0 < n) : RoundOk n w ss s0 0 (start0 n w s0) where
  len := by simp [start0]
  st := fun q hq hqn => by
    have e : at2 (start0 n w s0) q = if q = s0 then [nought w] else [] := by
      unfold at2 start0
      rw [getD_set (by simp; omega)]
      by_cases e : q = s0
      · rw [if_pos (by rw [e]), if_pos e]
      · rw [if_neg (by omega), if_neg e, List.getD_eq_getElem?_getD, List.getElem?_replicate]
        split <;> rfl
    have nil : ∀ {q r ws}, Way ss w s0 q r ws → ws.length ≤ 0 → q = s0 ∧ r = nought w := fun {q r ws} h hl => by
      cases h with
      | nil => exact ⟨rfl, rfl⟩
      | snoc _ _ _ => simp at hl
    refine ⟨fun r ⟨ws, h, hl⟩ => ?_, ?_, fun r hr => ?_, fun r ⟨ws, h, hl⟩ => ?_⟩
    · rw [(nil h hl).2]
      exact nought_len
    · rw [e]
      split <;> simp
    · rw [e] at hr
      split at hr
      · rename_i hq
        rw [List.mem_singleton.mp hr, hq]
        exact ⟨[], .nil, Nat.le_refl _⟩
      · cases hr
    · obtain ⟨rfl, rfl⟩ := nil h hl
      rw [e, if_pos rfl]
      exact ⟨_, List.mem_singleton_self _, cov_self _⟩
theorem round_ok (hW : Web n w ss) (h0 : 0 ≤ s0 ∧ s0 < n) {k : Nat} {f : List (List (List Int))} (h : RoundOk n w ss s0 k f) : RoundOk n w ss s0 (k + 1) (rndA ss f) where
  len := by
    unfold rndA
    rw [List.length_map, foldM_len, h.len]
  st := fun q hq hqn => by
    unfold rndA
    rw [map_at2]
    refine stairA_of (fun r ⟨ws, h, _⟩ => h.len hW) (fun r hr => ?_) fun r ⟨ws, hw, hl⟩ => ?_
    · rw [foldM_mem hW (fun _ h => h) h.len hq] at hr
      rcases hr with hr | ⟨st, h1, h2, r', h3, h4⟩
      · obtain ⟨ws, a, b⟩ := (h.st q hq hqn).sub r hr
        exact ⟨ws, a, by omega⟩
      · have hs := hW.st st h1
        obtain ⟨ws, a, b⟩ := (h.st st.a hs.1 hs.2.1).sub r' h3
        obtain ⟨j, hj⟩ := List.mem_iff_getElem?.mp h1
        subst h2 h4
        exact ⟨ws ++ [j], .snoc a hj rfl, by simp; omega⟩
    · have cv : ∀ o, o ∈ at2 f q ∨ (∃ st ∈ ss, st.b = q ∧ ∃ r' ∈ at2 f st.a, addR r' st.p = o) → cov o r = true → ∃ o ∈ at2 (ss.foldl (moreA f) f) q, cov o r = true := fun o ho hc => ⟨o, (foldM_mem hW (fun _ h => h) h.len hq).mpr ho, hc⟩
      cases hw with
      | nil =>
        obtain ⟨o, ho, hc⟩ := (h.st s0 hq hqn).all (nought w) ⟨[], .nil, Nat.zero_le _⟩
        exact cv o (.inl ho) hc
      | @snoc q' r' ws' j st hw' hj ha =>
        have hm := List.mem_of_getElem? hj
        have hs := hW.st st hm
        subst ha
        obtain ⟨o, ho, hc⟩ := (h.st st.a hs.1 hs.2.1).all r' ⟨ws', hw', by simp at hl; omega⟩
        have l1 := hw'.len hW
        have l2 : o.length = w := by
          obtain ⟨ws2, a, _⟩ := (h.st st.a hs.1 hs.2.1).sub o ho
          exact a.len hW
        exact cv (addR o st.p) (.inr ⟨st, hm, rfl, o, ho, rfl⟩) (cov_add (by omega) (by omega) hc)
theorem rounds_ok (hW : Web n w ss) (h0 : 0 ≤ s0 ∧ s0 < n) : ∀ (j k : Nat) (f : List (List (List Int))), RoundOk n w ss s0 k f → RoundOk n w ss s0 (k + j) (rounds ss j f)
  | 0, _, _, h => h
  | j + 1, k, f, h => by
    have := rounds_ok hW h0 j (k + 1) _ (round_ok hW h0 h)
    rw [show k + (j + 1) = k + 1 + j by omega]
    exact this
/-- the stairs are those of all ways -/
theorem stairsA_is (hW : Web n w ss) (h0 : 0 ≤ s0 ∧ s0 < n) : (stairsA n w ss s0).length = n ∧ ∀ q : Int, 0 ≤ q → q < n → IsSt w (Rch ss w s0 q) (at2 (stairsA n w ss s0) q) := by
  have h := rounds_ok hW h0 (n - 1) 0 _ (start_ok (ss := ss) (w := w) h0)
  refine ⟨h.len, fun q hq hqn => (h.st q hq hqn).same (fun r ⟨ws, hw⟩ => hw.len hW) (fun r hr => ?_) fun r ⟨ws, hw⟩ => ?_⟩
  · obtain ⟨ws, a, _⟩ := (h.st q hq hqn).sub r hr
    exact ⟨ws, a⟩
  · obtain ⟨r', ws', a, b, c⟩ := hw.short hW h0
    exact ⟨r', ⟨ws', a, by omega⟩, b⟩
/-! ### how many -/
theorem sub_len {α : Type} [BEq α] [LawfulBEq α] : ∀ {l D : List α}, l.Nodup → (∀ x ∈ l, x ∈ D) → l.length ≤ D.length
  | [], D, _, _ => Nat.zero_le _
  | x :: l, D, hn, hs => by
    have hd := List.nodup_cons.mp hn
    have hx := hs x List.mem_cons_self
    have e := List.length_erase_of_mem hx
    have pos : 0 < D.length := List.length_pos_of_mem hx
    have := sub_len (D := D.erase x) hd.2 fun y hy => (List.mem_erase_of_ne fun (z : y = x) => hd.1 (z ▸ hy)).mpr (hs y (List.mem_cons_of_mem _ hy))
    simp only [List.length_cons]
    omega
/-- the rows of all ways on, by places not visited -/
def ext (ss : List Stp) : Nat → List Int → List Int → List (List Int)
  | 0, _, r => [r]
  | k + 1, ns, r => r :: (ss.filter fun st => decide (ns.head? = some st.a ∧ st.b ∉ ns)).flatMap fun st => ext ss k (st.b :: ns) (addR r st.p)
theorem ext_self {k : Nat} {ns r : List Int} : r ∈ ext ss k ns r := by
  cases k <;> simp [ext]
theorem SWay.ext {ns r : List Int} (h : SWay ss w s0 ns r) : ∀ k x, x ∈ ext ss k ns r → x ∈ DL.ext ss (k + (ns.length - 1)) [s0] (nought w) := by
  induction h with
  | nil => exact fun k x hx => hx
  | @snoc q ns r st h1 hs ha hn ih =>
    intro k x hx
    have := ih (k + 1) x (by
      unfold DL.ext
      refine List.mem_cons_of_mem _ (List.mem_flatMap.mpr ⟨st, List.mem_filter.mpr ⟨hs, decide_eq_true ⟨by rw [ha]; rfl, hn⟩⟩, hx⟩))
    simp at this ⊢
    rw [show k + (ns.length + 1) = k + 1 + ns.length by omega]
    exact this
def deg (ss : List Stp) (v : Int) : Nat := (ss.filter fun st => decide (st.a = v)).length
def prodL : List Nat → Nat
  | [] => 1
  | x :: l => x * prodL l
/-- the product over places not visited -/
def freeP (ss : List Stp) (ps : List Int) (seen : List Int) : Nat := prodL ((ps.filter fun v => decide (v ∉ seen)).map fun v => 1 + deg ss v)
theorem prodL_pos {l : List Nat} (h : ∀ x ∈ l, 0 < x) : 0 < prodL l := by
  induction l with
  | nil => exact Nat.one_pos
  | cons x l ih => exact Nat.mul_pos (h x List.mem_cons_self) (ih fun y hy => h y (List.mem_cons_of_mem _ hy))
theorem freeP_pos {ps seen : List Int} : 0 < freeP ss ps seen := prodL_pos fun x hx => by
  obtain ⟨v, _, rfl⟩ := List.mem_map.mp hx
  omega
theorem freeP_out {ps seen : List Int} {v : Int} (h : v ∉ ps) : freeP ss ps (v :: seen) = freeP ss ps seen := by
  unfold freeP
  congr 2
  refine List.filter_congr fun x hx => ?_
  have : x ≠ v := fun z => h (z ▸ hx)
  simp [this]
theorem freeP_take {v : Int} {seen : List Int} (hs : v ∉ seen) : ∀ {ps : List Int}, ps.Nodup → v ∈ ps → freeP ss ps seen = (1 + deg ss v) * freeP ss ps (v :: seen)
  | [], _, h => by cases h
  | x :: ps, hn, h => by
    have hd := List.nodup_cons.mp hn
    by_cases e : x = v
    · subst e
      have h1 : freeP ss (x :: ps) seen = (1 + deg ss x) * freeP ss ps seen := by
        unfold freeP
        rw [List.filter_cons_of_pos (by simpa using hs)]
        rfl
      have h2 : freeP ss (x :: ps) (x :: seen) = freeP ss ps (x :: seen) := by
        unfold freeP
        rw [List.filter_cons_of_neg (by simp)]
      rw [h1, h2, freeP_out hd.1]
    · have hv : v ∈ ps := (List.mem_cons.mp h).resolve_left (Ne.symm e)
      have ih := freeP_take hs hd.2 hv
      by_cases z : x ∈ seen
      · have h1 : freeP ss (x :: ps) seen = freeP ss ps seen := by
          unfold freeP
          rw [List.filter_cons_of_neg (by simpa using z)]
        have h2 : freeP ss (x :: ps) (v :: seen) = freeP ss ps (v :: seen) := by
          unfold freeP
          rw [List.filter_cons_of_neg (by simp [z])]
        rw [h1, h2, ih]
      · have h1 : freeP ss (x :: ps) seen = (1 + deg ss x) * freeP ss ps seen := by
          unfold freeP
          rw [List.filter_cons_of_pos (by simpa using z)]
          rfl
        have h2 : freeP ss (x :: ps) (v :: seen) = (1 + deg ss x) * freeP ss ps (v :: seen) := by
          unfold freeP
          rw [List.filter_cons_of_pos (by simp [z, e])]
          rfl
        rw [h1, h2, ih, Nat.mul_left_comm]
theorem flat_len {α β : Type} {f : α → List β} {b : Nat} : ∀ {l : List α}, (∀ x ∈ l, (f x).length ≤ b) → (l.flatMap f).length ≤ l.length * b
  | [], _ => by simp
  | x :: l, h => by
    rw [List.flatMap_cons, List.length_append, List.length_cons, Nat.succ_mul]
    have := h x List.mem_cons_self
    have := flat_len (l := l) fun y hy => h y (List.mem_cons_of_mem _ hy)
    omega
theorem ext_len {ps : List Int} (hp : ps.Nodup) (hin : ∀ st ∈ ss, st.b ∈ ps) : ∀ (k : Nat) (q : Int) (ns r : List Int), (ext ss k (q :: ns) r).length ≤ (1 + deg ss q) * freeP ss ps (q :: ns)
  | 0, q, ns, r => by
    have := freeP_pos (ss := ss) (ps := ps) (seen := q :: ns)
    have := Nat.mul_pos (show 0 < 1 + deg ss q by omega) this
    simp [ext]
    omega
  | k + 1, q, ns, r => by
    unfold ext
    rw [List.length_cons]
    have h1 := flat_len (l := ss.filter fun st => decide ((q :: ns).head? = some st.a ∧ st.b ∉ q :: ns)) (f := fun st => ext ss k (st.b :: q :: ns) (addR r st.p)) (b := freeP ss ps (q :: ns)) fun st hst => by
      obtain ⟨a, b⟩ := List.mem_filter.mp hst
      have b := of_decide_eq_true b
      have := ext_len hp hin k st.b (q :: ns) (addR r st.p)
      rw [← freeP_take b.2 hp (hin st a)] at this
      exact this
    have h2 : (ss.filter fun st => decide ((q :: ns).head? = some st.a ∧ st.b ∉ q :: ns)).length ≤ deg ss q := by
      unfold deg
      have e : (fun st : Stp => decide ((q :: ns).head? = some st.a ∧ st.b ∉ q :: ns)) = fun st => decide (st.a = q) && decide (st.b ∉ q :: ns) := by
        funext st
        rw [← Bool.decide_and]
        congr 1
        simp [eq_comm]
      rw [e, ← List.filter_filter]
      have : (ss.filter fun st => decide (st.b ∉ q :: ns)).Sublist ss := List.filter_sublist
      exact (this.filter _).length_le
    have h3 := Nat.mul_le_mul_right (freeP ss ps (q :: ns)) h2
    have := freeP_pos (ss := ss) (ps := ps) (seen := q :: ns)
    rw [Nat.add_mul]
    omega
/-- how many rows any stair has at most -/
def most (ss : List Stp) (n : Nat) : Nat := prodL ((List.range n).map fun (v : Nat) => 1 + deg ss v)
theorem stair_len (hW : Web n w ss) (h0 : 0 ≤ s0 ∧ s0 < n) {k : Nat} {q : Int} {L : List (List Int)} (h : IsSt w (RchK ss w s0 k q) L) : L.length ≤ most ss n := by
  have key : ∀ r ∈ L, r ∈ ext ss n [s0] (nought w) := fun r hr => by
    obtain ⟨ws, hw, hl⟩ := h.sub r hr
    obtain ⟨l, r', k1, k2, k3⟩ := hw.simple hW
    obtain ⟨q', l', ws', e, hw', hl'⟩ := k1.way
    cases e
    obtain ⟨o, ho, hc⟩ := h.all r' ⟨ws', hw', by omega⟩
    have l1 := h.wd o (h.sub o ho)
    have l2 := k1.len hW
    have l3 := hw.len hW
    have e := pw_same h.pw ho hr (by omega) (cov_trans (by omega) (by omega) hc k2)
    subst e
    have e := cov_anti (by omega) hc k2
    subst e
    have hn := ints_len k1.nodup (k1.range hW h0)
    have := k1.ext (n - (q :: l).length + 1) o ext_self
    rw [show n - (q :: l).length + 1 + ((q :: l).length - 1) = n by simp at hn ⊢; omega] at this
    exact this
  have nd : L.Nodup := h.pw.imp fun {a b} z e => by
    rw [e] at z
    exact List.lt_irrefl _ z.1
  have h1 := sub_len nd key
  have ps : ((List.range n).map fun (v : Nat) => (v : Int)).Nodup := List.pairwise_map.mpr (List.nodup_range.imp fun {a b} z e => z (by exact_mod_cast e))
  have hin : ∀ v : Int, 0 ≤ v ∧ v < n → v ∈ (List.range n).map fun (v : Nat) => (v : Int) := fun v hv => List.mem_map.mpr ⟨v.toNat, List.mem_range.mpr (by omega), by omega⟩
  have h2 := ext_len (ss := ss) ps (fun st hs => hin _ ⟨(hW.st st hs).2.2.1, (hW.st st hs).2.2.2.1⟩) n s0 [] (nought w)
  rw [← freeP_take (by simp) ps (hin s0 h0)] at h2
  have e : freeP ss ((List.range n).map fun (v : Nat) => (v : Int)) [] = most ss n := by
    unfold freeP most
    rw [List.filter_eq_self.mpr (by simp), List.map_map]
    rfl
  rw [e] at h2
  omega
/-- the greatest product of m numbers from 1 on with the sum s -/
def mostP : Nat → Nat → Nat
  | 0, _ => 1
  | m + 1, s => ((List.range (s + 1)).map fun x => x * mostP m (s - x)).foldl max 0
theorem fold_max {l : List Nat} : ∀ {b x : Nat}, x ∈ l ∨ x ≤ b → x ≤ l.foldl max b := by
  induction l with
  | nil =>
    intro b x h
    rcases h with h | h
    · cases h
    · exact h
  | cons y l ih =>
    intro b x h
    rw [List.foldl_cons]
    refine ih ?_
    rcases h with h | h
    · rcases List.mem_cons.mp h with rfl | h
      · exact .inr (Nat.le_max_right _ _)
      · exact .inl h
    · exact .inr (Nat.le_trans h (Nat.le_max_left _ _))
theorem prod_most : ∀ (l : List Nat), prodL l ≤ mostP l.length l.sum
  | [] => Nat.le_refl _
  | x :: l => by
    have ih := prod_most l
    rw [List.length_cons, List.sum_cons]
    unfold prodL mostP
    refine Nat.le_trans (Nat.mul_le_mul_left x ih) (fold_max (.inl (List.mem_map.mpr ⟨x, List.mem_range.mpr (by omega), ?_⟩)))
    rw [show x + l.sum - x = l.sum by omega]
theorem deg_sum : ∀ {n : Nat} {ss : List Stp}, (∀ s ∈ ss, 0 ≤ s.a ∧ s.a < n) → ((List.range n).map fun (v : Nat) => 1 + deg ss (v : Int)).sum = n + ss.length
  | n, [], _ => by
    have : (fun v : Nat => 1 + deg [] (v : Int)) = fun _ => 1 := rfl
    rw [this]
    have : ∀ m : Nat, ((List.range m).map fun _ => 1).sum = m := fun m => by
      induction m with
      | zero => rfl
      | succ m ih => rw [List.range_succ, List.map_append, List.sum_append, ih]; rfl
    rw [this]
    simp
  | n, s :: ss, h => by
    have ih := deg_sum (n := n) (ss := ss) fun x hx => h x (List.mem_cons_of_mem _ hx)
    have hs := h s List.mem_cons_self
    have one : ∀ (m : Nat), ((List.range m).map fun (v : Nat) => 1 + deg (s :: ss) (v : Int)).sum = ((List.range m).map fun (v : Nat) => 1 + deg ss (v : Int)).sum + if s.a < m then 1 else 0 := fun m => by
      induction m with
      | zero => simp; omega
      | succ m ihm =>
        rw [List.range_succ, List.map_append, List.map_append, List.sum_append, List.sum_append, ihm]
        simp only [List.map_cons, List.map_nil, List.sum_cons, List.sum_nil]
        have : deg (s :: ss) (m : Int) = deg ss (m : Int) + if s.a = m then 1 else 0 := by
          unfold deg
          by_cases e : s.a = m
          · rw [List.filter_cons_of_pos (by simpa using e), if_pos e, List.length_cons]
          · rw [List.filter_cons_of_neg (by simpa using e), if_neg e, Nat.add_zero]
        rw [this]
        split <;> split <;> split <;> omega
    rw [one, if_pos hs.2, ih, List.length_cons]
    omega
theorem most_le (hW : Web n w ss) : most ss n ≤ mostP n (n + ss.length) := by
  have := prod_most ((List.range n).map fun (v : Nat) => 1 + deg ss (v : Int))
  rw [List.length_map, List.length_range, deg_sum fun s hs => ⟨(hW.st s hs).1, (hW.st s hs).2.1⟩] at this
  exact this
end
end DL

set_option Elab.async false
set_option linter.all false
set_option maxRecDepth 100000
set_option maxHeartbeats 4000000
set_option autoImplicit false
/-! W3: the laws' stairs, round by round. -/
namespace DL
open PySem
abbrev rowsD (rs : List (List Int)) : D := .lst (rs.map rowD)
theorem addR_get {a b : List Int} (h : a.length = b.length) : addR a b = (List.range a.length).map fun (k : Nat) => a.getD k 0 + b.getD k 0 := by
  unfold addR
  refine List.ext_getElem (by simp [h]) fun i h1 h2 => ?_
  have hi : i < a.length := by simpa using h2
  have hi2 : i < b.length := h ▸ hi
  simp [List.getD_eq_getElem?_getD, List.getElem?_eq_getElem hi, List.getElem?_eq_getElem hi2]
theorem law_plus_ok {a b : List Int} (h : a.length = b.length) (hl : a.length ≤ 1000) : F_law_plus [rowD a, rowD b] = .ok (rowD (addR a b)) := by
  refine run_ok ?_
  unfold g_law_plus
  simp [itR1_ok (show (0 : Int) ≤ a.length by omega) (show (a.length : Int) ≤ 16777216 by omega), upTo_map]
  rw [lcF_of (enc := fun i : Nat => D.int i) (enc' := D.int) (fun _ => true) (fun (k : Nat) => a.getD k 0 + b.getD k 0)]
  · rw [filter_yes, ← addR_get h]
    simp [rowD]
  · intro k hk
    have hk : k < a.length := List.mem_range.mp hk
    refine ⟨_, rfl, rfl, fun _ => ?_⟩
    simp [getI_row (r := a) (k := k) (by omega) (by omega), getI_row (r := b) (k := k) (by omega) (by omega), at0]
theorem plus_ok {a b : List Int} (h : a.length = b.length) (hl : a.length ≤ 1000) : F_plus [rowD a, rowD b] = .ok (rowD (addR a b)) := by
  refine run_ok ?_
  unfold g_plus
  simp [itR1_ok (show (0 : Int) ≤ a.length by omega) (show (a.length : Int) ≤ 16777216 by omega), upTo_map]
  rw [lcF_of (enc := fun i : Nat => D.int i) (enc' := D.int) (fun _ => true) (fun (k : Nat) => a.getD k 0 + b.getD k 0)]
  · rw [filter_yes, ← addR_get h]
    simp [rowD]
  · intro k hk
    have hk : k < a.length := List.mem_range.mp hk
    refine ⟨_, rfl, rfl, fun _ => ?_⟩
    simp [getI_row (r := a) (k := k) (by omega) (by omega), getI_row (r := b) (k := k) (by omega) (by omega), at0]
theorem nought_row {w : Nat} : rowD (nought w) = .tup (List.replicate w (.int 0)) := by
  unfold rowD nought
  rw [List.map_replicate]
/-- few rows, at each round -/
structure Small (n w : Nat) (ss : List Stp) (s0 : Int) : Prop where
  rows : ∀ k f, RoundOk n w ss s0 k f → ∀ q : Int, 0 ≤ q → q < n → (at2 f q).length ≤ 100000
  few : ∀ k f, RoundOk n w ss s0 k f → ∀ q : Int, 0 ≤ q → q < n → (sortU (at2 (ss.foldl (moreA f) f) q)).length ≤ 4095
  steps : ss.length ≤ 40
section
variable {n w : Nat} {ss : List Stp} {s0 : Int}
theorem RoundOk.wd (hW : Web n w ss) {k : Nat} {f : List (List (List Int))} (h : RoundOk n w ss s0 k f) : ∀ rs ∈ f, ∀ r ∈ rs, r.length = w := fun rs hrs r hr => by
  obtain ⟨i, hi⟩ := List.mem_iff_getElem?.mp hrs
  have hl : i < n := by rw [← h.len]; exact (List.getElem?_eq_some_iff.mp hi).1
  have e : at2 f (i : Int) = rs := by
    unfold at2
    rw [Int.toNat_natCast, List.getD_eq_getElem?_getD, hi]
    rfl
  have S := h.st (i : Int) (by omega) (by omega)
  exact S.wd r (S.sub r (e ▸ hr))
theorem at2_get {f : List (List (List Int))} (h : f.length = n) {q : Int} (hq : 0 ≤ q) (hqn : q < n) : getI (f.map rowsD) q = .ok (rowsD (at2 f q)) := by
  have hl : q.toNat < f.length := by omega
  rw [getI_map (enc := rowsD) hq hl]
  unfold at2
  rw [List.getD_eq_getElem?_getD, List.getElem?_eq_getElem hl]
  rfl
theorem foldM_width (hW : Web n w ss) {f : List (List (List Int))} (hf : f.length = n) (hw : ∀ rs ∈ f, ∀ r ∈ rs, r.length = w) : ∀ {l : List Stp} {m : List (List (List Int))}, (∀ s ∈ l, s ∈ ss) → m.length = n → (∀ rs ∈ m, ∀ r ∈ rs, r.length = w) → ∀ rs ∈ l.foldl (moreA f) m, ∀ r ∈ rs, r.length = w
  | [], _, _, _, h => h
  | s :: l, m, hl, hm, h => by
    rw [List.foldl_cons]
    refine foldM_width (l := l) (m := moreA f m s) hW hf hw (fun x hx => hl x (List.mem_cons_of_mem _ hx)) (by rw [moreA_len, hm]) fun rs hrs r hr => ?_
    have hs := hW.st s (hl s List.mem_cons_self)
    unfold moreA at hrs
    rcases List.mem_or_eq_of_mem_set hrs with hrs | rfl
    · exact h rs hrs r hr
    · have at_in : ∀ {g : List (List (List Int))} {q : Int}, g.length = n → 0 ≤ q → q < n → at2 g q ∈ g := fun {g q} hg h1 h2 => by
        unfold at2
        have : q.toNat < g.length := by omega
        rw [List.getD_eq_getElem?_getD, List.getElem?_eq_getElem this]
        exact List.getElem_mem this
      rcases List.mem_append.mp hr with hr | hr
      · exact h _ (at_in hm hs.2.2.1 hs.2.2.2.1) r hr
      · obtain ⟨r', hr', rfl⟩ := List.mem_map.mp hr
        have := hw _ (at_in hf hs.1 hs.2.1) r' hr'
        rw [addR_len (by omega), this]
theorem foldM_size (hW : Web n w ss) {f : List (List (List Int))} {B : Nat} (hB : ∀ q : Int, 0 ≤ q → q < n → (at2 f q).length ≤ B) : ∀ {l : List Stp} {m : List (List (List Int))} {C : Nat}, (∀ s ∈ l, s ∈ ss) → m.length = n → (∀ q : Int, 0 ≤ q → q < n → (at2 m q).length ≤ C) → ∀ q : Int, 0 ≤ q → q < n → (at2 (l.foldl (moreA f) m) q).length ≤ C + l.length * B
  | [], m, C, _, _, h => fun q a b => by simpa using h q a b
  | s :: l, m, C, hl, hm, h => fun q a b => by
    have hs := hW.st s (hl s List.mem_cons_self)
    have := foldM_size (C := C + B) hW hB (l := l) (m := moreA f m s) (fun x hx => hl x (List.mem_cons_of_mem _ hx)) (by rw [moreA_len, hm]) (fun q a b => by
      have h1 := h q a b
      unfold at2 moreA at *
      rw [getD_set (by omega)]
      split
      · rename_i e
        rw [List.length_append, List.length_map]
        have h2 := h s.b hs.2.2.1 hs.2.2.2.1
        have h3 := hB s.a hs.1 hs.2.1
        unfold at2
        omega
      · omega) q a b
    rw [List.foldl_cons, List.length_cons, Nat.succ_mul]
    omega
theorem law_stairs_ok (hW : Web n w ss) (hn : 1 ≤ n ∧ n ≤ 100) (hw : 0 < w ∧ w ≤ 1000) (h0 : 0 ≤ s0 ∧ s0 < n) (S : Small n w ss s0) : F_law_stairs [webD n w ss, .int s0] = .ok (.lst ((stairsA n w ss s0).map rowsD)) := by
  refine run_ok ?_
  unfold g_law_stairs
  have st := S.steps
  have e0 : (List.replicate n (D.lst [])).set s0.toNat (.lst [rowD (nought w)]) = (start0 n w s0).map rowsD := by
    unfold start0
    rw [List.map_set, List.map_replicate]
    rfl
  have rp : dRepL (dC (.int 0)) (d2 oIx (dV 0) (dC (.int 1))) = dRepL (dC (.int 0)) (d2 oIx (dV 0) (dC (.int 1))) := rfl
  simp [itR1_ok (j := (n : Int)) (by omega) (by omega), upTo_map]
  rw [lcF_of (enc := fun i : Nat => D.int i) (enc' := fun _ : Nat => D.lst []) (fun _ => true) (fun k => k)]
  · rw [filter_yes]
    simp [dRepL, h0.1, h0.2, show (w : Int) ≤ 16777216 by omega, itR1_ok (j := (n : Int) - 1) (by omega) (by omega), upTo_map]
    have e1 : ((List.range n).map (fun _ => D.lst [])).set s0.toNat (.lst [.tup (List.replicate w (.int 0))]) = (start0 n w s0).map rowsD := by
      rw [← e0, nought_row]
      congr 1
      refine List.ext_getElem (by simp) fun i _ _ => by simp
    rw [e1]
    refine loop_foldI (J := fun k f ρ => ∃ (x3 x4 x5 x6 x7 x8 x9 x10 : Option D), RoundOk n w ss s0 k f ∧ (∃ j, k + j = n - 1 ∧ rounds ss j f = stairsA n w ss s0) ∧ ρ = [some (webD n w ss), some (.int s0), some (.lst (f.map rowsD)), x3, x4, x5, x6, x7, x8, x9, x10]) (fun f _ => rndA ss f) _ 0 (start0 n w s0) _ ⟨none, none, none, none, none, none, none, none, start_ok h0, ⟨n - 1, by omega, rfl⟩, rfl⟩ ?_ ?_
    · rintro i f a ρ hi ha ⟨x3, x4, x5, x6, x7, x8, x9, x10, Ro, ⟨j, hj, ej⟩, rfl⟩
      have hi : i < n - 1 := by simpa using hi
      simp at hj
      obtain ⟨j, rfl⟩ : ∃ j', j = j' + 1 := ⟨j - 1, by omega⟩
      rw [Nat.zero_add] at Ro
      have hwf := Ro.wd hW
      have rowsB := S.rows i f Ro
      simp
      rw [lcF_of (enc := rowsD) (enc' := rowsD) (fun _ => true) (fun rs => rs)]
      · rw [filter_yes]
        simp
        -- the rows that come by one step more
        refine wp_mid (I := fun ρ => ∃ (x5 x6 x7 x8 x9 x10 : Option D), ρ = [some (webD n w ss), some (.int s0), some (.lst (f.map rowsD)), some (.int a), some (.lst ((ss.foldl (moreA f) f).map rowsD)), x5, x6, x7, x8, x9, x10]) ?_ ?_
        · refine loop_foldI (J := fun k (m : List Stp × List (List (List Int))) ρ => ∃ (x5 x6 x7 x8 x9 x10 : Option D), (∀ x ∈ m.1, x ∈ ss) ∧ m.1.length = k ∧ m.2 = m.1.foldl (moreA f) f ∧ ρ = [some (webD n w ss), some (.int s0), some (.lst (f.map rowsD)), some (.int a), some (.lst (m.2.map rowsD)), x5, x6, x7, x8, x9, x10]) (fun m s => (m.1 ++ [s], moreA f m.2 s)) _ 0 ([], f) _ ⟨x5, x6, x7, x8, x9, x10, by simp, rfl, rfl, rfl⟩ ?_ ?_
          · rintro k ⟨done, m⟩ s ρ hk hs ⟨x5, x6, x7, x8, x9, x10, insub, hd, hm, rfl⟩
            dsimp only at insub hd hm
            have hs2 := hW.st s hs
            have ml : m.length = n := by rw [hm, foldM_len, Ro.len]
            have hp := hs2.2.2.2.2.2.1
            have l1 : (at2 m s.b).length ≤ 100000 + done.length * 100000 := by
              rw [hm]
              exact foldM_size hW rowsB insub Ro.len rowsB s.b hs2.2.2.1 hs2.2.2.2.1
            have l2 := rowsB s.a hs2.1 hs2.2.1
            have hdl : done.length ≤ 40 := by omega
            have wf := hwf
            have fa : ∀ r ∈ at2 f s.a, r.length = w := fun r hr => by
              have := Ro.st s.a hs2.1 hs2.2.1
              exact this.wd r (this.sub r hr)
            have oa : oAdd (rowsD (at2 m s.b)) (.lst (((at2 f s.a).map fun r => addR r s.p).map rowD)) = .ok (rowsD (at2 m s.b ++ (at2 f s.a).map fun r => addR r s.p)) := by
              show (if _ then _ else _) = _
              rw [if_pos (by simp; omega)]
              simp
            simp [at2_get Ro.len hs2.1 hs2.2.1, at2_get ml hs2.2.2.1 hs2.2.2.2.1]
            rw [lcF_of (enc := rowD) (enc' := rowD) (fun _ => true) (fun r => addR r s.p)]
            · rw [filter_yes]
              rw [DL.R.bind_ok, oa]
              simp [ml, hs2.2.2.1, hs2.2.2.2.1]
              refine ⟨fun x hx => hx.elim (insub x) fun e => e ▸ hs, by omega, by rw [hm], ?_⟩
              unfold moreA
              rw [List.map_set]
            · intro r hr
              have := fa r hr
              refine ⟨_, rfl, rfl, fun _ => ?_⟩
              simp [law_plus_ok (a := r) (b := s.p) (by omega) (by omega)]
          · rintro ρ ⟨x5, x6, x7, x8, x9, x10, _, _, hm, rfl⟩
            have ef : ∀ (l : List Stp) (d : List Stp) (m : List (List (List Int))), (l.foldl (fun (m : List Stp × List (List (List Int))) s => (m.1 ++ [s], moreA f m.2 s)) (d, m)).2 = l.foldl (moreA f) m := fun l => by
              induction l with
              | nil => intro d m; rfl
              | cons s l ih => intro d m; exact ih _ _
            rw [ef]
            exact ⟨_, _, _, _, _, _, rfl⟩
        · rintro ρ ⟨x5, x6, x7, x8, x9, x10, rfl⟩
          have few := S.few i f Ro
          have wd2 := foldM_width hW Ro.len hwf (l := ss) (m := f) (fun _ h => h) Ro.len hwf
          simp
          rw [lcF_of (enc := rowsD) (enc' := rowsD) (fun _ => true) stairA]
          · rw [filter_yes]
            simp
            refine ⟨by simpa using round_ok hW h0 Ro, ⟨j, by omega, by simpa [rounds] using ej⟩, ?_⟩
            simp [rndA]
          · intro rs hrs
            obtain ⟨q, hq⟩ := List.mem_iff_getElem?.mp hrs
            have ql : q < n := by
              have := (List.getElem?_eq_some_iff.mp hq).1
              rwa [foldM_len, Ro.len] at this
            have e2 : at2 (ss.foldl (moreA f) f) (q : Int) = rs := by
              unfold at2
              rw [Int.toNat_natCast, List.getD_eq_getElem?_getD, hq]
              rfl
            have := few (q : Int) (by omega) (by omega)
            rw [e2] at this
            refine ⟨_, rfl, rfl, fun _ => ?_⟩
            simp [stair_ok (rs := rs) (wd2 rs hrs) hw.1 hw.2 this]
      · intro rs hrs
        exact ⟨_, rfl, rfl, fun _ => rfl⟩
    · rintro ρ ⟨x3, x4, x5, x6, x7, x8, x9, x10, Ro, ⟨j, hj, ej⟩, rfl⟩
      simp at hj
      have : j = 0 := by omega
      subst this
      simp
      rw [← ej]
      rfl
  · intro k hk
    exact ⟨_, rfl, rfl, fun _ => rfl⟩
end
end DL

set_option Elab.async false
set_option linter.all false
set_option maxRecDepth 100000
set_option maxHeartbeats 4000000
set_option autoImplicit false
/-! W9: how many sums a round has (plain). -/
namespace DL
/-- ways that leave no place twice, by the places left -/
inductive DWay (ss : List Stp) (w : Nat) (s0 : Int) : List Int → Int → List Int → Prop
  | nil : DWay ss w s0 [] s0 (nought w)
  | snoc {us : List Int} {q : Int} {r : List Int} {st : Stp} : DWay ss w s0 us q r → q ∉ us → st ∈ ss → st.a = q → DWay ss w s0 (q :: us) st.b (addR r st.p)
/-- the rows of all ways on to g -/
def extD (ss : List Stp) (g : Int) : Nat → List Int → Int → List Int → List (List Int)
  | 0, _, c, r => if c = g then [r] else []
  | k + 1, us, c, r => (if c = g then [r] else []) ++ (if c ∉ us then (ss.filter fun st => decide (st.a = c)).flatMap fun st => extD ss g k (c :: us) st.b (addR r st.p) else [])
theorem extD_self {ss : List Stp} {g : Int} {k : Nat} {us : List Int} {r : List Int} : r ∈ extD ss g k us g r := by
  cases k <;> simp [extD]
def freeQ (ss : List Stp) (ps : List Int) (seen : List Int) : Nat := prodL ((ps.filter fun v => decide (v ∉ seen)).map fun v => max 1 (deg ss v))
theorem freeQ_pos {ss : List Stp} {ps seen : List Int} : 0 < freeQ ss ps seen := prodL_pos fun x hx => by
  obtain ⟨v, _, rfl⟩ := List.mem_map.mp hx
  omega
theorem freeQ_out {ss : List Stp} {ps seen : List Int} {v : Int} (h : v ∉ ps) : freeQ ss ps (v :: seen) = freeQ ss ps seen := by
  unfold freeQ
  congr 2
  refine List.filter_congr fun x hx => ?_
  have : x ≠ v := fun z => h (z ▸ hx)
  simp [this]
theorem freeQ_take {ss : List Stp} {v : Int} {seen : List Int} (hs : v ∉ seen) : ∀ {ps : List Int}, ps.Nodup → v ∈ ps → freeQ ss ps seen = max 1 (deg ss v) * freeQ ss ps (v :: seen)
  | [], _, h => by cases h
  | x :: ps, hn, h => by
    have hd := List.nodup_cons.mp hn
    by_cases e : x = v
    · subst e
      have h1 : freeQ ss (x :: ps) seen = max 1 (deg ss x) * freeQ ss ps seen := by
        unfold freeQ
        rw [List.filter_cons_of_pos (by simpa using hs)]
        rfl
      have h2 : freeQ ss (x :: ps) (x :: seen) = freeQ ss ps (x :: seen) := by
        unfold freeQ
        rw [List.filter_cons_of_neg (by simp)]
      rw [h1, h2, freeQ_out hd.1]
    · have hv : v ∈ ps := (List.mem_cons.mp h).resolve_left (Ne.symm e)
      have ih := freeQ_take (ss := ss) hs hd.2 hv
      by_cases z : x ∈ seen
      · have h1 : freeQ ss (x :: ps) seen = freeQ ss ps seen := by
          unfold freeQ
          rw [List.filter_cons_of_neg (by simpa using z)]
        have h2 : freeQ ss (x :: ps) (v :: seen) = freeQ ss ps (v :: seen) := by
          unfold freeQ
          rw [List.filter_cons_of_neg (by simp [z])]
        rw [h1, h2, ih]
      · have h1 : freeQ ss (x :: ps) seen = max 1 (deg ss x) * freeQ ss ps seen := by
          unfold freeQ
          rw [List.filter_cons_of_pos (by simpa using z)]
          rfl
        have h2 : freeQ ss (x :: ps) (v :: seen) = max 1 (deg ss x) * freeQ ss ps (v :: seen) := by
          unfold freeQ
          rw [List.filter_cons_of_pos (by simp [z, e])]
          rfl
        rw [h1, h2, ih, Nat.mul_left_comm]
section
variable {n w : Nat} {ss : List Stp} {s0 : Int}
theorem DWay.ext {us : List Int} {c : Int} {r : List Int} (h : DWay ss w s0 us c r) (g : Int) : ∀ k x, x ∈ extD ss g k us c r → x ∈ extD ss g (k + us.length) [] s0 (nought w) := by
  induction h with
  | nil => exact fun k x hx => hx
  | @snoc us q r st h1 hn hs ha ih =>
    intro k x hx
    have := ih (k + 1) x (by
      unfold extD
      rw [if_pos hn]
      exact List.mem_append_right _ (List.mem_flatMap.mpr ⟨st, List.mem_filter.mpr ⟨hs, decide_eq_true ha⟩, hx⟩))
    rw [List.length_cons, show k + (us.length + 1) = k + 1 + us.length by omega]
    exact this
theorem DWay.left (hW : Web n w ss) (h0 : 0 ≤ s0 ∧ s0 < n) {us : List Int} {c : Int} {r : List Int} (h : DWay ss w s0 us c r) : us.Nodup ∧ (∀ x ∈ us, 0 ≤ x ∧ x < n) ∧ (0 ≤ c ∧ c < n) ∧ r.length = w := by
  induction h with
  | nil => exact ⟨by simp, by simp, h0, nought_len⟩
  | snoc _ hn hs _ ih =>
    obtain ⟨a, b, c, d⟩ := ih
    have := hW.st _ hs
    refine ⟨List.nodup_cons.mpr ⟨hn, a⟩, fun x hx => ?_, ⟨this.2.2.1, this.2.2.2.1⟩, by rw [addR_len (by omega), d]⟩
    rcases List.mem_cons.mp hx with rfl | hx
    · exact c
    · exact b x hx
theorem DWay.mem (hW : Web n w ss) (h0 : 0 ≤ s0 ∧ s0 < n) {us : List Int} {c : Int} {r : List Int} (h : DWay ss w s0 us c r) : r ∈ extD ss c n [] s0 (nought w) := by
  obtain ⟨a, b, _⟩ := h.left hW h0
  have hn := ints_len a b
  have := h.ext c (n - us.length) r extD_self
  rwa [show n - us.length + us.length = n by omega] at this
theorem extD_len1 {ps : List Int} {g : Int} (hp : ps.Nodup) (hin : ∀ st ∈ ss, st.b ∈ ps) : ∀ (k : Nat) (us : List Int) (c : Int) (r : List Int), c ∈ ps → g ∈ us → (extD ss g k us c r).length ≤ freeQ ss ps us
  | 0, us, c, r, _, _ => by
    have := freeQ_pos (ss := ss) (ps := ps) (seen := us)
    unfold extD
    split <;> simp <;> omega
  | k + 1, us, c, r, hc, hg => by
    have pos := freeQ_pos (ss := ss) (ps := ps) (seen := us)
    unfold extD
    rw [List.length_append]
    by_cases e : c = g
    · subst e
      rw [if_pos rfl, if_neg (fun z => z hg)]
      simp
      omega
    · rw [if_neg e]
      by_cases z : c ∉ us
      · rw [if_pos z]
        have h1 := flat_len (l := ss.filter fun st => decide (st.a = c)) (f := fun st => extD ss g k (c :: us) st.b (addR r st.p)) (b := freeQ ss ps (c :: us)) fun st hst => extD_len1 hp hin k (c :: us) st.b _ (hin st (List.mem_filter.mp hst).1) (List.mem_cons_of_mem _ hg)
        have h2 : (ss.filter fun st => decide (st.a = c)).length ≤ max 1 (deg ss c) := Nat.le_max_right _ _
        have h3 := Nat.mul_le_mul_right (freeQ ss ps (c :: us)) h2
        rw [← freeQ_take z hp hc] at h3
        rw [List.length_nil]
        omega
      · rw [if_neg z]
        simp
theorem extD_len2 {ps : List Int} {g : Int} (hp : ps.Nodup) (hin : ∀ st ∈ ss, st.b ∈ ps) : ∀ (k : Nat) (us : List Int) (c : Int) (r : List Int), c ∈ ps → g ∉ us → (extD ss g k us c r).length ≤ 2 * freeQ ss ps us
  | 0, us, c, r, _, _ => by
    have := freeQ_pos (ss := ss) (ps := ps) (seen := us)
    unfold extD
    split <;> simp <;> omega
  | k + 1, us, c, r, hc, hg => by
    have pos := freeQ_pos (ss := ss) (ps := ps) (seen := us)
    unfold extD
    rw [List.length_append]
    have h2 : (ss.filter fun st => decide (st.a = c)).length ≤ max 1 (deg ss c) := Nat.le_max_right _ _
    by_cases e : c = g
    · subst e
      rw [if_pos rfl, if_pos hg]
      have h1 := flat_len (l := ss.filter fun st => decide (st.a = c)) (f := fun st => extD ss c k (c :: us) st.b (addR r st.p)) (b := freeQ ss ps (c :: us)) fun st hst => extD_len1 hp hin k (c :: us) st.b _ (hin st (List.mem_filter.mp hst).1) List.mem_cons_self
      have h3 := Nat.mul_le_mul_right (freeQ ss ps (c :: us)) h2
      rw [← freeQ_take hg hp hc] at h3
      rw [List.length_singleton]
      omega
    · rw [if_neg e]
      by_cases z : c ∉ us
      · rw [if_pos z]
        have h1 := flat_len (l := ss.filter fun st => decide (st.a = c)) (f := fun st => extD ss g k (c :: us) st.b (addR r st.p)) (b := 2 * freeQ ss ps (c :: us)) fun st hst => extD_len2 hp hin k (c :: us) st.b _ (hin st (List.mem_filter.mp hst).1) (fun y => (List.mem_cons.mp y).elim (fun y => e y.symm) hg)
        have h3 := Nat.mul_le_mul_right (2 * freeQ ss ps (c :: us)) h2
        rw [Nat.mul_left_comm (max 1 (deg ss c)), ← freeQ_take z hp hc] at h3
        rw [List.length_nil]
        omega
      · rw [if_neg z]
        simp
theorem SWay.dway (hW : Web n w ss) {ns r : List Int} (h : SWay ss w s0 ns r) : ∃ q l, ns = q :: l ∧ DWay ss w s0 l q r ∧ q ∉ l := by
  induction h with
  | nil => exact ⟨s0, [], rfl, .nil, by simp⟩
  | @snoc q ns r st _ hs ha hn ih =>
    obtain ⟨q', l, e, d, hq⟩ := ih
    cases e
    exact ⟨st.b, q :: ns, rfl, .snoc d hq hs ha, hn⟩
/-- a stair's row is that of a way that comes by no place twice -/
theorem stair_sway (hW : Web n w ss) {k : Nat} {q : Int} {L : List (List Int)} (h : IsSt w (RchK ss w s0 k q) L) {r : List Int} (hr : r ∈ L) : ∃ l, SWay ss w s0 (q :: l) r := by
  obtain ⟨ws, hw, hl⟩ := h.sub r hr
  obtain ⟨l, r', k1, k2, k3⟩ := hw.simple hW
  obtain ⟨q', l', ws', e, hw', hl'⟩ := k1.way
  cases e
  obtain ⟨o, ho, hc⟩ := h.all r' ⟨ws', hw', by omega⟩
  have l1 := h.wd o (h.sub o ho)
  have l2 := k1.len hW
  have l3 := hw.len hW
  have e := pw_same h.pw ho hr (by omega) (cov_trans (by omega) (by omega) hc k2)
  subst e
  have e := cov_anti (by omega) hc k2
  subst e
  exact ⟨l, k1⟩
/-- all sums of a round leave no place twice -/
theorem sums_dway (hW : Web n w ss) {k : Nat} {f : List (List (List Int))} (h : RoundOk n w ss s0 k f) {q : Int} (hq : 0 ≤ q) (hqn : q < n) {r : List Int} (hr : r ∈ at2 (ss.foldl (moreA f) f) q) : ∃ us, DWay ss w s0 us q r := by
  rw [foldM_mem hW (fun _ h => h) h.len hq] at hr
  rcases hr with hr | ⟨st, h1, rfl, r', h3, rfl⟩
  · obtain ⟨l, k1⟩ := stair_sway hW (h.st q hq hqn) hr
    obtain ⟨q', l', e, d, _⟩ := k1.dway hW
    cases e
    exact ⟨l, d⟩
  · have hs := hW.st st h1
    obtain ⟨l, k1⟩ := stair_sway hW (h.st st.a hs.1 hs.2.1) h3
    obtain ⟨q', l', e, d, hn⟩ := k1.dway hW
    cases e
    exact ⟨st.a :: l, .snoc d hn h1 rfl⟩
theorem stair_dway (hW : Web n w ss) {k : Nat} {f : List (List (List Int))} (h : RoundOk n w ss s0 k f) {q : Int} (hq : 0 ≤ q) (hqn : q < n) {r : List Int} (hr : r ∈ at2 f q) : ∃ us, DWay ss w s0 us q r := by
  obtain ⟨l, k1⟩ := stair_sway hW (h.st q hq hqn) hr
  obtain ⟨q', l', e, d, _⟩ := k1.dway hW
  cases e
  exact ⟨l, d⟩
theorem cube (d : Nat) : (max 1 d) ^ 3 ≤ 3 ^ d := by
  induction d with
  | zero => decide
  | succ d ih =>
    match d, ih with
    | 0, _ => decide
    | 1, _ => decide
    | 2, _ => decide
    | d + 3, ih =>
      rw [Nat.max_eq_right (by omega)] at ih ⊢
      have : (d + 3 + 1) ^ 3 ≤ (d + 3) ^ 3 * 3 := by
        have e1 : (d + 3 + 1) ^ 3 = d * d * d + 12 * (d * d) + 48 * d + 64 := by grind
        have e2 : (d + 3) ^ 3 * 3 = 3 * (d * d * d) + 27 * (d * d) + 81 * d + 81 := by grind
        rw [e1, e2]
        omega
      rw [Nat.pow_succ 3]
      exact Nat.le_trans this (Nat.mul_le_mul_right 3 ih)
theorem prod_cube {f : Nat → Nat} : ∀ (l : List Nat), (prodL (l.map fun v => max 1 (f v))) ^ 3 ≤ 3 ^ (l.map f).sum
  | [] => by simp [prodL]
  | x :: l => by
    rw [List.map_cons, List.map_cons, List.sum_cons, Nat.pow_add]
    show (max 1 (f x) * prodL _) ^ 3 ≤ _
    rw [Nat.mul_pow]
    exact Nat.mul_le_mul (cube _) (prod_cube l)
theorem deg_sum0 (hW : Web n w ss) : ((List.range n).map fun (v : Nat) => deg ss (v : Int)).sum = ss.length := by
  have h := deg_sum (n := n) (ss := ss) fun s hs => ⟨(hW.st s hs).1, (hW.st s hs).2.1⟩
  have : ∀ m : Nat, ((List.range m).map fun (v : Nat) => 1 + deg ss (v : Int)).sum = m + ((List.range m).map fun (v : Nat) => deg ss (v : Int)).sum := fun m => by
    induction m with
    | zero => rfl
    | succ m ih =>
      rw [List.range_succ, List.map_append, List.map_append, List.sum_append, List.sum_append, ih]
      simp
      omega
  rw [this] at h
  omega
/-- at most 3032 unlike ones -/
theorem few_of_steps (hW : Web n w ss) (h0 : 0 ≤ s0 ∧ s0 < n) (hs : ss.length ≤ 20) {q : Int} {L : List (List Int)} (hn : L.Nodup) (h : ∀ r ∈ L, ∃ us, DWay ss w s0 us q r) : L.length ≤ 3032 := by
  have h1 := sub_len hn (D := extD ss q n [] s0 (nought w)) fun r hr => by
    obtain ⟨us, d⟩ := h r hr
    exact d.mem hW h0
  have ps : ((List.range n).map fun (v : Nat) => (v : Int)).Nodup := List.pairwise_map.mpr (List.nodup_range.imp fun {a b} z e => z (by exact_mod_cast e))
  have hin : ∀ v : Int, 0 ≤ v ∧ v < n → v ∈ (List.range n).map fun (v : Nat) => (v : Int) := fun v hv => List.mem_map.mpr ⟨v.toNat, List.mem_range.mpr (by omega), by omega⟩
  have h2 := extD_len2 (g := q) ps (fun st hs => hin _ ⟨(hW.st st hs).2.2.1, (hW.st st hs).2.2.2.1⟩) n [] s0 (nought w) (hin s0 h0) (by simp)
  have e : freeQ ss ((List.range n).map fun (v : Nat) => (v : Int)) [] = prodL ((List.range n).map fun (v : Nat) => max 1 (deg ss (v : Int))) := by
    unfold freeQ
    rw [List.filter_eq_self.mpr (by simp), List.map_map]
    rfl
  have h3 := prod_cube (f := fun (v : Nat) => deg ss (v : Int)) (List.range n)
  rw [deg_sum0 hW] at h3
  have h4 : 3 ^ ss.length ≤ 3 ^ 20 := Nat.pow_le_pow_right (by decide) hs
  rw [e] at h2
  generalize prodL ((List.range n).map fun (v : Nat) => max 1 (deg ss (v : Int))) = P at h2 h3
  have h5 : P ≤ 1516 := by
    by_cases c : P ≤ 1516
    · exact c
    · have : 1517 ^ 3 ≤ P ^ 3 := Nat.pow_le_pow_left (by omega) 3
      have : (1517 : Nat) ^ 3 ≤ 3 ^ 20 := by omega
      exact absurd this (by decide)
  omega
end
end DL

set_option Elab.async false
set_option linter.all false
set_option maxRecDepth 100000
set_option maxHeartbeats 4000000
set_option autoImplicit false
/-! W10: sums of small prices: no more than 4095; Small for all drawn webs (plain). -/
namespace DL
section
variable {n w : Nat} {ss : List Stp} {s0 : Int}
theorem addR_le : ∀ {a b : List Int} {x y : Int}, (∀ z ∈ a, 0 ≤ z ∧ z ≤ x) → (∀ z ∈ b, 0 ≤ z ∧ z ≤ y) → ∀ z ∈ addR a b, 0 ≤ z ∧ z ≤ x + y
  | [], _, _, _, _, _, z, h => by cases h
  | _ :: _, [], _, _, _, _, z, h => by cases h
  | u :: a, v :: b, x, y, ha, hb, z, h => by
    rcases List.mem_cons.mp h with rfl | h
    · have := ha u List.mem_cons_self
      have := hb v List.mem_cons_self
      show 0 ≤ u + v ∧ u + v ≤ x + y
      omega
    · exact addR_le (fun y hy => ha y (List.mem_cons_of_mem _ hy)) (fun y hy => hb y (List.mem_cons_of_mem _ hy)) z h
theorem DWay.le (hp : ∀ s ∈ ss, ∀ x ∈ s.p, 0 ≤ x ∧ x ≤ 3) {us : List Int} {c : Int} {r : List Int} (h : DWay ss w s0 us c r) : ∀ x ∈ r, 0 ≤ x ∧ x ≤ 3 * us.length := by
  induction h with
  | nil =>
    intro x hx
    rw [List.eq_of_mem_replicate hx]
    simp
  | @snoc us q r st _ hn hs _ ih =>
    intro x hx
    have := addR_le ih (hp st hs) x hx
    rw [List.length_cons]
    omega
theorem SWay.le (hW : Web n w ss) (h0 : 0 ≤ s0 ∧ s0 < n) (hp : ∀ s ∈ ss, ∀ x ∈ s.p, 0 ≤ x ∧ x ≤ 3) {q : Int} {l r : List Int} (h : SWay ss w s0 (q :: l) r) : ∀ x ∈ r, 0 ≤ x ∧ x + 3 ≤ 3 * n := by
  obtain ⟨q', l', e, d, hn⟩ := h.dway hW
  cases e
  have hl := ints_len h.nodup (h.range hW h0)
  rw [List.length_cons] at hl
  intro x hx
  have := d.le hp x hx
  omega
/-- all rows with sides below m -/
def box (m : Nat) : Nat → List (List Int)
  | 0 => [[]]
  | w + 1 => (List.range m).flatMap fun (x : Nat) => (box m w).map fun r => (x : Int) :: r
theorem flat_len2 {α β : Type} {f : α → List β} {b : Nat} : ∀ {l : List α}, (∀ x ∈ l, (f x).length = b) → (l.flatMap f).length = l.length * b
  | [], _ => by simp
  | x :: l, h => by
    rw [List.flatMap_cons, List.length_append, List.length_cons, Nat.succ_mul]
    have := h x List.mem_cons_self
    have := flat_len2 (l := l) fun y hy => h y (List.mem_cons_of_mem _ hy)
    omega
theorem box_len {m : Nat} : ∀ {w : Nat}, (box m w).length = m ^ w
  | 0 => rfl
  | w + 1 => by
    unfold box
    rw [flat_len2 (b := m ^ w) fun x _ => by rw [List.length_map, box_len], List.length_range, Nat.pow_succ, Nat.mul_comm]
theorem box_mem {m : Nat} : ∀ {w : Nat} {r : List Int}, r.length = w → (∀ x ∈ r, 0 ≤ x ∧ x < m) → r ∈ box m w
  | 0, r, h, _ => by
    rw [List.length_eq_zero_iff.mp h]
    exact List.mem_singleton_self _
  | w + 1, [], h, _ => by cases h
  | w + 1, x :: r, h, hx => by
    have h1 := hx x List.mem_cons_self
    have ih := box_mem (m := m) (w := w) (r := r) (by simpa using h) fun y hy => hx y (List.mem_cons_of_mem _ hy)
    exact List.mem_flatMap.mpr ⟨x.toNat, List.mem_range.mpr (by omega), List.mem_map.mpr ⟨r, ih, by rw [Int.toNat_of_nonneg h1.1]⟩⟩
theorem full_of_len {L D : List (List Int)} (hn : L.Nodup) (hs : ∀ r ∈ L, r ∈ D) (hl : D.length ≤ L.length) {r : List Int} (hr : r ∈ D) : r ∈ L := by
  by_cases c : r ∈ L
  · exact c
  · have h1 := sub_len hn (D := D.erase r) fun x hx => (List.mem_erase_of_ne fun (e : x = r) => c (e ▸ hx)).mpr (hs x hx)
    have h2 := List.length_erase_of_mem hr
    have h3 : 0 < D.length := List.length_pos_of_mem hr
    omega
/-- where a sum comes from -/
theorem sum_from (hW : Web n w ss) (h0 : 0 ≤ s0 ∧ s0 < n) (hp : ∀ s ∈ ss, ∀ x ∈ s.p, 0 ≤ x ∧ x ≤ 3) (hn5 : n ≤ 5) (hw3 : w = 3) {k : Nat} {f : List (List (List Int))} (h : RoundOk n w ss s0 k f) {q : Int} (hq : 0 ≤ q) (hqn : q < n) {a b c : Int} (hr : [a, b, c] ∈ at2 (ss.foldl (moreA f) f) q) :
    ([a, b, c] ∈ at2 f q ∧ a ≤ 12 ∧ b ≤ 12 ∧ c ≤ 12) ∨ ∃ (e x y z : Int), e ≠ q ∧ 0 ≤ e ∧ e < n ∧ [x, y, z] ∈ at2 f e ∧ 0 ≤ x ∧ x ≤ 12 ∧ 0 ≤ y ∧ y ≤ 12 ∧ 0 ≤ z ∧ z ≤ 12 ∧ x ≤ a ∧ a ≤ x + 3 ∧ y ≤ b ∧ b ≤ y + 3 ∧ z ≤ c ∧ c ≤ z + 3 := by
  rw [foldM_mem hW (fun _ h => h) h.len hq] at hr
  rcases hr with hr | ⟨st, h1, rfl, r', h3, e⟩
  · obtain ⟨l, k1⟩ := stair_sway hW (h.st q hq hqn) hr
    have := k1.le hW h0 hp
    have h1 := this a (by simp)
    have h2 := this b (by simp)
    have h3 := this c (by simp)
    exact .inl ⟨hr, by omega, by omega, by omega⟩
  · have hs := hW.st st h1
    obtain ⟨l, k1⟩ := stair_sway hW (h.st st.a hs.1 hs.2.1) h3
    have hb := k1.le hW h0 hp
    have hl := k1.len hW
    have hpl := hs.2.2.2.2.2.1
    have hpp := hp st h1
    subst hw3
    obtain ⟨x, y, z, rfl⟩ : ∃ x y z, r' = [x, y, z] := by
      match r', hl with
      | [x, y, z], _ => exact ⟨x, y, z, rfl⟩
    generalize hpe : st.p = p at *
    obtain ⟨u, v, t, rfl⟩ : ∃ x y z, p = [x, y, z] := by
      match p, hpl with
      | [x, y, z], _ => exact ⟨x, y, z, rfl⟩
    have e : [x + u, y + v, z + t] = [a, b, c] := e
    simp only [List.cons.injEq, and_true] at e
    have b1 := hb x (by simp)
    have b2 := hb y (by simp)
    have b3 := hb z (by simp)
    have c1 := hpp u (by simp)
    have c2 := hpp v (by simp)
    have c3 := hpp t (by simp)
    exact .inr ⟨st.a, x, y, z, hs.2.2.2.2.1, hs.1, hs.2.1, h3, by omega, by omega, by omega, by omega, by omega, by omega, by omega, by omega, by omega, by omega, by omega, by omega⟩
theorem cov3 {x y z x' y' z' : Int} (h1 : x ≤ x') (h2 : y ≤ y') (h3 : z ≤ z') : cov [x, y, z] [x', y', z'] = true := by
  rw [cov_cons, cov_cons, cov_cons]
  simp [h1, h2, h3, cov_nil]
theorem box_miss (hW : Web n w ss) (h0 : 0 ≤ s0 ∧ s0 < n) (hp : ∀ s ∈ ss, ∀ x ∈ s.p, 0 ≤ x ∧ x ≤ 3) (hn5 : n ≤ 5) (hw3 : w = 3) {k : Nat} {f : List (List (List Int))} (h : RoundOk n w ss s0 k f) {q : Int} (hq : 0 ≤ q) (hqn : q < n) : ¬ ∀ r ∈ box 16 3, r ∈ at2 (ss.foldl (moreA f) f) q := by
  intro all
  have pt : ∀ a b c : Int, 0 ≤ a → a < 16 → 0 ≤ b → b < 16 → 0 ≤ c → c < 16 → ([a, b, c] ∈ at2 f q ∧ a ≤ 12 ∧ b ≤ 12 ∧ c ≤ 12) ∨ ∃ (e x y z : Int), e ≠ q ∧ 0 ≤ e ∧ e < n ∧ [x, y, z] ∈ at2 f e ∧ 0 ≤ x ∧ x ≤ 12 ∧ 0 ≤ y ∧ y ≤ 12 ∧ 0 ≤ z ∧ z ≤ 12 ∧ x ≤ a ∧ a ≤ x + 3 ∧ y ≤ b ∧ b ≤ y + 3 ∧ z ≤ c ∧ c ≤ z + 3 := fun a b c h1 h2 h3 h4 h5 h6 => by
    refine sum_from hW h0 hp hn5 hw3 h hq hqn (all _ (box_mem rfl fun x hx => ?_))
    simp only [List.mem_cons, List.not_mem_nil, or_false] at hx
    rcases hx with rfl | rfl | rfl <;> omega
  have same : ∀ {e x y z x' y' z' : Int}, 0 ≤ e → e < n → [x, y, z] ∈ at2 f e → [x', y', z'] ∈ at2 f e → x ≤ x' → y ≤ y' → z ≤ z' → x = x' ∧ y = y' ∧ z = z' := fun {e x y z x' y' z'} he hen h1 h2 a b c => by
    have := pw_same (h.st e he hen).pw h1 h2 rfl (cov3 a b c)
    simpa using this
  have far : ∀ a b c : Int, 0 ≤ a → a < 16 → 0 ≤ b → b < 16 → 0 ≤ c → c < 16 → 12 < a → ∃ (e x y z : Int), 0 ≤ e ∧ e < n ∧ [x, y, z] ∈ at2 f e ∧ 0 ≤ x ∧ x ≤ 12 ∧ 0 ≤ y ∧ y ≤ 12 ∧ 0 ≤ z ∧ z ≤ 12 ∧ x ≤ a ∧ a ≤ x + 3 ∧ y ≤ b ∧ b ≤ y + 3 ∧ z ≤ c ∧ c ≤ z + 3 := fun a b c h1 h2 h3 h4 h5 h6 h7 => by
    rcases pt a b c h1 h2 h3 h4 h5 h6 with ⟨_, z, _⟩ | ⟨e, x, y, z, _, k⟩
    · omega
    · exact ⟨e, x, y, z, k⟩
  have near : ∀ t : Int, 0 ≤ t → t ≤ 9 → ∃ (e x : Int), 0 ≤ e ∧ e < n ∧ [x, 0, 0] ∈ at2 f e ∧ x ≤ t ∧ t ≤ x + 3 := fun t h1 h2 => by
    rcases pt t 0 0 h1 (by omega) (by omega) (by omega) (by omega) (by omega) with ⟨hz, _⟩ | ⟨e, x, y, z, _, k1, k2, k3, k4⟩
    · exact ⟨q, t, hq, hqn, hz, by omega, by omega⟩
    · have hy : y = 0 := by omega
      have hz : z = 0 := by omega
      subst hy hz
      exact ⟨e, x, k1, k2, k3, by omega, by omega⟩
  obtain ⟨a, xa, ya, za, a1, a2, a3, a4⟩ := far 15 15 15 (by omega) (by omega) (by omega) (by omega) (by omega) (by omega) (by omega)
  obtain ⟨d, xd, yd, zd, d1, d2, d3, d4⟩ := far 15 15 0 (by omega) (by omega) (by omega) (by omega) (by omega) (by omega) (by omega)
  obtain ⟨b, xb, yb, zb, b1, b2, b3, b4⟩ := far 15 0 0 (by omega) (by omega) (by omega) (by omega) (by omega) (by omega) (by omega)
  obtain ⟨e1, x1, e11, e12, e13, e14, e15⟩ := near 1 (by omega) (by omega)
  obtain ⟨e5, x5, e51, e52, e53, e54, e55⟩ := near 5 (by omega) (by omega)
  obtain ⟨e9, x9, e91, e92, e93, e94, e95⟩ := near 9 (by omega) (by omega)
  have nad : a ≠ d := fun e => by
    subst e
    have := same a1 a2 d3 a3 (by omega) (by omega) (by omega)
    omega
  have nab : a ≠ b := fun e => by
    subst e
    have := same a1 a2 b3 a3 (by omega) (by omega) (by omega)
    omega
  have ndb : d ≠ b := fun e => by
    subst e
    have := same d1 d2 b3 d3 (by omega) (by omega) (by omega)
    omega
  have na : ∀ {e x : Int}, 0 ≤ e → e < n → [x, 0, 0] ∈ at2 f e → x ≤ 9 → a ≠ e ∧ d ≠ e ∧ b ≠ e := fun {e x} g1 g2 g3 g4 => ⟨fun c => by
    subst c
    have := same a1 a2 g3 a3 (by omega) (by omega) (by omega)
    omega, fun c => by
    subst c
    have := same d1 d2 g3 d3 (by omega) (by omega) (by omega)
    omega, fun c => by
    subst c
    have := same b1 b2 g3 b3 (by omega) (by omega) (by omega)
    omega⟩
  have m1 := na e11 e12 e13 (by omega)
  have m5 := na e51 e52 e53 (by omega)
  have m9 := na e91 e92 e93 (by omega)
  have n15 : e1 ≠ e5 := fun e => by
    subst e
    have := same e11 e12 e13 e53 (by omega) (by omega) (by omega)
    omega
  have n19 : e1 ≠ e9 := fun e => by
    subst e
    have := same e11 e12 e13 e93 (by omega) (by omega) (by omega)
    omega
  have n59 : e5 ≠ e9 := fun e => by
    subst e
    have := same e51 e52 e53 e93 (by omega) (by omega) (by omega)
    omega
  have := ints_len (n := n) (l := [a, d, b, e1, e5, e9]) (by
    simp [nad, nab, ndb, m1, m5, m9, n15, n19, n59]) (fun x hx => by
    simp only [List.mem_cons, List.not_mem_nil, or_false] at hx
    rcases hx with rfl | rfl | rfl | rfl | rfl | rfl <;> omega)
  simp at this
  omega
/-- what is drawn has few rows -/
theorem small_of (hW : Web n w ss) (hw : w = 2 ∨ w = 3) (hl : ss.length ≤ 40) (h0 : 0 ≤ s0 ∧ s0 < n) (hm : ss.length ≤ 20 ∨ (n ≤ 5 ∧ ∀ s ∈ ss, ∀ x ∈ s.p, 0 ≤ x ∧ x ≤ 3)) : Small n w ss s0 := by
  have bnd : ∀ k f, RoundOk n w ss s0 k f → ∀ q : Int, 0 ≤ q → q < n → ∀ L : List (List Int), L.Nodup → (∀ r ∈ L, ∃ us, DWay ss w s0 us q r) → L.length ≤ 4096 := fun k f Ro q hq hqn L hn hd => by
    rcases hm with hm | ⟨hn5, hp⟩
    · have := few_of_steps hW h0 hm hn hd
      omega
    · have := sub_len hn (D := box 16 w) fun r hr => by
        obtain ⟨us, d⟩ := hd r hr
        obtain ⟨u1, u2, _, u3⟩ := d.left hW h0
        have := ints_len u1 u2
        refine box_mem u3 fun x hx => ?_
        have := d.le hp x hx
        omega
      rw [box_len] at this
      rcases hw with rfl | rfl
      · exact Nat.le_trans this (by decide)
      · exact Nat.le_trans this (by decide)
  have nd : ∀ L : List (List Int), L.Pairwise (fun a b => a < b ∧ cov a b = false) → L.Nodup := fun L h => h.imp fun {a b} z (e : a = b) => List.lt_irrefl b (e ▸ z.1)
  refine ⟨fun k f Ro q hq hqn => ?_, fun k f Ro q hq hqn => ?_, hl⟩
  · have := bnd k f Ro q hq hqn (at2 f q) (nd _ (Ro.st q hq hqn).pw) fun r hr => stair_dway hW Ro hq hqn hr
    omega
  · have ns : (sortU (at2 (ss.foldl (moreA f) f) q)).Nodup := sortU_asc.imp fun {a b} z (e : a = b) => List.lt_irrefl b (e ▸ z)
    have hd : ∀ r ∈ sortU (at2 (ss.foldl (moreA f) f) q), ∃ us, DWay ss w s0 us q r := fun r hr => sums_dway hW Ro hq hqn (sortU_mem.mp hr)
    have b1 := bnd k f Ro q hq hqn _ ns hd
    rcases hm with hm | ⟨hn5, hp⟩
    · have := few_of_steps hW h0 hm ns hd
      omega
    · by_cases c : (sortU (at2 (ss.foldl (moreA f) f) q)).length ≤ 4095
      · exact c
      · have inb : ∀ r ∈ sortU (at2 (ss.foldl (moreA f) f) q), r ∈ box 16 w := fun r hr => by
          obtain ⟨us, d⟩ := hd r hr
          obtain ⟨u1, u2, _, u3⟩ := d.left hW h0
          have := ints_len u1 u2
          refine box_mem u3 fun x hx => ?_
          have := d.le hp x hx
          omega
        have sl := sub_len ns inb
        rw [box_len] at sl
        rcases hw with hw | hw
        · subst hw
          have : (16 : Nat) ^ 2 = 256 := by decide
          omega
        · subst hw
          refine absurd ?_ (box_miss hW h0 hp hn5 rfl Ro hq hqn)
          intro r hr
          refine sortU_mem.mp (full_of_len ns inb ?_ hr)
          rw [box_len]
          have : (16 : Nat) ^ 3 = 4096 := by decide
          omega
end
end DL

set_option Elab.async false
set_option linter.all false
set_option maxRecDepth 100000
set_option maxHeartbeats 4000000
set_option autoImplicit false
/-! P2wb: a web as most laws draw it. -/
namespace DL
open PySem
theorem priceb_ex {n kind : Int} (h : 0 ≤ n) (h' : n < 2147483648) : ∃ x : Int, F_law_price_v2 [.int n, .int kind] = .ok (.int x) ∧ 0 ≤ x ∧ x ≤ 10000000000000000000000000000000000000000 := by
  have z : ∃ d, F_law_price_v2 [.int n, .int kind] = .ok d ∧ ∃ x : Int, d = .int x ∧ 0 ≤ x ∧ x ≤ 10000000000000000000000000000000000000000 := by
    refine run_ex ?_
    unfold g_law_price_v2
    simp
    by_cases h1 : kind = 1
    · simp [h1]
      omega
    · simp [h1]
      by_cases h2 : kind = 2
      · simp [h2, oMul_ok (i := n % 1000) (j := 1000000000000000000000000000000000000) ⟨by omega, by omega⟩ ⟨by decide, by decide⟩]
        omega
      · simp [h2]
        obtain ⟨x, ex, hx⟩ := getI_ints (xs := [10, 4]) (k := if kind = 3 then 1 else 0) (by split <;> omega) (by split <;> simp)
        simp at ex hx
        have hx0 : 4 ≤ x ∧ x ≤ 10 := by omega
        have q1 := Int.emod_nonneg n (show x ≠ 0 by omega)
        have q2 := Int.emod_lt_of_pos n (show 0 < x by omega)
        simp [ex, show 0 < x by omega]
        omega
  obtain ⟨d, e, x, rfl, h⟩ := z
  exact ⟨x, e, h⟩
theorem webb_ex (ns : List Int) : ∃ many width steps, F_law_web_b [.lst (ns.map .int)] = .ok (webD many width steps) ∧ GoodWeb many width steps := by
  have z : ∃ d, F_law_web_b [.lst (ns.map .int)] = .ok d ∧ ∃ many width steps, d = webD many width steps ∧ GoodWeb many width steps := by
    refine run_ex ?_
    unfold g_law_web_b
    obtain ⟨m0, b0, c0⟩ := mix_ok (c := cellA ns 0) (k := 0) (by decide) (by decide)
    obtain ⟨m1, b1, c1⟩ := mix_ok (c := cellA ns 0) (k := 1) (by decide) (by decide)
    obtain ⟨m2, b2, c2⟩ := mix_ok (c := cellA ns 0) (k := 2) (by decide) (by decide)
    obtain ⟨m3, b3, c3⟩ := mix_ok (c := cellA ns 0) (k := 3) (by decide) (by decide)
    obtain ⟨m4, b4, c4⟩ := mix_ok (c := cellA ns 0) (k := 4) (by decide) (by decide)
    simp [F_cell_at (show (0 : Int) ≤ 0 by decide), m0, m1, m4, oMul_ok (i := 3) (j := 1 + mixA (cellA ns 0) 0 % 6) ⟨by decide, by decide⟩ ⟨by omega, by omega⟩]
    generalize mixA (cellA ns 0) 4 = q4
    generalize mixA (cellA ns 0) 1 = q1
    generalize mixA (cellA ns 0) 0 = q0 at *
    refine wp_mid (I := fun ρ => ∃ many most kind : Int, 1 ≤ many ∧ many ≤ 12 ∧ 1 ≤ most ∧ most ≤ 41 ∧ ρ = [some (.lst (ns.map .int)), some (.int (cellA ns 0)), some (.int many), some (.int most), some (.int kind), none, none, none, none, none, none, none, none, none]) ?_ ?_
    · by_cases h : q1 % 8 = 1
      · rw [if_pos h]
        simp [m0]
        exact ⟨_, by omega, by omega, _, by omega, by omega, rfl, rfl⟩
      · rw [if_neg h]
        exact ⟨_, _, _, by omega, by omega, by omega, by omega, rfl⟩
    rintro ρ ⟨many, most, kind, hm1, hm2, ho1, ho2, rfl⟩
    simp [m0, m1]
    refine wp_mid (I := fun ρ => ∃ many most kind : Int, 1 ≤ many ∧ many ≤ 12 ∧ 1 ≤ most ∧ most ≤ 41 ∧ ρ = [some (.lst (ns.map .int)), some (.int (cellA ns 0)), some (.int many), some (.int most), some (.int kind), none, none, none, none, none, none, none, none, none]) ?_ ?_
    · split
      · exact ⟨_, _, _, by omega, by omega, by omega, by omega, rfl⟩
      · exact ⟨_, _, _, hm1, hm2, ho1, ho2, rfl⟩
    clear hm1 hm2 ho1 ho2
    rintro ρ ⟨many, most, kind, hm1, hm2, ho1, ho2, rfl⟩
    have k1 := Int.emod_nonneg (mixA (cellA ns 0) 3) (show most ≠ 0 by omega)
    have k2 := Int.emod_lt_of_pos (mixA (cellA ns 0) 3) (show 0 < most by omega)
    simp [m2, m3, show 0 < most by omega, itR1_ok k1 (by omega), upTo_map]
    obtain ⟨w, hw, ew⟩ : ∃ w : Nat, (w = 2 ∨ w = 3) ∧ 2 + mixA (cellA ns 0) 2 % 2 = w := ⟨(2 + mixA (cellA ns 0) 2 % 2).toNat, by omega, by omega⟩
    rw [ew]
    refine loop_foldI (J := fun n (_ : Unit) ρ => ∃ (ss : List Stp) (x7 x8 x9 x10 x11 x12 x13 : Option D), GoodWeb many w ss ∧ ρ = [some (.lst (ns.map .int)), some (.int (cellA ns 0)), some (.int many), some (.int most), some (.int kind), some (.int w), some (.lst (ss.map stD)), x7, x8, x9, x10, x11, x12, x13]) (fun s _ => s) _ 0 () _ ⟨[], none, none, none, none, none, none, none, ⟨hm1, hm2, by omega, by simp, by simp⟩, rfl⟩ ?_ ?_
    · rintro i ⟨⟩ a ρ hi ha ⟨ss, x7, x8, x9, x10, x11, x12, x13, GW, rfl⟩
      have ha2 : a < 41 := by have := List.mem_range.mp ha; omega
      obtain ⟨m5, b5, c5⟩ := mix_ok (c := cellA ns (1 + (a : Int) % 10)) (k := 20 + (a : Int)) (by omega) (by omega)
      simp [F_cell_at (ns := ns) (k := 1 + (a : Int) % 10) (by omega), m5, show 0 < many by omega]
      generalize mixA (cellA ns (1 + (a : Int) % 10)) (20 + (a : Int)) = q
      have hmx : 0 < (if 1 < many - 1 then many - 1 else 1) := by split <;> omega
      have hmx2 : (if 1 < many - 1 then many - 1 else 1) ≤ 12 := by split <;> omega
      generalize (if 1 < many - 1 then many - 1 else 1) = mx at hmx hmx2
      simp [hmx, show 0 < many by omega, itR1_ok (j := (w : Int)) (by omega) (by omega), upTo_map]
      generalize hone : q % many = one
      have hone1 : 0 ≤ one ∧ one < many := by
        rw [← hone]
        exact ⟨Int.emod_nonneg _ (by omega), Int.emod_lt_of_pos _ (by omega)⟩
      generalize hoth : (one + 1 + q / 16 % mx) % many = oth
      have hoth1 : 0 ≤ oth ∧ oth < many := by
        rw [← hoth]
        exact ⟨Int.emod_nonneg _ (by omega), Int.emod_lt_of_pos _ (by omega)⟩
      refine loop_foldI (J := fun n (_ : Unit) ρ => ∃ (r : List Int) (x12 x13 : Option D), r.length = n ∧ (∀ x ∈ r, 0 ≤ x ∧ x ≤ 10000000000000000000000000000000000000000) ∧ ρ = [some (.lst (ns.map .int)), some (.int (cellA ns 0)), some (.int many), some (.int most), some (.int kind), some (.int w), some (.lst (ss.map stD)), some (.int a), some (.int q), some (.int one), some (.int oth), some (.lst (r.map .int)), x12, x13]) (fun s _ => s) _ 0 () _ ⟨[], x12, x13, rfl, by simp, by simp⟩ ?_ ?_
      · rintro s ⟨⟩ b ρ hs hb ⟨r, x12, x13, hr, hrb, rfl⟩
        have hb2 : b < w := List.mem_range.mp hb
        obtain ⟨m6, b6, c6⟩ := mix_ok (c := cellA ns (1 + (a : Int) % 10)) (k := 60 + 3 * (a : Int) + (b : Int)) (by omega) (by omega)
        obtain ⟨x, ex, hx⟩ := priceb_ex (kind := kind) b6 c6
        have hr2 : r.length < 16777216 := by simp at hs; omega
        simp [oMul_ok (i := 3) (j := (a : Int)) ⟨by decide, by decide⟩ ⟨by omega, by omega⟩, F_cell_at (ns := ns) (k := 1 + (a : Int) % 10) (by omega), m6, ex, hr2]
        refine ⟨r ++ [x], by simp; omega, fun y hy => ?_, by simp⟩
        rcases List.mem_append.mp hy with hy | hy
        · exact hrb y hy
        · rw [List.mem_singleton.mp hy]
          exact hx
      · rintro ρ ⟨r, x12, x13, hr, hrb, rfl⟩
        have hl := GW.l
        simp
        by_cases hc : one ≠ oth ∧ (ss.length : Int) < 40
        · rw [if_pos hc]
          simp [show ss.length < 16777216 by omega]
          refine ⟨ss ++ [⟨one, oth, r⟩], ⟨hm1, hm2, GW.w, by simp; omega, fun s hs => ?_⟩, by simp [rowD]⟩
          rcases List.mem_append.mp hs with hs | hs
          · exact GW.s s hs
          · rw [List.mem_singleton.mp hs]
            exact ⟨hone1.1, hone1.2, hoth1.1, hoth1.2, hc.1, by simp at hr; simp [hr], hrb⟩
        · rw [if_neg hc]
          exact ⟨ss, GW, _, _, _, _, _, _, _, rfl⟩
    · rintro ρ ⟨ss, x7, x8, x9, x10, x11, x12, x13, GW, rfl⟩
      simp
      exact ⟨many, w, ss, ⟨rfl, rfl, rfl⟩, GW⟩
  obtain ⟨d, e, m, w, s, rfl, h⟩ := z
  exact ⟨m, w, s, e, h⟩
end DL

set_option Elab.async false
set_option linter.all false
set_option maxRecDepth 100000
set_option maxHeartbeats 4000000
set_option autoImplicit false
/-! W11: a web as most laws draw it, with its size. -/
namespace DL
open PySem
structure GoodWebC (many width : Int) (steps : List Stp) : Prop extends GoodWeb many width steps where
  sz : steps.length ≤ 20 ∨ (many ≤ 5 ∧ ∀ s ∈ steps, ∀ x ∈ s.p, 0 ≤ x ∧ x ≤ 3)
theorem pricec_ex {n kind : Int} (h : 0 ≤ n) (h' : n < 2147483648) : ∃ x : Int, F_law_price_v2 [.int n, .int kind] = .ok (.int x) ∧ (0 ≤ x ∧ x ≤ 10000000000000000000000000000000000000000) ∧ (kind = 3 → x ≤ 3) := by
  have z : ∃ d, F_law_price_v2 [.int n, .int kind] = .ok d ∧ ∃ x : Int, d = .int x ∧ (0 ≤ x ∧ x ≤ 10000000000000000000000000000000000000000) ∧ (kind = 3 → x ≤ 3) := by
    refine run_ex ?_
    unfold g_law_price_v2
    simp
    by_cases h1 : kind = 1
    · simp [h1]
      omega
    · simp [h1]
      by_cases h2 : kind = 2
      · simp [h2, oMul_ok (i := n % 1000) (j := 1000000000000000000000000000000000000) ⟨by omega, by omega⟩ ⟨by decide, by decide⟩]
        omega
      · simp [h2]
        obtain ⟨x, ex, hx⟩ := getI_ints (xs := [10, 4]) (k := if kind = 3 then 1 else 0) (by split <;> omega) (by split <;> simp)
        simp at ex hx
        have hx0 : 4 ≤ x ∧ x ≤ 10 := by omega
        have hx3 : kind = 3 → x = 4 := fun e => by
          have e2 : getI [D.int 10, D.int 4] 1 = .ok (.int 4) := getI_ok (by decide) rfl
          rw [e] at ex
          simp [e2] at ex
          exact ex.symm
        have q1 := Int.emod_nonneg n (show x ≠ 0 by omega)
        have q2 := Int.emod_lt_of_pos n (show 0 < x by omega)
        simp [ex, show 0 < x by omega]
        omega
  obtain ⟨d, e, x, rfl, h⟩ := z
  exact ⟨x, e, h⟩
theorem webc_ex (ns : List Int) : ∃ many width steps, F_law_web_b [.lst (ns.map .int)] = .ok (webD many width steps) ∧ GoodWebC many width steps := by
  have z : ∃ d, F_law_web_b [.lst (ns.map .int)] = .ok d ∧ ∃ many width steps, d = webD many width steps ∧ GoodWebC many width steps := by
    refine run_ex ?_
    unfold g_law_web_b
    obtain ⟨m0, b0, c0⟩ := mix_ok (c := cellA ns 0) (k := 0) (by decide) (by decide)
    obtain ⟨m1, b1, c1⟩ := mix_ok (c := cellA ns 0) (k := 1) (by decide) (by decide)
    obtain ⟨m2, b2, c2⟩ := mix_ok (c := cellA ns 0) (k := 2) (by decide) (by decide)
    obtain ⟨m3, b3, c3⟩ := mix_ok (c := cellA ns 0) (k := 3) (by decide) (by decide)
    obtain ⟨m4, b4, c4⟩ := mix_ok (c := cellA ns 0) (k := 4) (by decide) (by decide)
    simp [F_cell_at (show (0 : Int) ≤ 0 by decide), m0, m1, m4, oMul_ok (i := 3) (j := 1 + mixA (cellA ns 0) 0 % 6) ⟨by decide, by decide⟩ ⟨by omega, by omega⟩]
    generalize mixA (cellA ns 0) 4 = q4
    generalize mixA (cellA ns 0) 1 = q1
    generalize mixA (cellA ns 0) 0 = q0 at *
    refine wp_mid (I := fun ρ => ∃ many most kind : Int, 1 ≤ many ∧ many ≤ 12 ∧ 1 ≤ most ∧ most ≤ 41 ∧ (most ≤ 21 ∨ (many ≤ 5 ∧ kind = 3)) ∧ ρ = [some (.lst (ns.map .int)), some (.int (cellA ns 0)), some (.int many), some (.int most), some (.int kind), none, none, none, none, none, none, none, none, none]) ?_ ?_
    · by_cases h : q1 % 8 = 1
      · rw [if_pos h]
        simp [m0]
        exact ⟨_, by omega, by omega, _, by omega, by omega, _, by omega, rfl, rfl, rfl⟩
      · rw [if_neg h]
        exact ⟨_, _, _, by omega, by omega, by omega, by omega, by omega, rfl⟩
    rintro ρ ⟨many, most, kind, hm1, hm2, ho1, ho2, hsz, rfl⟩
    simp [m0, m1]
    refine wp_mid (I := fun ρ => ∃ many most kind : Int, 1 ≤ many ∧ many ≤ 12 ∧ 1 ≤ most ∧ most ≤ 41 ∧ (most ≤ 21 ∨ (many ≤ 5 ∧ kind = 3)) ∧ ρ = [some (.lst (ns.map .int)), some (.int (cellA ns 0)), some (.int many), some (.int most), some (.int kind), none, none, none, none, none, none, none, none, none]) ?_ ?_
    · split
      · exact ⟨_, _, _, by omega, by omega, by omega, by omega, by omega, rfl⟩
      · exact ⟨_, _, _, hm1, hm2, ho1, ho2, hsz, rfl⟩
    clear hm1 hm2 ho1 ho2 hsz
    rintro ρ ⟨many, most, kind, hm1, hm2, ho1, ho2, hsz, rfl⟩
    have k1 := Int.emod_nonneg (mixA (cellA ns 0) 3) (show most ≠ 0 by omega)
    have k2 := Int.emod_lt_of_pos (mixA (cellA ns 0) 3) (show 0 < most by omega)
    simp [m2, m3, show 0 < most by omega, itR1_ok k1 (by omega), upTo_map]
    obtain ⟨w, hw, ew⟩ : ∃ w : Nat, (w = 2 ∨ w = 3) ∧ 2 + mixA (cellA ns 0) 2 % 2 = w := ⟨(2 + mixA (cellA ns 0) 2 % 2).toNat, by omega, by omega⟩
    rw [ew]
    refine loop_foldI (J := fun n (_ : Unit) ρ => ∃ (ss : List Stp) (x7 x8 x9 x10 x11 x12 x13 : Option D), GoodWeb many w ss ∧ ss.length ≤ n ∧ (kind = 3 → ∀ s ∈ ss, ∀ x ∈ s.p, x ≤ 3) ∧ ρ = [some (.lst (ns.map .int)), some (.int (cellA ns 0)), some (.int many), some (.int most), some (.int kind), some (.int w), some (.lst (ss.map stD)), x7, x8, x9, x10, x11, x12, x13]) (fun s _ => s) _ 0 () _ ⟨[], none, none, none, none, none, none, none, ⟨hm1, hm2, by omega, by simp, by simp⟩, by simp, by simp, rfl⟩ ?_ ?_
    · rintro i ⟨⟩ a ρ hi ha ⟨ss, x7, x8, x9, x10, x11, x12, x13, GW, hcnt, hk3, rfl⟩
      have ha2 : a < 41 := by have := List.mem_range.mp ha; omega
      obtain ⟨m5, b5, c5⟩ := mix_ok (c := cellA ns (1 + (a : Int) % 10)) (k := 20 + (a : Int)) (by omega) (by omega)
      simp [F_cell_at (ns := ns) (k := 1 + (a : Int) % 10) (by omega), m5, show 0 < many by omega]
      generalize mixA (cellA ns (1 + (a : Int) % 10)) (20 + (a : Int)) = q
      have hmx : 0 < (if 1 < many - 1 then many - 1 else 1) := by split <;> omega
      have hmx2 : (if 1 < many - 1 then many - 1 else 1) ≤ 12 := by split <;> omega
      generalize (if 1 < many - 1 then many - 1 else 1) = mx at hmx hmx2
      simp [hmx, show 0 < many by omega, itR1_ok (j := (w : Int)) (by omega) (by omega), upTo_map]
      generalize hone : q % many = one
      have hone1 : 0 ≤ one ∧ one < many := by
        rw [← hone]
        exact ⟨Int.emod_nonneg _ (by omega), Int.emod_lt_of_pos _ (by omega)⟩
      generalize hoth : (one + 1 + q / 16 % mx) % many = oth
      have hoth1 : 0 ≤ oth ∧ oth < many := by
        rw [← hoth]
        exact ⟨Int.emod_nonneg _ (by omega), Int.emod_lt_of_pos _ (by omega)⟩
      refine loop_foldI (J := fun n (_ : Unit) ρ => ∃ (r : List Int) (x12 x13 : Option D), r.length = n ∧ (∀ x ∈ r, (0 ≤ x ∧ x ≤ 10000000000000000000000000000000000000000) ∧ (kind = 3 → x ≤ 3)) ∧ ρ = [some (.lst (ns.map .int)), some (.int (cellA ns 0)), some (.int many), some (.int most), some (.int kind), some (.int w), some (.lst (ss.map stD)), some (.int a), some (.int q), some (.int one), some (.int oth), some (.lst (r.map .int)), x12, x13]) (fun s _ => s) _ 0 () _ ⟨[], x12, x13, rfl, by simp, by simp⟩ ?_ ?_
      · rintro s ⟨⟩ b ρ hs hb ⟨r, x12, x13, hr, hrb, rfl⟩
        have hb2 : b < w := List.mem_range.mp hb
        obtain ⟨m6, b6, c6⟩ := mix_ok (c := cellA ns (1 + (a : Int) % 10)) (k := 60 + 3 * (a : Int) + (b : Int)) (by omega) (by omega)
        obtain ⟨x, ex, hx⟩ := pricec_ex (kind := kind) b6 c6
        have hr2 : r.length < 16777216 := by simp at hs; omega
        simp [oMul_ok (i := 3) (j := (a : Int)) ⟨by decide, by decide⟩ ⟨by omega, by omega⟩, F_cell_at (ns := ns) (k := 1 + (a : Int) % 10) (by omega), m6, ex, hr2]
        refine ⟨r ++ [x], by simp; omega, fun y hy => ?_, by simp⟩
        rcases List.mem_append.mp hy with hy | hy
        · exact hrb y hy
        · rw [List.mem_singleton.mp hy]
          exact hx
      · rintro ρ ⟨r, x12, x13, hr, hrb, rfl⟩
        have hl := GW.l
        simp
        by_cases hc : one ≠ oth ∧ (ss.length : Int) < 40
        · rw [if_pos hc]
          simp [show ss.length < 16777216 by omega]
          refine ⟨ss ++ [⟨one, oth, r⟩], ⟨hm1, hm2, GW.w, by simp; omega, fun s hs => ?_⟩, by simp; omega, fun k3 s hs => ?_, by simp [rowD]⟩
          rcases List.mem_append.mp hs with hs | hs
          · exact GW.s s hs
          · rw [List.mem_singleton.mp hs]
            exact ⟨hone1.1, hone1.2, hoth1.1, hoth1.2, hc.1, by simp at hr; simp [hr], fun x hx => (hrb x hx).1⟩
          rcases List.mem_append.mp hs with hs | hs
          · exact hk3 k3 s hs
          · rw [List.mem_singleton.mp hs]
            exact fun x hx => (hrb x hx).2 k3
        · rw [if_neg hc]
          exact ⟨ss, GW, by omega, hk3, _, _, _, _, _, _, _, rfl⟩
    · rintro ρ ⟨ss, x7, x8, x9, x10, x11, x12, x13, GW, hcnt, hk3, rfl⟩
      simp
      simp at hcnt
      refine ⟨many, w, ss, ⟨rfl, rfl, rfl⟩, GW, ?_⟩
      rcases hsz with z | ⟨z1, z2⟩
      · exact .inl (by omega)
      · exact .inr ⟨z1, fun s hs x hx => ⟨((GW.s s hs).2.2.2.2.2.2 x hx).1, hk3 z2 s hs x hx⟩⟩
  obtain ⟨d, e, m, w, s, rfl, h⟩ := z
  exact ⟨m, w, s, e, h⟩
end DL
namespace DL
structure Drawn (n w : Nat) (ss : List Stp) : Prop where
  web : Web n w ss
  n1 : 1 ≤ n ∧ n ≤ 12
  w1 : w = 2 ∨ w = 3
  l : ss.length ≤ 40
  p : ∀ s ∈ ss, ∀ x ∈ s.p, 0 ≤ x ∧ x ≤ 10000000000000000000000000000000000000000
  sz : ss.length ≤ 20 ∨ (n ≤ 5 ∧ ∀ s ∈ ss, ∀ x ∈ s.p, 0 ≤ x ∧ x ≤ 3)
theorem Drawn.small {n w : Nat} {ss : List Stp} {s0 : Int} (d : Drawn n w ss) (h0 : 0 ≤ s0 ∧ s0 < n) : Small n w ss s0 := small_of d.web d.w1 d.l h0 d.sz
theorem drawn_ex (ns : List Int) : ∃ n w ss, F_law_web_b [.lst (ns.map .int)] = .ok (webD (n : Nat) (w : Nat) ss) ∧ Drawn n w ss := by
  obtain ⟨many, width, ss, e, G⟩ := webc_ex ns
  have h1 := G.m1
  have h2 := G.m2
  have h3 := G.w
  obtain ⟨n, rfl⟩ := Int.eq_ofNat_of_zero_le (show 0 ≤ many by omega)
  obtain ⟨w, rfl⟩ := Int.eq_ofNat_of_zero_le (show 0 ≤ width by omega)
  refine ⟨n, w, ss, e, ⟨⟨fun s hs => ?_⟩, by omega, by omega, G.l, fun s hs => (G.s s hs).2.2.2.2.2.2, ?_⟩⟩
  · obtain ⟨a, b, c, d, e, f, g⟩ := G.s s hs
    exact ⟨a, b, c, d, e, by omega, fun x hx => (g x hx).1⟩
  · rcases G.sz with z | ⟨a, b⟩
    · exact .inl z
    · exact .inr ⟨by omega, b⟩
end DL

set_option Elab.async false
set_option linter.all false
set_option maxRecDepth 100000
set_option maxHeartbeats 4000000
set_option autoImplicit false
/-! W4: heaps. -/
namespace DL
open PySem
structure It where
  r : List Int
  pl : Int
  ah : Int
  mr : Int
  st : Int
abbrev itD (x : It) : D := .tup [rowD x.r, .int x.pl, .int x.ah, .int x.mr, .int x.st]
/-- an item, as one row -/
def fl (x : It) : List Int := x.r ++ [x.pl, x.ah, x.mr, x.st]
theorem app_lt : ∀ {a b c d : List Int}, a.length = b.length → (a ++ c < b ++ d ↔ a < b ∨ (a = b ∧ c < d))
  | [], [], c, d, _ => by simp
  | [], _ :: _, _, _, h => by cases h
  | _ :: _, [], _, _, h => by cases h
  | x :: a, y :: b, c, d, h => by
    have ih := app_lt (a := a) (b := b) (c := c) (d := d) (by simpa using h)
    rw [List.cons_append, List.cons_append, List.cons_lt_cons_iff, List.cons_lt_cons_iff, ih]
    constructor
    · rintro (h | ⟨h, h1 | ⟨h2, h3⟩⟩)
      · exact .inl (.inl h)
      · exact .inl (.inr ⟨h, h1⟩)
      · exact .inr ⟨by rw [h, h2], h3⟩
    · rintro ((h | ⟨h, h2⟩) | ⟨h, h2⟩)
      · exact .inl h
      · exact .inr ⟨h, .inl h2⟩
      · cases h
        exact .inr ⟨rfl, .inr ⟨rfl, h2⟩⟩
theorem cl_it {x : It} : Cl 2 (itD x) := cl_tup (n := 1) fun d hd => by
  simp only [List.mem_cons, List.not_mem_nil, or_false] at hd
  rcases hd with rfl | rfl | rfl | rfl | rfl
  · exact cl_row
  all_goals exact cl_int
theorem ltG_it {x y : It} (h : x.r.length = y.r.length) : oLtG (itD x) (itD y) = .ok (.bl (decide (fl x < fl y))) := by
  have tp : ∀ z : It, toP (itD z) = .tuple (.tuple (z.r.map .int) :: [z.pl, z.ah, z.mr, z.st].map .int) := fun z => by
    simp [itD, rowD, toP, toPs, toPs_ints]
  have al0 : PySem.W.alike (.tuple (x.r.map .int)) (.tuple (y.r.map .int)) = true := by simp only [PySem.W.alike, alike_ints]
  have al : PySem.W.alike (toP (itD x)) (toP (itD y)) = true := by
    rw [tp, tp]
    simp [PySem.W.alike, PySem.W.alikeAll, alike_ints]
  have ev : PyData.eqv (.tuple (x.r.map .int)) (.tuple (y.r.map .int)) = decide (x.r = y.r) := by
    have := deq_row (r := x.r) (s := y.r)
    unfold deq rowD at this
    simpa [toP, toPs_ints] using this
  have lt0 : PySem.W.dataLt (.tuple (x.r.map .int)) (.tuple (y.r.map .int)) = decide (x.r < y.r) := by
    rw [PySem.W.dataLt_tuple]
    exact PySem.W.dataLt_ints x.r y.r
  have e : PySem.W.dataLt (toP (itD x)) (toP (itD y)) = decide (fl x < fl y) := by
    rw [tp, tp, PySem.W.dataLt_tuple, PySem.W.dataLt_cons al0, ev, lt0]
    have li := PySem.W.dataLt_ints [x.pl, x.ah, x.mr, x.st] [y.pl, y.ah, y.mr, y.st]
    unfold PySem.W.rowLt at li
    rw [li]
    unfold fl
    by_cases hr : x.r = y.r
    · rw [if_pos (by simpa using hr)]
      congr 1
      rw [app_lt h]
      simp [hr, List.lt_irrefl]
    · rw [if_neg (by simpa using hr)]
      congr 1
      rw [app_lt h]
      simp [hr]
  unfold oLtG
  rw [if_pos ⟨cl_it.ok (by decide), cl_it.ok (by decide), al, rfl⟩, e]
/-! ### the order -/
theorem le_of_flt {x y : It} (h : x.r.length = y.r.length) (hn : ¬ fl y < fl x) : x.r ≤ y.r := by
  unfold fl at hn
  rw [app_lt h.symm] at hn
  exact List.not_lt.mp fun z => hn (.inl z)
theorem fl_tr {x y z : It} (h1 : ¬ fl y < fl x) (h2 : ¬ fl z < fl y) : ¬ fl z < fl x := by
  have h1 := List.not_lt.mp h1
  have h2 := List.not_lt.mp h2
  exact List.not_lt.mpr (List.le_trans h1 h2)
theorem fl_as {x y : It} (h : fl x < fl y) : ¬ fl y < fl x := fun z => List.lt_irrefl _ (List.lt_trans h z)
/-! ### heaps as lists -/
def gi (h : List It) (i : Nat) : It := h.getD i ⟨[], 0, 0, 0, 0⟩
/-- i's item is no greater than j's -/
def nle (h : List It) (i j : Nat) : Prop := ¬ fl (gi h j) < fl (gi h i)
def IsHp (h : List It) : Prop := ∀ i, 0 < i → i < h.length → nle h ((i - 1) / 2) i
theorem IsHp.top {h : List It} (H : IsHp h) : ∀ i, i < h.length → nle h 0 i := by
  intro i
  induction i using Nat.strongRecOn with
  | _ i ih =>
    intro hi
    by_cases h0 : i = 0
    · subst h0
      exact List.lt_irrefl _
    · exact fl_tr (ih ((i - 1) / 2) (by omega) (by omega)) (H i (by omega) hi)
def swp (h : List It) (i j : Nat) : List It := (h.set i (gi h j)).set j (gi h i)
theorem swp_len {h : List It} {i j : Nat} : (swp h i j).length = h.length := by simp [swp]
theorem gi_set {h : List It} {i j : Nat} {x : It} (hi : i < h.length) : gi (h.set i x) j = if j = i then x else gi h j := getD_set hi
theorem gi_swp {h : List It} {i j k : Nat} (hi : i < h.length) (hj : j < h.length) : gi (swp h i j) k = if k = j then gi h i else if k = i then gi h j else gi h k := by
  unfold swp
  rw [gi_set (by simpa using hj), gi_set hi]
theorem gi_mem {h : List It} {i : Nat} (hi : i < h.length) : gi h i ∈ h := by
  unfold gi
  rw [List.getD_eq_getElem?_getD, List.getElem?_eq_getElem hi]
  exact List.getElem_mem hi
theorem mem_gi {h : List It} {x : It} (hx : x ∈ h) : ∃ i, i < h.length ∧ gi h i = x := by
  obtain ⟨i, hi, e⟩ := List.getElem_of_mem hx
  refine ⟨i, hi, ?_⟩
  unfold gi
  rw [List.getD_eq_getElem?_getD, List.getElem?_eq_getElem hi]
  exact e
theorem swp_mem {h : List It} {i j : Nat} (hi : i < h.length) (hj : j < h.length) {x : It} : x ∈ swp h i j ↔ x ∈ h := by
  constructor
  · intro hx
    obtain ⟨k, hk, rfl⟩ := mem_gi hx
    rw [swp_len] at hk
    rw [gi_swp hi hj]
    split
    · exact gi_mem hi
    · split
      · exact gi_mem hj
      · exact gi_mem hk
  · intro hx
    obtain ⟨k, hk, rfl⟩ := mem_gi hx
    have g : ∀ m, m < h.length → gi (swp h i j) m ∈ swp h i j := fun m hm => gi_mem (by rw [swp_len]; exact hm)
    by_cases e : k = i
    · have := g j hj
      rw [gi_swp hi hj, if_pos rfl] at this
      rw [e]
      exact this
    · by_cases e2 : k = j
      · have := g i hi
        rw [gi_swp hi hj] at this
        by_cases e3 : i = j
        · exact absurd (e2.trans e3.symm) e
        · rw [if_neg e3, if_pos rfl] at this
          rw [e2]
          exact this
      · have := g k hk
        rw [gi_swp hi hj, if_neg e2, if_neg e] at this
        exact this
/-- a heap but for the place a, which may be less than what is above -/
structure HUp (h : List It) (a : Nat) : Prop where
  lt : a < h.length
  ok : ∀ i, 0 < i → i < h.length → i ≠ a → nle h ((i - 1) / 2) i
  on : ∀ i, i < h.length → (i - 1) / 2 = a → 0 < i → 0 < a → nle h ((a - 1) / 2) i
theorem HUp.step {h : List It} {a : Nat} (U : HUp h a) (h0 : 0 < a) (hl : fl (gi h a) < fl (gi h ((a - 1) / 2))) : HUp (swp h a ((a - 1) / 2)) ((a - 1) / 2) := by
  have la := U.lt
  have lp : (a - 1) / 2 < h.length := by omega
  have hpa : (a - 1) / 2 ≠ a := by omega
  refine ⟨by rw [swp_len]; exact lp, fun i hi hil hne => ?_, fun i hil hp hi h1 => ?_⟩
  · rw [swp_len] at hil
    unfold nle
    rw [gi_swp la lp, gi_swp la lp]
    by_cases ei : i = a
    · subst ei
      rw [if_neg hne, if_pos rfl, if_pos rfl]
      exact fl_as hl
    · rw [if_neg hne, if_neg ei]
      by_cases ep : (i - 1) / 2 = (a - 1) / 2
      · rw [ep, if_pos rfl]
        have := U.ok i hi hil ei
        unfold nle at this
        rw [ep] at this
        exact fl_tr (fl_as hl) this
      · rw [if_neg ep]
        by_cases ea : (i - 1) / 2 = a
        · rw [if_pos ea]
          exact U.on i hil ea hi h0
        · rw [if_neg ea]
          exact U.ok i hi hil ei
  · rw [swp_len] at hil
    unfold nle
    rw [gi_swp la lp, gi_swp la lp]
    have hpp : ((a - 1) / 2 - 1) / 2 ≠ (a - 1) / 2 := by omega
    have hpa2 : ((a - 1) / 2 - 1) / 2 ≠ a := by omega
    have b1 := U.ok ((a - 1) / 2) h1 lp hpa
    rw [if_neg hpp, if_neg hpa2]
    by_cases e1 : i = (a - 1) / 2
    · omega
    · rw [if_neg e1]
      by_cases ei : i = a
      · rw [if_pos ei]
        exact b1
      · rw [if_neg ei]
        have := U.ok i hi hil ei
        rw [hp] at this
        exact fl_tr b1 this
theorem HUp.done {h : List It} {a : Nat} (U : HUp h a) (hd : a = 0 ∨ nle h ((a - 1) / 2) a) : IsHp h := fun i hi hil => by
  by_cases e : i = a
  · subst e
    exact hd.resolve_left (by omega)
  · exact U.ok i hi hil e
theorem HUp.start {h : List It} (H : IsHp h) (x : It) : HUp (h ++ [x]) h.length := by
  have g : ∀ i, i < h.length → gi (h ++ [x]) i = gi h i := fun i hi => by
    unfold gi
    rw [List.getD_eq_getElem?_getD, List.getD_eq_getElem?_getD, List.getElem?_append_left hi]
  refine ⟨by simp, fun i hi hil hne => ?_, fun i hil hp hi h0 => ?_⟩
  · have : i < h.length := by simp at hil; omega
    unfold nle
    rw [g _ this, g _ (by omega)]
    exact H i hi this
  · simp at hil
    omega
/-- a heap but for the place a, which may be greater than what is below -/
structure HDn (h : List It) (a : Nat) : Prop where
  lt : a < h.length
  ok : ∀ i, 0 < i → i < h.length → (i - 1) / 2 ≠ a → nle h ((i - 1) / 2) i
  on : ∀ i, i < h.length → (i - 1) / 2 = a → 0 < i → 0 < a → nle h ((a - 1) / 2) i
/-- the lesser one of both below -/
def lesser (h : List It) (a : Nat) : Option Nat := if h.length ≤ 2 * a + 1 then none else if 2 * a + 2 < h.length ∧ fl (gi h (2 * a + 2)) < fl (gi h (2 * a + 1)) then some (2 * a + 2) else some (2 * a + 1)
theorem lesser_is {h : List It} {a b : Nat} (e : lesser h a = some b) : b < h.length ∧ (b - 1) / 2 = a ∧ 0 < b ∧ ∀ i, i < h.length → (i - 1) / 2 = a → 0 < i → nle h b i := by
  unfold lesser at e
  split at e
  · cases e
  · rename_i h1
    split at e
    · rename_i h2
      cases e
      refine ⟨h2.1, by omega, by omega, fun i hi hp h0 => ?_⟩
      have : i = 2 * a + 1 ∨ i = 2 * a + 2 := by omega
      rcases this with rfl | rfl
      · exact fl_as h2.2
      · exact List.lt_irrefl _
    · rename_i h2
      cases e
      refine ⟨by omega, by omega, by omega, fun i hi hp h0 => ?_⟩
      have : i = 2 * a + 1 ∨ i = 2 * a + 2 := by omega
      rcases this with rfl | rfl
      · exact List.lt_irrefl _
      · exact fun z => h2 ⟨hi, z⟩
theorem HDn.step {h : List It} {a b : Nat} (U : HDn h a) (e : lesser h a = some b) (hl : fl (gi h b) < fl (gi h a)) : HDn (swp h a b) b := by
  obtain ⟨lb, pb, b0, least⟩ := lesser_is e
  have la := U.lt
  have hab : a ≠ b := by omega
  refine ⟨by rw [swp_len]; exact lb, fun i hi hil hne => ?_, fun i hil hp hi h0 => ?_⟩
  · rw [swp_len] at hil
    unfold nle
    rw [gi_swp la lb, gi_swp la lb]
    rw [if_neg hne]
    by_cases ep : (i - 1) / 2 = a
    · rw [if_pos ep]
      by_cases ei : i = b
      · rw [if_pos ei]
        exact fl_as hl
      · rw [if_neg ei]
        by_cases ea : i = a
        · omega
        · rw [if_neg ea]
          exact least i hil ep hi
    · rw [if_neg ep]
      by_cases ei : i = b
      · omega
      · rw [if_neg ei]
        by_cases ea : i = a
        · rw [if_pos ea]
          subst ea
          exact U.on b lb pb b0 hi
        · rw [if_neg ea]
          exact U.ok i hi hil ep
  · rw [swp_len] at hil
    unfold nle
    rw [gi_swp la lb, gi_swp la lb]
    rw [pb, if_neg hab, if_pos rfl]
    have n1 : i ≠ b := by omega
    have n2 : i ≠ a := by omega
    rw [if_neg n1, if_neg n2]
    have := U.ok i hi hil (by omega)
    rw [hp] at this
    exact this
theorem HDn.done {h : List It} {a : Nat} (U : HDn h a) (hd : ∀ b, lesser h a = some b → ¬ fl (gi h b) < fl (gi h a)) : IsHp h := fun i hi hil => by
  by_cases ep : (i - 1) / 2 = a
  · cases e : lesser h a with
    | none =>
      unfold lesser at e
      split at e
      · omega
      · split at e <;> cases e
    | some b =>
      have := (lesser_is e).2.2.2 i hil ep hi
      rw [ep]
      exact fl_tr (hd b e) this
  · exact U.ok i hi hil ep
end DL

set_option Elab.async false
set_option linter.all false
set_option maxRecDepth 100000
set_option maxHeartbeats 4000000
set_option autoImplicit false
/-! W5: what put and taken do. -/
namespace DL
open PySem
theorem runM_ex {m : Nat} {z : Bool} {g : Env → Out} {xs ds : List D} {P : D → List D → Prop} (h : (g ((.lst xs :: ds).map some ++ List.replicate m none)).wp (fun ρ => z = true ∧ ∃ ys, ρ[0]? = some (some (D.lst ys)) ∧ P .non ys) (fun d ρ => ∃ ys, ρ[0]? = some (some (D.lst ys)) ∧ P d ys) (fun _ _ => False)) : ∃ d ys, runM m z g xs ds = .ok d ys ∧ P d ys := by
  unfold runM
  cases e : g ((.lst xs :: ds).map some ++ List.replicate m none) with
  | nx ρ =>
    rw [e] at h
    obtain ⟨hz, ys, e1, p⟩ := h
    refine ⟨.non, ys, ?_, p⟩
    dsimp only
    rw [if_pos hz]
    unfold cont
    rw [e1]
  | rt d ρ =>
    rw [e] at h
    obtain ⟨ys, e1, p⟩ := h
    refine ⟨d, ys, ?_, p⟩
    dsimp only
    unfold cont
    rw [e1]
  | xc c ρ => rw [e] at h; exact h.elim
  | bad => rw [e] at h; exact h.elim
theorem gi_get {h : List It} {k : Int} {i : Nat} (e : k = i) (hi : i < h.length) : getI (h.map itD) k = .ok (itD (gi h i)) := by
  have hk : k.toNat < h.length := by omega
  rw [getI_map (enc := itD) (by omega) hk]
  unfold gi
  have : k.toNat = i := by omega
  rw [List.getD_eq_getElem?_getD, List.getElem?_eq_getElem hi]
  simp [this]
theorem swp_set {h : List It} {i j : Nat} (hi : i < h.length) (hj : j < h.length) : ((h.map itD).set i (itD (gi h j))).set j (itD (gi h i)) = (swp h i j).map itD := by
  unfold swp
  rw [List.map_set, List.map_set]
/-- the items are of one width -/
def Ws (w : Nat) (h : List It) : Prop := ∀ x ∈ h, x.r.length = w
theorem Ws.gi {w : Nat} {h : List It} (W : Ws w h) {i : Nat} (hi : i < h.length) : (gi h i).r.length = w := W _ (gi_mem hi)
theorem Ws.swp {w : Nat} {h : List It} (W : Ws w h) {i j : Nat} (hi : i < h.length) (hj : j < h.length) : Ws w (swp h i j) := fun x hx => W x ((swp_mem hi hj).mp hx)
theorem put2_eq {h : List It} {i j : Nat} {ρ : Env} {t : List (Option D)} {fa fb : Env → R D} (hi : i < h.length) (hj : j < h.length) (ha : ∀ g : List It, fa (some (.lst (g.map itD)) :: t) = .ok (.int i)) (hb : ∀ g : List D, fb (some (.lst g) :: t) = .ok (.int j)) (he : ρ = some (.lst (h.map itD)) :: t) :
    oPut2 0 fa 0 fb (dCons (ixK (kL (dV 0)) fb) (dCons (ixK (kL (dV 0)) fa) dNil)) ρ = .nx (some (.lst ((DL.swp h i j).map itD)) :: t) := by
  subst he
  unfold oPut2 oPut
  have hb1 := hb (h.map itD)
  simp [hb1, ha, gi_get (h := h) (k := (j : Int)) rfl hj, gi_get (h := h) (k := (i : Int)) rfl hi, hi, hb, hj]
  exact swp_set hi hj
theorem heap_put {w : Nat} {h : List It} {x : It} (H : IsHp h) (W : Ws w h) (hx : x.r.length = w) (hl : h.length < 16777216) : ∃ h' : List It, F_put (h.map itD) [itD x] = .ok .non (h'.map itD) ∧ IsHp h' ∧ (∀ y, y ∈ h' ↔ y = x ∨ y ∈ h) ∧ h'.length = h.length + 1 := by
  have z : ∃ d ys, F_put (h.map itD) [itD x] = .ok d ys ∧ (d = .non ∧ ∃ h' : List It, ys = h'.map itD ∧ IsHp h' ∧ (∀ y, y ∈ h' ↔ y = x ∨ y ∈ h) ∧ h'.length = h.length + 1) := by
    refine runM_ex ?_
    unfold g_put
    simp [hl]
    have e0 : h.map itD ++ [itD x] = (h ++ [x]).map itD := by simp
    rw [e0]
    refine while_wp (J := fun k ρ => ∃ (g : List It) (x3 : Option D), ρ = [some (.lst (g.map itD)), some (itD x), some (.int k), x3] ∧ HUp g k ∧ (∀ y, y ∈ g ↔ y = x ∨ y ∈ h) ∧ g.length = h.length + 1) h.length ⟨h ++ [x], none, rfl, HUp.start H x, fun y => by simp [or_comm], by simp⟩ (by omega) ?_
    rintro k ρ ⟨g, x3, rfl, U, hm, hgl⟩
    have Wg : Ws w g := fun y hy => ((hm y).mp hy).elim (fun e => e ▸ hx) (W y)
    have lk := U.lt
    by_cases h0 : 0 < k
    · have lp : (k - 1) / 2 < g.length := by omega
      have ep : ((k - 1 : Nat) : Int) / 2 = ((k - 1) / 2 : Nat) := by omega
      have lt := ltG_it (x := gi g k) (y := gi g ((k - 1) / 2)) (by rw [Wg.gi lk, Wg.gi lp])
      have ep2 : ((k : Int) - 1) / 2 = ((k - 1) / 2 : Nat) := by omega
      have g2 : getI (g.map itD) (((k : Int) - 1) / 2) = .ok (itD (gi g ((k - 1) / 2))) := gi_get (by omega) lp
      have g3 : getI (g.map itD) ((((k - 1 : Nat) : Int)) / 2) = .ok (itD (gi g ((k - 1) / 2))) := gi_get (by omega) lp
      simp [h0, gi_get (h := g) (k := (k : Int)) rfl lk, g2, g3, gi_get (h := g) (k := (((k - 1) / 2 : Nat) : Int)) rfl lp, lt]
      by_cases c : fl (gi g k) < fl (gi g ((k - 1) / 2))
      · rw [if_pos c, put2_eq (h := g) (i := k) (j := (k - 1) / 2) lk lp (fun _ => rfl) (fun _ => (by rw [← ep2]; rfl)) rfl]
        simp
        refine ⟨(k - 1) / 2, by omega, swp g k ((k - 1) / 2), ⟨rfl, ep2⟩, U.step h0 c, fun y => ?_, by rw [swp_len, hgl]⟩
        rw [swp_mem lk lp, hm]
      · rw [if_neg c]
        exact ⟨g, rfl, U.done (.inr c), hm, hgl⟩
    · simp [h0]
      exact ⟨g, rfl, U.done (.inl (by omega)), hm, hgl⟩
  obtain ⟨d, ys, e, rfl, h', rfl, k⟩ := z
  exact ⟨h', e, k⟩

/-- what lesser_below tells -/
def lsD (h : List It) (a : Nat) : D := match lesser h a with
  | some b => .int b
  | none => .non
theorem lesser_ok {w : Nat} {h : List It} {a : Nat} (W : Ws w h) (ha : a < 16777216) (hl : h.length < 16777216) : F_lesser_below [.lst (h.map itD), .int a] = .ok (lsD h a) := by
  refine run_ok ?_
  unfold g_lesser_below lsD lesser
  have m2 := oMul_ok (i := 2) (j := (a : Int)) ⟨by decide, by decide⟩ ⟨by omega, by omega⟩
  simp [m2]
  by_cases c : h.length ≤ 2 * a + 1
  · have c' : (h.length : Int) ≤ 2 * (a : Int) + 1 := by omega
    simp [c, c']
  · have c' : ¬ (h.length : Int) ≤ 2 * (a : Int) + 1 := by omega
    simp [c, c']
    by_cases c2 : 2 * a + 2 < h.length
    · have c2' : 2 * (a : Int) + 2 < (h.length : Int) := by omega
      have g1 := gi_get (h := h) (k := 2 * (a : Int) + 2) (i := 2 * a + 2) (by omega) c2
      have g2 := gi_get (h := h) (k := 2 * (a : Int) + 1) (i := 2 * a + 1) (by omega) (by omega)
      have lt := ltG_it (x := gi h (2 * a + 2)) (y := gi h (2 * a + 1)) (by rw [W.gi c2, W.gi (by omega)])
      simp [c2, c2', m2, g1, g2, lt]
      by_cases c3 : fl (gi h (2 * a + 2)) < fl (gi h (2 * a + 1)) <;> simp [c3, m2]
    · have c2' : ¬ 2 * (a : Int) + 2 < (h.length : Int) := by omega
      simp [c2, c2', m2]
@[simp] theorem flat_lsD {h : List It} {a : Nat} : flat (lsD h a) = true := by
  unfold lsD
  cases lesser h a <;> rfl
theorem heap_taken {w : Nat} {h : List It} (H : IsHp h) (W : Ws w h) (hn : h ≠ []) (hl : h.length < 16777216) : ∃ (x : It) (h' : List It), F_taken (h.map itD) [] = .ok (itD x) (h'.map itD) ∧ IsHp h' ∧ x ∈ h ∧ (∀ y ∈ h, ¬ fl y < fl x) ∧ (∀ y ∈ h', y ∈ h) ∧ (∀ y ∈ h, y = x ∨ y ∈ h') ∧ h'.length + 1 = h.length := by
  have h0 : 0 < h.length := List.length_pos_iff.mpr hn
  have z : ∃ d ys, F_taken (h.map itD) [] = .ok d ys ∧ (d = itD (gi h 0) ∧ ∃ h' : List It, ys = h'.map itD ∧ IsHp h' ∧ (∀ y ∈ h', y ∈ h) ∧ (∀ y ∈ h, y = gi h 0 ∨ y ∈ h') ∧ h'.length + 1 = h.length) := by
    refine runM_ex ?_
    unfold g_taken
    have gl : (h.map itD)[(h.map itD).length - 1]? = some (itD (gi h (h.length - 1))) := by
      rw [List.length_map, List.getElem?_map]
      unfold gi
      rw [List.getD_eq_getElem?_getD, List.getElem?_eq_getElem (by omega : h.length - 1 < h.length)]
      rfl
    have dl : (h.map itD).dropLast = h.dropLast.map itD := by rw [List.map_dropLast]
    have oi : ∀ i, i + 1 < h.length → gi h.dropLast i = gi h i := fun i hi => by
      unfold gi
      rw [List.getD_eq_getElem?_getD, List.getD_eq_getElem?_getD, List.getElem?_dropLast, if_pos (by omega)]
    simp [gi_get (h := h) (k := 0) (i := 0) rfl h0, oPopV, gl]
    rw [List.getElem?_eq_getElem (by omega : h.length - 1 < h.length)]
    dsimp only [Option.map]
    rw [← List.map_dropLast]
    have el : itD (h[h.length - 1]) = itD (gi h (h.length - 1)) := by
      unfold gi
      rw [List.getD_eq_getElem?_getD, List.getElem?_eq_getElem (by omega : h.length - 1 < h.length)]
      rfl
    rw [el]
    simp only [wp_nx]
    by_cases c : h.length = 1
    · have ed : h.dropLast = [] := List.length_eq_zero_iff.mp (by simp; omega)
      rw [ed]
      simp
      refine ⟨[], rfl, rfl, [], rfl, fun i _ hi => absurd hi (by simp), fun y hy => absurd hy (by simp), fun y hy => .inl ?_, by simpa using c.symm⟩
      obtain ⟨i, hi, rfl⟩ := mem_gi hy
      have : i = 0 := by omega
      rw [this]
    · have hne : oNe (.lst (h.map itD).dropLast) (.lst []) = .ok (.bl true) := by
        rw [← List.map_dropLast, oNe_cl (cl_lst (n := 2) fun d hd => by
          obtain ⟨x, _, rfl⟩ := List.mem_map.mp hd
          exact cl_it) (cl_lst (n := 0) (ds := []) (by simp))]
        rw [deq_nil (cl_lst (n := 2) fun d hd => by
          obtain ⟨x, _, rfl⟩ := List.mem_map.mp hd
          exact cl_it)]
        cases e : h.dropLast with
        | nil =>
          have := congrArg List.length e
          simp at this
          omega
        | cons x l => simp
      let g0 := h.dropLast.set 0 (gi h (h.length - 1))
      have hd0 : 0 < h.dropLast.length := by simp; omega
      have lg0 : g0.length + 1 = h.length := by simp [g0]; omega
      have gg : ∀ i, 0 < i → i < g0.length → gi g0 i = gi h i := fun i hi hil => by
        simp only [g0]
        rw [gi_set hd0, if_neg (by omega), oi i (by omega)]
      have g00 : gi g0 0 = gi h (h.length - 1) := by
        simp only [g0]
        rw [gi_set hd0, if_pos rfl]
      have U0 : HDn g0 0 := by
        refine ⟨by omega, fun i hi hil hne => ?_, fun i hil hp hi h1 => absurd h1 (by omega)⟩
        unfold nle
        rw [gg ((i - 1) / 2) (by omega) (by omega), gg i hi hil]
        exact H i hi (by omega)
      have m1 : ∀ y ∈ g0, y ∈ h := fun y hy => by
        obtain ⟨i, hi, rfl⟩ := mem_gi hy
        by_cases i0 : i = 0
        · rw [i0, g00]
          exact gi_mem (by omega)
        · rw [gg i (by omega) hi]
          exact gi_mem (by omega)
      have m2 : ∀ y ∈ h, y = gi h 0 ∨ y ∈ g0 := fun y hy => by
        obtain ⟨i, hi, rfl⟩ := mem_gi hy
        by_cases i0 : i = 0
        · exact .inl (by rw [i0])
        · by_cases il : i = h.length - 1
          · rw [il, ← g00]
            exact .inr (gi_mem (by omega))
          · rw [← gg i (by omega) (by omega)]
            exact .inr (gi_mem (by omega))
      have W0 : Ws w g0 := fun y hy => W y (m1 y hy)
      have lo := fun (g : List It) (a : Nat) (Wg : Ws w g) (ha : a < g.length) (hg : g.length + 1 = h.length) => lesser_ok (w := w) (h := g) (a := a) Wg (by omega) (by omega)
      have mg0 : ((h.map itD).dropLast).set 0 (itD (gi h (h.length - 1))) = g0.map itD := by
        simp only [g0]
        rw [← List.map_dropLast, List.map_set]
      have lo0 : F_lesser_below [.lst (g0.map itD), .int 0] = .ok (lsD g0 0) := lo g0 0 W0 (by omega) lg0
      have hd1 : 0 < h.length - 1 := by omega
      simp [hne, hd1, mg0, lo0]
      refine while_wp (J := fun k ρ => ∃ (g : List It) (a : Nat), ρ = [some (.lst (g.map itD)), some (itD (gi h 0)), some (itD (gi h (h.length - 1))), some (.int a), some (lsD g a)] ∧ HDn g a ∧ (∀ y, y ∈ g ↔ y ∈ g0) ∧ g.length + 1 = h.length ∧ k = g.length - a) g0.length ⟨g0, 0, rfl, U0, fun y => Iff.rfl, lg0, rfl⟩ (by omega) ?_
      rintro k ρ ⟨g, a, rfl, U, hm, hgl, rfl⟩
      have Wg : Ws w g := fun y hy => W0 y ((hm y).mp hy)
      have la := U.lt
      cases e : lesser g a with
      | none =>
        simp [lsD, e]
        exact ⟨g, rfl, U.done (fun b eb => by rw [e] at eb; cases eb), fun y hy => m1 y ((hm y).mp hy), fun y hy => (m2 y hy).imp id (hm y).mpr, hgl⟩
      | some b =>
        have lb := lesser_is e
        have lt := ltG_it (x := gi g b) (y := gi g a) (by rw [Wg.gi lb.1, Wg.gi la])
        have els : lsD g a = .int b := by simp [lsD, e]
        simp [els, gi_get (h := g) (k := (b : Int)) rfl lb.1, gi_get (h := g) (k := (a : Int)) rfl la, lt]
        by_cases c : fl (gi g b) < fl (gi g a)
        · have lo1 := lo (swp g a b) b (Wg.swp la lb.1) (by rw [swp_len]; exact lb.1) (by rw [swp_len]; exact hgl)
          rw [if_pos c, put2_eq (h := g) (i := a) (j := b) la lb.1 (fun _ => rfl) (fun _ => rfl) rfl]
          simp [lo1]
          have lb2 := lb.2.1
          have lb3 := lb.1
          have lb4 := lb.2.2.1
          refine ⟨(swp g a b).length - b, by rw [swp_len]; omega, swp g a b, b, ⟨rfl, rfl, rfl⟩, U.step e c, fun y => ?_, by rw [swp_len, hgl], rfl⟩
          rw [swp_mem la lb.1, hm]
        · rw [if_neg c]
          refine ⟨g, rfl, U.done (fun b' eb => ?_), fun y hy => m1 y ((hm y).mp hy), fun y hy => (m2 y hy).imp id (hm y).mpr, hgl⟩
          rw [e] at eb
          cases eb
          exact c
  obtain ⟨d, ys, e, rfl, h', rfl, k1, k2, k3, k4⟩ := z
  exact ⟨gi h 0, h', e, k1, gi_mem h0, fun y hy => by
    obtain ⟨i, hi, rfl⟩ := mem_gi hy
    exact H.top i hi, k2, k3, k4⟩
end DL

set_option Elab.async false
set_option linter.all false
set_option maxRecDepth 100000
set_option maxHeartbeats 4000000
set_option autoImplicit false
/-! W6: marks, told from a heap (plain). -/
namespace DL
structure Mrk where
  r : List Int
  ah : Int
  mr : Int
  st : Int
abbrev mkD (m : Mrk) : D := .tup [rowD m.r, .int m.ah, .int m.mr, .int m.st]
abbrev mksD (ms : List Mrk) : D := .lst (ms.map mkD)
def atM (F : List (List Mrk)) (q : Int) : List Mrk := F.getD q.toNat []
def toMrk (x : It) : Mrk := ⟨x.r, x.ah, x.mr, x.st⟩
def addM (F : List (List Mrk)) (q : Int) (m : Mrk) : List (List Mrk) := F.set q.toNat (atM F q ++ [m])
theorem addM_len {F : List (List Mrk)} {q : Int} {m : Mrk} : (addM F q m).length = F.length := by simp [addM]
theorem atM_add {F : List (List Mrk)} {q q' : Int} {m : Mrk} (h : q.toNat < F.length) : atM (addM F q m) q' = if q'.toNat = q.toNat then atM F q ++ [m] else atM F q' := by
  unfold atM addM
  rw [getD_set h]
  rfl
section
variable {n w : Nat} {ss : List Stp} {s0 : Int}
inductive Told (ss : List Stp) (w : Nat) (s0 : Int) (F : List (List Mrk)) : List Nat → Int → Nat → Prop
  | nil {i : Nat} : (atM F s0)[i]? = some ⟨nought w, -1, -1, -1⟩ → Told ss w s0 F [] s0 i
  | snoc {ws : List Nat} {i j k : Nat} {m' : Mrk} {s : Stp} : Told ss w s0 F ws s.a j → ss[k]? = some s → (atM F s.a)[j]? = some m' → (atM F s.b)[i]? = some ⟨addR m'.r s.p, s.a, j, k⟩ → Told ss w s0 F (ws ++ [k]) s.b i
def Src (ss : List Stp) (w : Nat) (s0 : Int) (F : List (List Mrk)) (ws : List Nat) (q : Int) (m : Mrk) : Prop :=
  (ws = [] ∧ q = s0 ∧ m = ⟨nought w, -1, -1, -1⟩) ∨ ∃ (ws' : List Nat) (k : Nat) (s : Stp) (j : Nat) (m' : Mrk), ws = ws' ++ [k] ∧ Told ss w s0 F ws' s.a j ∧ ss[k]? = some s ∧ (atM F s.a)[j]? = some m' ∧ q = s.b ∧ m = ⟨addR m'.r s.p, s.a, j, k⟩
def ExtM (F F' : List (List Mrk)) : Prop := ∀ (q : Int) (i : Nat) (m : Mrk), (atM F q)[i]? = some m → (atM F' q)[i]? = some m
theorem ext_add {F : List (List Mrk)} {q : Int} {m : Mrk} (h : q.toNat < F.length) : ExtM F (addM F q m) := fun q' i m' e => by
  rw [atM_add h]
  split
  · rename_i c
    have : atM F q' = atM F q := by unfold atM; rw [c]
    rw [this] at e
    rw [List.getElem?_append_left (List.getElem?_eq_some_iff.mp e).1]
    exact e
  · exact e
theorem Told.mono {F F' : List (List Mrk)} (x : ExtM F F') {ws : List Nat} {q : Int} {i : Nat} (t : Told ss w s0 F ws q i) : Told ss w s0 F' ws q i := by
  induction t with
  | nil h => exact .nil (x _ _ _ h)
  | snoc _ a b c ih => exact .snoc ih a (x _ _ _ b) (x _ _ _ c)
theorem Src.mono {F F' : List (List Mrk)} (x : ExtM F F') {ws : List Nat} {q : Int} {m : Mrk} (t : Src ss w s0 F ws q m) : Src ss w s0 F' ws q m := by
  rcases t with t | ⟨ws', k, s, j, m', a, b, c, d, e⟩
  · exact .inl t
  · exact .inr ⟨ws', k, s, j, m', a, b.mono x, c, x _ _ _ d, e⟩
theorem Told.way {F : List (List Mrk)} {ws : List Nat} {q : Int} {i : Nat} (t : Told ss w s0 F ws q i) : ∃ m, (atM F q)[i]? = some m ∧ Way ss w s0 q m.r ws := by
  induction t with
  | nil h => exact ⟨_, h, .nil⟩
  | snoc _ a b c ih =>
    obtain ⟨m, e, h⟩ := ih
    rw [b] at e
    cases e
    exact ⟨_, c, .snoc h a rfl⟩
theorem Src.way {F : List (List Mrk)} {ws : List Nat} {q : Int} {m : Mrk} (t : Src ss w s0 F ws q m) : Way ss w s0 q m.r ws := by
  rcases t with ⟨rfl, rfl, rfl⟩ | ⟨ws', k, s, j, m', rfl, b, c, d, rfl, rfl⟩
  · exact .nil
  · obtain ⟨m, e, h⟩ := b.way
    rw [d] at e
    cases e
    exact .snoc h c rfl
theorem Src.told {F : List (List Mrk)} {ws : List Nat} {q : Int} {m : Mrk} (t : Src ss w s0 F ws q m) {i : Nat} (h : (atM F q)[i]? = some m) : Told ss w s0 F ws q i := by
  rcases t with ⟨rfl, rfl, rfl⟩ | ⟨ws', k, s, j, m', rfl, b, c, d, rfl, rfl⟩
  · exact .nil h
  · exact .snoc b c d h
def Cv (F : List (List Mrk)) (h : List It) (q : Int) (r : List Int) : Prop := (∃ m ∈ atM F q, cov m.r r = true) ∨ ∃ x ∈ h, x.pl = q ∧ x.r = r
structure Inv (n w : Nat) (ss : List Stp) (s0 : Int) (T : Int → List (List Int)) (F : List (List Mrk)) (h : List It) (td : Int → Mrk → Stp → Prop) : Prop where
  len : F.length = n
  hp : IsHp h
  src : ∀ x ∈ h, 0 ≤ x.pl ∧ x.pl < n ∧ ∃ ws, Src ss w s0 F ws x.pl (toMrk x)
  tld : ∀ (q : Int) (i : Nat) (m : Mrk), 0 ≤ q → q < n → (atM F q)[i]? = some m → ∃ ws, Told ss w s0 F ws q i
  pw : ∀ q : Int, 0 ≤ q → q < n → ((atM F q).map Mrk.r).Pairwise fun a b => a < b ∧ cov a b = false
  le : ∀ q : Int, 0 ≤ q → q < n → ∀ m ∈ atM F q, ∀ x ∈ h, m.r ≤ x.r
  nd : ∀ q : Int, 0 ≤ q → q < n → ∀ m ∈ atM F q, m.r ∈ T q
  c1 : Cv F h s0 (nought w)
  c2 : ∀ q : Int, 0 ≤ q → q < n → ∀ m ∈ atM F q, ∀ s ∈ ss, s.a = q → td q m s ∨ Cv F h s.b (addR m.r s.p)
def noTd : Int → Mrk → Stp → Prop := fun _ _ _ => False
variable {T : Int → List (List Int)} {F : List (List Mrk)} {h : List It} {td : Int → Mrk → Stp → Prop}
theorem Inv.ws (I : Inv n w ss s0 T F h td) (hW : Web n w ss) : Ws w h := fun x hx => by
  obtain ⟨_, _, ws, s⟩ := I.src x hx
  exact s.way.len hW
theorem Inv.fw (I : Inv n w ss s0 T F h td) (hW : Web n w ss) {q : Int} (hq : 0 ≤ q) (hqn : q < n) {m : Mrk} (hm : m ∈ atM F q) : ∃ ws, Way ss w s0 q m.r ws := by
  obtain ⟨i, hi⟩ := List.mem_iff_getElem?.mp hm
  obtain ⟨ws, t⟩ := I.tld q i m hq hqn hi
  obtain ⟨m', e, hw⟩ := t.way
  rw [hi] at e
  cases e
  exact ⟨ws, hw⟩
theorem Inv.fl (I : Inv n w ss s0 T F h td) (hW : Web n w ss) {q : Int} (hq : 0 ≤ q) (hqn : q < n) {m : Mrk} (hm : m ∈ atM F q) : m.r.length = w := by
  obtain ⟨ws, hw⟩ := I.fw hW hq hqn hm
  exact hw.len hW
/-- each way's row is covered, or no less than something of the heap -/
theorem Inv.key (I : Inv n w ss s0 T F h noTd) (hW : Web n w ss) (h0 : 0 ≤ s0 ∧ s0 < n) {q : Int} {r : List Int} {ws : List Nat} (hw : Way ss w s0 q r ws) : (∃ m ∈ atM F q, cov m.r r = true) ∨ ∃ x ∈ h, x.r ≤ r := by
  induction hw with
  | nil =>
    rcases I.c1 with z | ⟨x, hx, _, e⟩
    · exact .inl z
    · exact .inr ⟨x, hx, e ▸ List.le_refl _⟩
  | @snoc q r ws k s hw hk ha ih =>
    have hs := List.mem_of_getElem? hk
    have hst := hW.st s hs
    have hq := hw.at hW h0
    have hl := hw.len hW
    have hp := hst.2.2.2.2.2.1
    rcases ih with ⟨m, hm, hc⟩ | ⟨x, hx, hle⟩
    · have hml := I.fl hW hq.1 hq.2 hm
      have ca := cov_add (p := s.p) (show m.r.length = r.length by omega) (by omega) hc
      have l1 := addR_len (a := m.r) (b := s.p) (by omega)
      have l2 := addR_len (a := r) (b := s.p) (by omega)
      rcases I.c2 q hq.1 hq.2 m hm s hs ha with z | ⟨m2, hm2, hc2⟩ | ⟨x, hx, _, e⟩
      · exact z.elim
      · have hl2 := I.fl hW hst.2.2.1 hst.2.2.2.1 hm2
        exact .inl ⟨m2, hm2, cov_trans (by omega) (by omega) hc2 ca⟩
      · exact .inr ⟨x, hx, by rw [e]; exact cov_le (by omega) ca⟩
    · have l2 := addR_len (a := r) (b := s.p) (by omega)
      exact .inr ⟨x, hx, List.le_trans hle (cov_le (by omega) (cov_grow (by omega) hst.2.2.2.2.2.2))⟩
theorem Inv.done (I : Inv n w ss s0 T F [] noTd) (hW : Web n w ss) (h0 : 0 ≤ s0 ∧ s0 < n) (hT : ∀ q : Int, 0 ≤ q → q < n → IsSt w (Rch ss w s0 q) (T q)) {q : Int} (hq : 0 ≤ q) (hqn : q < n) : (atM F q).map Mrk.r = T q :=
  IsSt.unique (w := w) (S := Rch ss w s0 q) ⟨fun r ⟨ws, hw⟩ => hw.len hW, I.pw q hq hqn, fun r hr => by
    obtain ⟨m, hm, rfl⟩ := List.mem_map.mp hr
    exact I.fw hW hq hqn hm, fun r ⟨ws, hw⟩ => by
    rcases I.key hW h0 hw with ⟨m, hm, hc⟩ | ⟨x, hx, _⟩
    · exact ⟨m.r, List.mem_map_of_mem hm, hc⟩
    · cases hx⟩ (hT q hq hqn)
theorem Inv.few (I : Inv n w ss s0 T F h td) {q : Int} (hq : 0 ≤ q) (hqn : q < n) : (atM F q).length ≤ (T q).length := by
  have hn : ((atM F q).map Mrk.r).Nodup := (I.pw q hq hqn).imp fun {a b} z (e : a = b) => List.lt_irrefl b (e ▸ z.1)
  have := sub_len hn (D := T q) fun r hr => by
    obtain ⟨m, hm, rfl⟩ := List.mem_map.mp hr
    exact I.nd q hq hqn m hm
  simpa using this
/-- what is taken -/
structure Tkn (h h' : List It) (x : It) : Prop where
  mem : x ∈ h
  least : ∀ y ∈ h, ¬ fl y < fl x
  hp : IsHp h'
  sub : ∀ y ∈ h', y ∈ h
  sup : ∀ y ∈ h, y = x ∨ y ∈ h'
variable {h' : List It} {x : It}
theorem Inv.old (I : Inv n w ss s0 T F h noTd) (K : Tkn h h' x) {m0 : Mrk} (hm0 : m0 ∈ atM F x.pl) (hc0 : cov m0.r x.r = true) : Inv n w ss s0 T F h' noTd where
  len := I.len
  hp := K.hp
  src := fun y hy => I.src y (K.sub y hy)
  tld := I.tld
  pw := I.pw
  le := fun q a b m hm y hy => I.le q a b m hm y (K.sub y hy)
  nd := I.nd
  c1 := by
    rcases I.c1 with z | ⟨y, hy, e1, e2⟩
    · exact .inl z
    · rcases K.sup y hy with rfl | hy
      · exact .inl ⟨m0, e1 ▸ hm0, e2 ▸ hc0⟩
      · exact .inr ⟨y, hy, e1, e2⟩
  c2 := fun q a b m hm s hs ha => by
    rcases I.c2 q a b m hm s hs ha with z | z | ⟨y, hy, e1, e2⟩
    · exact .inl z
    · exact .inr (.inl z)
    · rcases K.sup y hy with rfl | hy
      · exact .inr (.inl ⟨m0, e1 ▸ hm0, e2 ▸ hc0⟩)
      · exact .inr (.inr ⟨y, hy, e1, e2⟩)
theorem pw_add {F : List (List Mrk)} {q : Int} {m : Mrk} {m' : Mrk} {q' : Int} (h : q.toNat < F.length) (hm : m' ∈ atM (addM F q m) q') (hq : 0 ≤ q) (hq' : 0 ≤ q') : m' ∈ atM F q' ∨ (q' = q ∧ m' = m) := by
  rw [atM_add h] at hm
  split at hm
  · rename_i c
    have e : q' = q := by omega
    subst e
    rcases List.mem_append.mp hm with z | z
    · exact .inl z
    · exact .inr ⟨rfl, List.mem_singleton.mp z⟩
  · exact .inl hm
theorem sub_add {F : List (List Mrk)} {q : Int} {m : Mrk} {m' : Mrk} {q' : Int} (h : q.toNat < F.length) (hm : m' ∈ atM F q') : m' ∈ atM (addM F q m) q' := by
  obtain ⟨i, hi⟩ := List.mem_iff_getElem?.mp hm
  exact List.mem_of_getElem? (ext_add h q' i m' hi)
theorem in_add {F : List (List Mrk)} {q : Int} {m : Mrk} (h : q.toNat < F.length) : m ∈ atM (addM F q m) q := by
  rw [atM_add h, if_pos rfl]
  simp
theorem Inv.new (I : Inv n w ss s0 T F h noTd) (hW : Web n w ss) (h0 : 0 ≤ s0 ∧ s0 < n) (hT : ∀ q : Int, 0 ≤ q → q < n → IsSt w (Rch ss w s0 q) (T q)) (K : Tkn h h' x) (hu : ∀ m ∈ atM F x.pl, cov m.r x.r = false) : Inv n w ss s0 T (addM F x.pl (toMrk x)) h' (fun q m s => q = x.pl ∧ m = toMrk x) ∧ ∀ q : Int, 0 ≤ q → q < n → ∀ m ∈ atM (addM F x.pl (toMrk x)) q, m.r ≤ x.r := by
  obtain ⟨p0, pn, ws, hsrc⟩ := I.src x K.mem
  have hl : x.pl.toNat < F.length := by have := I.len; omega
  have hx : ExtM F (addM F x.pl (toMrk x)) := ext_add hl
  have wx : x.r.length = w := I.ws hW x K.mem
  have wx2 := hsrc.way
  have lex : ∀ y ∈ h, x.r ≤ y.r := fun y hy => le_of_flt (by rw [wx, I.ws hW y hy]) (K.least y hy)
  refine ⟨⟨?_, K.hp, fun y hy => ?_, fun q i m hq hqn hi => ?_, fun q hq hqn => ?_, fun q hq hqn m hm y hy => ?_, fun q hq hqn m hm => ?_, ?_, fun q hq hqn m hm s hs ha => ?_⟩, fun q hq hqn m hm => ?_⟩
  · rw [addM_len, I.len]
  · obtain ⟨a, b, ws, c⟩ := I.src y (K.sub y hy)
    exact ⟨a, b, ws, c.mono hx⟩
  · have hi0 := hi
    rw [atM_add hl] at hi
    split at hi
    · rename_i c
      have e : q = x.pl := by omega
      subst e
      by_cases il : i < (atM F x.pl).length
      · rw [List.getElem?_append_left il] at hi
        obtain ⟨ws, t⟩ := I.tld x.pl i m hq hqn hi
        exact ⟨ws, t.mono hx⟩
      · have : i = (atM F x.pl).length := by
          have := (List.getElem?_eq_some_iff.mp hi).1
          simp at this
          omega
        subst this
        simp at hi
        subst hi
        exact ⟨ws, (hsrc.mono hx).told hi0⟩
    · obtain ⟨ws, t⟩ := I.tld q i m hq hqn hi
      exact ⟨ws, t.mono hx⟩
  · rw [atM_add hl]
    split
    · rename_i c
      have e : q = x.pl := by omega
      subst e
      rw [List.map_append, List.pairwise_append]
      refine ⟨I.pw x.pl hq hqn, List.pairwise_singleton _ _, fun a ha b hb => ?_⟩
      obtain ⟨m, hm, rfl⟩ := List.mem_map.mp ha
      have hb : b = x.r := by simpa [toMrk] using hb
      subst hb
      refine ⟨?_, hu m hm⟩
      have l1 := I.le x.pl hq hqn m hm x K.mem
      rcases List.le_iff_lt_or_eq.mp l1 with z | z
      · exact z
      · have := hu m hm
        rw [z, cov_self] at this
        cases this
    · exact I.pw q hq hqn
  · rcases pw_add hl hm p0 hq with z | ⟨_, rfl⟩
    · exact I.le q hq hqn m z y (K.sub y hy)
    · exact lex y (K.sub y hy)
  · rcases pw_add hl hm p0 hq with z | ⟨rfl, rfl⟩
    · exact I.nd q hq hqn m z
    · have S := hT x.pl hq hqn
      obtain ⟨o, ho, hc⟩ := S.all x.r ⟨ws, wx2⟩
      obtain ⟨ws2, ow⟩ := S.sub o ho
      have ol := ow.len hW
      have e : o = x.r := by
        rcases I.key hW h0 ow with ⟨m, hm, hcm⟩ | ⟨y, hy, hle⟩
        · have ml := I.fl hW hq hqn hm
          have := hu m hm
          rw [cov_trans (by omega) (by omega) hcm hc] at this
          cases this
        · have l1 := List.le_trans (lex y hy) hle
          have l2 := cov_le (by omega) hc
          exact List.le_antisymm l2 l1
      show x.r ∈ T x.pl
      rw [← e]
      exact ho
  · rcases I.c1 with ⟨m, hm, hc⟩ | ⟨y, hy, e1, e2⟩
    · exact .inl ⟨m, sub_add hl hm, hc⟩
    · rcases K.sup y hy with rfl | hy
      · refine .inl ⟨toMrk y, e1 ▸ in_add hl, ?_⟩
        rw [← e2]
        exact cov_self _
      · exact .inr ⟨y, hy, e1, e2⟩
  · rcases pw_add hl hm p0 hq with z | z
    · rcases I.c2 q hq hqn m z s hs ha with z | ⟨m, hm, hc⟩ | ⟨y, hy, e1, e2⟩
      · exact z.elim
      · exact .inr (.inl ⟨m, sub_add hl hm, hc⟩)
      · rcases K.sup y hy with rfl | hy
        · refine .inr (.inl ⟨toMrk y, e1 ▸ in_add hl, ?_⟩)
          rw [← e2]
          exact cov_self _
        · exact .inr (.inr ⟨y, hy, e1, e2⟩)
    · exact .inl z
  · rcases pw_add hl hm p0 hq with z | ⟨_, rfl⟩
    · exact I.le q hq hqn m z x K.mem
    · exact List.le_refl _
/-- one more is put -/
theorem Inv.push (I : Inv n w ss s0 T F h td) (hW : Web n w ss) {k j : Nat} {s : Stp} {m0 : Mrk} (hk : ss[k]? = some s) (hj : (atM F s.a)[j]? = some m0) (hle : ∀ q : Int, 0 ≤ q → q < n → ∀ m ∈ atM F q, m.r ≤ m0.r) (hp : IsHp h') (hm : ∀ y, y ∈ h' ↔ y = ⟨addR m0.r s.p, s.b, s.a, j, k⟩ ∨ y ∈ h) (hu : ∀ m ∈ atM F s.a, ∀ q, td q m s → q = s.a → m = m0) : Inv n w ss s0 T F h' (fun q m s' => td q m s' ∧ s' ≠ s) := by
  have hs := List.mem_of_getElem? hk
  have hst := hW.st s hs
  have hm0 := List.mem_of_getElem? hj
  have l0 := I.fl hW hst.1 hst.2.1 hm0
  have hpl := hst.2.2.2.2.2.1
  have new : (⟨addR m0.r s.p, s.b, s.a, j, k⟩ : It) ∈ h' := (hm _).mpr (.inl rfl)
  have oldm : ∀ y ∈ h, y ∈ h' := fun y hy => (hm y).mpr (.inr hy)
  refine ⟨I.len, hp, fun y hy => ?_, I.tld, I.pw, fun q a b m hmm y hy => ?_, I.nd, ?_, fun q a b m hmm s' hs' ha => ?_⟩
  · rcases (hm y).mp hy with rfl | hy
    · obtain ⟨ws, t⟩ := I.tld s.a j m0 hst.1 hst.2.1 hj
      exact ⟨hst.2.2.1, hst.2.2.2.1, ws ++ [k], .inr ⟨ws, k, s, j, m0, rfl, t, hk, hj, rfl, rfl⟩⟩
    · exact I.src y hy
  · rcases (hm y).mp hy with rfl | hy
    · have l2 := addR_len (a := m0.r) (b := s.p) (by omega)
      exact List.le_trans (hle q a b m hmm) (cov_le (a := m0.r) (b := addR m0.r s.p) (by omega) (cov_grow (by omega) hst.2.2.2.2.2.2))
    · exact I.le q a b m hmm y hy
  · rcases I.c1 with z | ⟨y, hy, e⟩
    · exact .inl z
    · exact .inr ⟨y, oldm y hy, e⟩
  · by_cases e : s' = s
    · rcases I.c2 q a b m hmm s' hs' ha with z | z | ⟨y, hy, e⟩
      · subst e
        have := hu m (ha ▸ hmm) q z ha.symm
        subst this
        exact .inr (.inr ⟨_, new, rfl, rfl⟩)
      · exact .inr (.inl z)
      · exact .inr (.inr ⟨y, oldm y hy, e⟩)
    · rcases I.c2 q a b m hmm s' hs' ha with z | z | ⟨y, hy, e⟩
      · exact .inl ⟨z, e⟩
      · exact .inr (.inl z)
      · exact .inr (.inr ⟨y, oldm y hy, e⟩)
end
end DL

set_option Elab.async false
set_option linter.all false
set_option maxRecDepth 100000
set_option maxHeartbeats 4000000
set_option autoImplicit false
/-! W7: marks_of, told. -/
namespace DL
open PySem
theorem Inv.weak {n w : Nat} {ss : List Stp} {s0 : Int} {T : Int → List (List Int)} {F : List (List Mrk)} {h : List It} {td td' : Int → Mrk → Stp → Prop} (I : Inv n w ss s0 T F h td) (k : ∀ q m s, s ∈ ss → s.a = q → td q m s → td' q m s) : Inv n w ss s0 T F h td' :=
  { I with c2 := fun q a b m hm s hs ha => (I.c2 q a b m hm s hs ha).imp (k q m s hs ha) id }
def gs (ss : List Stp) (k : Nat) : Stp := ss.getD k ⟨0, 0, []⟩
theorem gs_get {ss : List Stp} {k : Nat} (h : k < ss.length) : ss[k]? = some (gs ss k) := by
  unfold gs
  rw [List.getD_eq_getElem?_getD, List.getElem?_eq_getElem h]
  rfl
theorem enum_st {ss : List Stp} : enumF 0 (ss.map stD) = (List.range ss.length).map fun (k : Nat) => D.tup [.int (k : Int), stD (gs ss k)] := by
  apply List.ext_getElem?
  intro k
  by_cases hk : k < ss.length
  · rw [enumF_get (d := stD (gs ss k))]
    · simp [hk]
    · simp [gs_get hk]
  · rw [List.getElem?_eq_none (by rw [enumF_length]; simp; omega), List.getElem?_eq_none (by simp <;> omega)]
theorem check_place_ok {n w : Nat} {ss : List Stp} {q : Int} (h : 0 ≤ q ∧ q < n) : F_check_place [webD n w ss, .int q] = .ok .non := by
  refine run_ok ?_
  unfold g_check_place
  have h1 : ¬ q < 0 := by omega
  have h2 : ¬ (n : Int) ≤ q := by omega
  simp [h1, h2]
theorem atM_get {n : Nat} {F : List (List Mrk)} (h : F.length = n) {q : Int} (hq : 0 ≤ q) (hqn : q < n) : (F.map mksD)[q.toNat]? = some (mksD (atM F q)) := by
  rw [List.getElem?_map]
  unfold atM
  rw [List.getD_eq_getElem?_getD, List.getElem?_eq_getElem (by omega)]
  rfl
theorem atM_getI {n : Nat} {F : List (List Mrk)} (h : F.length = n) {q : Int} (hq : 0 ≤ q) (hqn : q < n) : getI (F.map mksD) q = .ok (mksD (atM F q)) := by
  have hl : q.toNat < F.length := by omega
  rw [getI_map (enc := mksD) hq hl]
  unfold atM
  rw [List.getD_eq_getElem?_getD, List.getElem?_eq_getElem hl]
  rfl
theorem neItems {h : List It} : oNe (.lst (h.map itD)) (.lst []) = .ok (.bl (!h.isEmpty)) := by
  have c : Cl 3 (.lst (h.map itD)) := cl_lst (n := 2) fun d hd => by
    obtain ⟨x, _, rfl⟩ := List.mem_map.mp hd
    exact cl_it
  rw [oNe_cl c (cl_lst (n := 0) (ds := []) (by simp)), deq_nil c, isEmpty_map]
def sumM (F : List (List Mrk)) : Nat := (F.map List.length).sum
theorem sum_set : ∀ {F : List (List Mrk)} {i : Nat} {l : List Mrk}, i < F.length → ((F.set i l).map List.length).sum + (F.getD i []).length = (F.map List.length).sum + l.length
  | [], _, _, h => absurd h (by simp)
  | a :: F, 0, l, _ => by simp; omega
  | a :: F, i + 1, l, h => by
    have := sum_set (F := F) (i := i) (l := l) (by simpa using h)
    simp at this ⊢
    omega
theorem sum_add {F : List (List Mrk)} {q : Int} {m : Mrk} (h : q.toNat < F.length) : sumM (addM F q m) = sumM F + 1 := by
  have := sum_set (l := atM F q ++ [m]) h
  unfold sumM addM
  unfold atM at *
  simp at this ⊢
  omega
theorem sum_le : ∀ {F : List (List Mrk)} {B : Nat}, (∀ l ∈ F, l.length ≤ B) → sumM F ≤ B * F.length
  | [], _, _ => by simp [sumM]
  | a :: F, B, h => by
    have := sum_le (F := F) (B := B) fun l hl => h l (List.mem_cons_of_mem _ hl)
    have := h a List.mem_cons_self
    unfold sumM at *
    simp [Nat.mul_succ]
    omega
theorem oCallM_of {i : Nat} {F : List D → List D → RM} {f : Env → R (List D)} {ρ : Env} {xs ds ys : List D} {d : D} (h1 : (dV i ρ).bind isL = .ok xs) (h2 : f ρ = .ok ds) (h3 : F xs ds = .ok d ys) : oCallM i F f ρ = .nx (ρ.set i (some (.lst ys))) := by
  unfold oCallM
  rw [h1, h2]
  dsimp only [DL.R.then]
  rw [h3]
theorem oAsgM_of {h : D → Env → R Env} {i : Nat} {F : List D → List D → RM} {f : Env → R (List D)} {ρ : Env} {xs ds ys : List D} {d : D} (h1 : (dV i ρ).bind isL = .ok xs) (h2 : f ρ = .ok ds) (h3 : F xs ds = .ok d ys) : oAsgM h i F f ρ = outOf (h d (ρ.set i (some (.lst ys)))) := by
  unfold oAsgM
  rw [h1, h2]
  dsimp only [DL.R.then]
  rw [h3]
theorem oAny_c {α : Type} {f : α → Bool} {l : List α} : oAny [.lst (l.map (D.bl ∘ f))] = .ok (.bl (l.any f)) := by
  rw [← List.map_map, oAny_m, List.any_map]
  rfl
def RunTwo (F : List D → R D) (ds : List D) (P : D → Prop) (Q : Ex → Prop) : Prop := (∃ d, F ds = .ok d ∧ P d) ∨ ∃ e, F ds = .exc e ∧ Q e
theorem run_both {m : Nat} {z : R D} {g : Env → Out} {ds : List D} {P : D → Prop} {Q : Ex → Prop} (h : (g (ds.map some ++ List.replicate m none)).wp (fun _ => ∃ d, z = .ok d ∧ P d) (fun d _ => P d) (fun e _ => Q e)) : RunTwo (runD m z g) ds P Q := by
  unfold RunTwo runD
  cases e : g (ds.map some ++ List.replicate m none) with
  | nx ρ => rw [e] at h; exact .inl h
  | rt d' => rw [e] at h; exact .inl ⟨d', rfl, h⟩
  | xc c ρ => rw [e] at h; exact .inr ⟨c, rfl, h⟩
  | bad => rw [e] at h; exact h.elim
section
variable {n w : Nat} {ss : List Stp} {s0 : Int}
theorem marks_two0 (hW : Web n w ss) (hn : 1 ≤ n ∧ n ≤ 100) (hw : 0 < w ∧ w ≤ 1000) (h0 : 0 ≤ s0 ∧ s0 < n) (hs : ss.length ≤ 40) : RunTwo F_marks_of [webD n w ss, .int s0] (fun d => ∃ F : List (List Mrk), d = .lst (F.map mksD) ∧ Inv n w ss s0 (at2 (stairsA n w ss s0)) F [] noTd ∧ ∀ q : Int, 0 ≤ q → q < n → (atM F q).length ≤ 200) (fun e => e = .many ∧ ∃ q : Int, 0 ≤ q ∧ q < n ∧ 200 < (at2 (stairsA n w ss s0) q).length) := by
  refine run_both ?_
  have hTi := (stairsA_is hW h0).2
  generalize at2 (stairsA n w ss s0) = T at hTi ⊢
  unfold g_marks_of
  simp [check_place_ok (w := w) (ss := ss) h0, itR1_ok (j := (n : Int)) (by omega) (by omega), upTo_map]
  rw [lcF_of (enc := fun i : Nat => D.int i) (enc' := fun _ : Nat => D.lst []) (fun _ => true) (fun k => k)]
  · rw [filter_yes]
    simp [dRepL, show (w : Int) ≤ 16777216 by omega]
    obtain ⟨h1, hp1, hi1, hm1, hl1⟩ := heap_put (w := w) (h := []) (x := ⟨nought w, s0, -1, -1, -1⟩) (fun i _ hi => absurd hi (by simp)) (fun y hy => absurd hy (by simp)) nought_len (by simp)
    rw [oCallM_of (xs := []) (ds := [itD ⟨nought w, s0, -1, -1, -1⟩]) (by simp [isL]) (by simp [dRepL, nought_row, show (w : Int) ≤ 16777216 by omega]) hp1]
    have ef : (List.range n).map (fun _ => D.lst []) = (List.replicate n ([] : List Mrk)).map mksD := by
      refine List.ext_getElem (by simp) fun i _ _ => by simp
    rw [ef]
    simp
    have aN : ∀ q : Int, atM (List.replicate n []) q = [] := fun q => by
      unfold atM
      rw [List.getD_eq_getElem?_getD, List.getElem?_replicate]
      split <;> rfl
    have I0 : Inv n w ss s0 T (List.replicate n []) h1 noTd := by
      refine ⟨by simp, hi1, fun y hy => ?_, fun q i m _ _ e => ?_, fun q _ _ => ?_, fun q _ _ m hm => ?_, fun q _ _ m hm => ?_, ?_, fun q _ _ m hm => ?_⟩
      · have := (hm1 y).mp hy
        simp at this
        subst this
        exact ⟨h0.1, h0.2, [], .inl ⟨rfl, rfl, rfl⟩⟩
      · rw [aN] at e
        simp at e
      · rw [aN]
        simp
      · rw [aN] at hm
        simp at hm
      · rw [aN] at hm
        simp at hm
      · exact .inr ⟨_, (hm1 _).mpr (.inl rfl), rfl, rfl⟩
      · rw [aN] at hm
        simp at hm
    have sum0 : sumM (List.replicate n ([] : List Mrk)) = 0 := by simp [sumM]
    refine while_wp (J := fun k ρ => ∃ (F : List (List Mrk)) (h : List It) (x4 x5 x6 x7 x8 x9 x10 x11 x12 : Option D), ρ = [some (webD n w ss), some (.int s0), some (.lst (F.map mksD)), some (.lst (h.map itD)), x4, x5, x6, x7, x8, x9, x10, x11, x12] ∧ Inv n w ss s0 T F h noTd ∧ (∀ q : Int, 0 ≤ q → q < n → (atM F q).length ≤ 200) ∧ h.length + 41 * (201 * n - sumM F) = k ∧ k ≤ 1000000) (h1.length + 41 * (201 * n - 0)) ⟨_, h1, none, none, none, none, none, none, none, none, none, by simp, I0, (fun q _ _ => by rw [aN]; simp), by rw [sum0], by simp at hl1; omega⟩ (by simp at hl1; omega) ?_
    rintro k ρ ⟨F, h, x4, x5, x6, x7, x8, x9, x10, x11, x12, rfl, I, hF, hk, hkb⟩
    have few : sumM F ≤ 200 * n := by
      have := sum_le (F := F) (B := 200) fun l hl => by
        obtain ⟨i, hi⟩ := List.mem_iff_getElem?.mp hl
        have il : i < n := by rw [← I.len]; exact (List.getElem?_eq_some_iff.mp hi).1
        have e : atM F (i : Int) = l := by
          unfold atM
          rw [Int.toNat_natCast, List.getD_eq_getElem?_getD, hi]
          rfl
        rw [← e]
        exact hF _ (by omega) (by omega)
      rwa [I.len] at this
    simp [neItems]
    by_cases hne : h = []
    · subst hne
      rw [if_pos rfl]
      exact ⟨F, rfl, I, hF⟩
    · rw [if_neg hne]
      obtain ⟨x, h', ht, hi', hx, hmin, hsub, hsup, hlen⟩ := heap_taken I.hp (I.ws hW) hne (by omega)
      have K : Tkn h h' x := ⟨hx, hmin, hi', hsub, hsup⟩
      obtain ⟨p0, pn, ws, hsrc⟩ := I.src x hx
      have wx := I.ws hW x hx
      rw [oAsgM_of (xs := h.map itD) (ds := []) (by simp [isL]) (by simp) ht]
      have kx : kIxE 2 (dV 5) [some (webD n w ss), some (.int s0), some (.lst (F.map mksD)), some (.lst (h'.map itD)), some (rowD x.r), some (.int x.pl), some (.int x.ah), some (.int x.mr), some (.int x.st), x9, x10, x11, x12] = .ok ((atM F x.pl).map mkD) := by
        unfold kIxE
        have gA : ∀ hh : x.pl.toNat < F.length, F[x.pl.toNat] = atM F x.pl := fun hh => by
          unfold atM
          rw [List.getD_eq_getElem?_getD, List.getElem?_eq_getElem hh]
          rfl
        simp [gA, I.len, p0, pn]
      simp [kx]
      rw [lcF_of (enc := mkD) (enc' := D.bl) (fun _ => true) (fun m => cov m.r x.r)]
      · rw [filter_yes]
        simp
        rw [oAny_c]
        by_cases hc : ∃ m ∈ atM F x.pl, cov m.r x.r = true
        · have ea : (atM F x.pl).any (fun m => cov m.r x.r) = true := by
            rw [List.any_eq_true]
            exact hc
          rw [ea]
          simp
          obtain ⟨m0, hm0, hc0⟩ := hc
          refine ⟨h'.length + 41 * (201 * n - sumM F), by omega, F, h', ⟨rfl, rfl⟩, I.old K hm0 hc0, hF, rfl, by omega⟩
        · have ea : (atM F x.pl).any (fun m => cov m.r x.r) = false := by
            rw [Bool.eq_false_iff]
            intro z
            rw [List.any_eq_true] at z
            exact hc z
          rw [ea]
          have hu : ∀ m ∈ atM F x.pl, cov m.r x.r = false := fun m hm => by
            rw [Bool.eq_false_iff]
            exact fun z => hc ⟨m, hm, z⟩
          obtain ⟨I2, top⟩ := I.new hW h0 hTi K hu
          have lx : x.pl.toNat < F.length := by have := I.len; omega
          have am : oMutNX 2 (dV 5) mAppend (dCons (dTup (dCons (dV 4) (dCons (dV 6) (dCons (dV 7) (dCons (dV 8) dNil))))) dNil) [some (webD n w ss), some (.int s0), some (.lst (F.map mksD)), some (.lst (h'.map itD)), some (rowD x.r), some (.int x.pl), some (.int x.ah), some (.int x.mr), some (.int x.st), x9, x10, x11, x12] = .nx [some (webD n w ss), some (.int s0), some (.lst ((addM F x.pl (toMrk x)).map mksD)), some (.lst (h'.map itD)), some (rowD x.r), some (.int x.pl), some (.int x.ah), some (.int x.mr), some (.int x.st), x9, x10, x11, x12] := by
            unfold oMutNX
            have ml : (atM F x.pl).length ≤ 200 := hF x.pl p0 pn
            have gA : ∀ hh : x.pl.toNat < F.length, F[x.pl.toNat] = atM F x.pl := fun hh => by
              unfold atM
              rw [List.getD_eq_getElem?_getD, List.getElem?_eq_getElem hh]
              rfl
            have ml2 : (atM F x.pl).length < 16777216 := by omega
            simp [gA, I.len, p0, pn, ml2]
            unfold addM
            rw [List.map_set]
            simp [toMrk, mksD]
          have gF := atM_getI (q := x.pl) I2.len p0 pn
          by_cases ml3 : 200 < (atM (addM F x.pl (toMrk x)) x.pl).length
          · have ml4 : (200 : Int) < ((atM (addM F x.pl (toMrk x)) x.pl).length : Int) := by omega
            have big := I2.few p0 pn
            simp [am, oIxU, gF, ml4]
            exact ⟨x.pl, p0, pn, by omega⟩
          have hF2 : ∀ q : Int, 0 ≤ q → q < n → (atM (addM F x.pl (toMrk x)) q).length ≤ 200 := fun q a b => by
            by_cases e : q = x.pl
            · rw [e]
              omega
            · rw [atM_add lx, if_neg (by omega)]
              exact hF q a b
          have ml4 : ¬ (200 : Int) < ((atM (addM F x.pl (toMrk x)) x.pl).length : Int) := by omega
          have la : (atM (addM F x.pl (toMrk x)) x.pl).length = (atM F x.pl).length + 1 := by
            rw [atM_add lx, if_pos rfl]
            simp
          have sF : sumM (addM F x.pl (toMrk x)) = sumM F + 1 := sum_add lx
          have gj : (atM (addM F x.pl (toMrk x)) x.pl)[(atM F x.pl).length]? = some (toMrk x) := by
            rw [atM_add lx, if_pos rfl]
            simp
          generalize addM F x.pl (toMrk x) = F' at am I2 top gF hF2 ml3 ml4 la sF gj
          simp [am, oIxU, gF, ml4, itE, enum_st]
          clear am kx ht
          refine loop_foldI (enc := fun k : Nat => D.tup [.int (k : Int), stD (gs ss k)]) (J := fun i (dn : List Nat) ρ => ∃ (g : List It) (x9 x10 x11 x12 : Option D), ρ = [some (webD n w ss), some (.int s0), some (.lst (F'.map mksD)), some (.lst (g.map itD)), some (rowD x.r), some (.int x.pl), some (.int x.ah), some (.int x.mr), some (.int x.st), x9, x10, x11, x12] ∧ Inv n w ss s0 T F' g (fun q m s => (q = x.pl ∧ m = toMrk x) ∧ s ∉ dn.map (gs ss)) ∧ g.length ≤ h'.length + i) (fun dn k => dn ++ [k]) (List.range ss.length) 0 [] _ ⟨h', x9, x10, x11, x12, rfl, I2.weak fun q m s _ _ z => ⟨z, by simp⟩, by omega⟩ ?_ ?_
          · rintro i dn k ρ hi hk ⟨g, x9, x10, x11, x12, rfl, J, gl⟩
            have hk : k < ss.length := List.mem_range.mp hk
            have hi : i < ss.length := by simpa using hi
            have hkk := gs_get hk
            have hst := hW.st _ (List.mem_of_getElem? hkk)
            obtain ⟨s, es⟩ : ∃ s, gs ss k = s := ⟨_, rfl⟩
            rw [es] at hkk hst
            simp [es]
            by_cases ca : s.a = x.pl
            · have pl := plus_ok (a := x.r) (b := s.p) (by omega) (by omega)
              have gl2 : g.length < 16777216 := by omega
              obtain ⟨g', e1, e2, e3, e4⟩ := heap_put (w := w) (h := g) (x := ⟨addR x.r s.p, s.b, x.pl, (atM F x.pl).length, k⟩) J.hp (J.ws hW) (by show (addR x.r s.p).length = w; rw [addR_len (by omega), wx]) gl2
              rw [if_pos ca]
              rw [oCallM_of (xs := g.map itD) (ds := [itD ⟨addR x.r s.p, s.b, x.pl, (atM F x.pl).length, k⟩]) (by simp [isL]) (by
                simp [pl, oIxU, gF, la]
                ) e1]
              simp
              have P := J.push hW (k := k) (j := (atM F x.pl).length) (s := s) (m0 := toMrk x) (h' := g') hkk (by rw [ca]; exact gj) top e2 (fun y => by rw [ca]; exact e3 y) fun m _ q z _ => z.1.2
              refine ⟨g', rfl, P.weak fun q m s' _ _ z => ⟨z.1.1, fun c hc e => z.1.2 (List.mem_map.mpr ⟨c, hc, e⟩), z.2⟩, by omega⟩
            · rw [if_neg ca]
              simp
              refine ⟨g, rfl, J.weak fun q m s' _ ha z => ⟨z.1, fun c hc e => z.2 (List.mem_map.mpr ⟨c, hc, e⟩), fun e => ca ?_⟩, by omega⟩
              rw [← e, ha, z.1.1]
          · rintro ρ ⟨g, x9, x10, x11, x12, rfl, J, gl⟩
            rw [Nat.zero_add, List.length_range] at gl
            have ef : ∀ (l d : List Nat), l.foldl (fun dn k => dn ++ [k]) d = d ++ l := fun l => by
              induction l with
              | nil => intro d; simp
              | cons a l ih => intro d; rw [List.foldl_cons, ih]; simp
            rw [ef] at J
            have J2 : Inv n w ss s0 T F' g noTd := J.weak fun q m s hs _ z => z.2 (by
              obtain ⟨k, hk⟩ := List.mem_iff_getElem?.mp hs
              have kl := (List.getElem?_eq_some_iff.mp hk).1
              have := gs_get kl
              rw [hk] at this
              cases this
              exact List.mem_map.mpr ⟨k, by simpa using kl, rfl⟩)
            refine ⟨g.length + 41 * (201 * n - sumM F'), by omega, F', g, ⟨_, _, _, _, _, _, _, _, _, rfl⟩, J2, hF2, rfl, by omega⟩
      · intro m hm
        have := I.fl hW p0 pn hm
        have pc := pcovers_ok (a := m.r) (b := x.r) (by omega) (by omega)
        refine ⟨_, rfl, rfl, fun _ => ?_⟩
        simp [getI_cons0, pc]
  · intro k hk
    exact ⟨_, rfl, rfl, fun _ => rfl⟩
theorem marks_two (hW : Web n w ss) (hn : 1 ≤ n ∧ n ≤ 100) (hw : 0 < w ∧ w ≤ 1000) (h0 : 0 ≤ s0 ∧ s0 < n) (hs : ss.length ≤ 40) : (∃ F : List (List Mrk), F_marks_of [webD n w ss, .int s0] = .ok (.lst (F.map mksD)) ∧ Inv n w ss s0 (at2 (stairsA n w ss s0)) F [] noTd ∧ ∀ q : Int, 0 ≤ q → q < n → (atM F q).length ≤ 200) ∨ (F_marks_of [webD n w ss, .int s0] = .exc .many ∧ ∃ q : Int, 0 ≤ q ∧ q < n ∧ 200 < (at2 (stairsA n w ss s0) q).length) := by
  have z : RunTwo F_marks_of [webD n w ss, .int s0] (fun d => ∃ F : List (List Mrk), d = .lst (F.map mksD) ∧ Inv n w ss s0 (at2 (stairsA n w ss s0)) F [] noTd ∧ ∀ q : Int, 0 ≤ q → q < n → (atM F q).length ≤ 200) (fun e => e = .many ∧ ∃ q : Int, 0 ≤ q ∧ q < n ∧ 200 < (at2 (stairsA n w ss s0) q).length) := by
    exact marks_two0 hW hn hw h0 hs
  rcases z with ⟨d, e, F, rfl, k⟩ | ⟨c, e, rfl, k⟩
  · exact .inl ⟨F, e, k⟩
  · exact .inr ⟨e, k⟩
end
end DL

set_option Elab.async false
set_option linter.all false
set_option maxRecDepth 100000
set_option maxHeartbeats 4000000
set_option autoImplicit false
/-! W8: stairs, told. -/
namespace DL
open PySem
theorem run_xc {m : Nat} {z : R D} {g : Env → Out} {ds : List D} {c : Ex} (h : (g (ds.map some ++ List.replicate m none)).wp (fun _ => False) (fun _ _ => False) (fun e _ => e = c)) : runD m z g ds = .exc c := by
  unfold runD
  cases e : g (ds.map some ++ List.replicate m none) with
  | nx ρ => rw [e] at h; exact h.elim
  | rt d' => rw [e] at h; exact h.elim
  | xc c' ρ => rw [e] at h; exact congrArg R.exc h
  | bad => rw [e] at h; exact h.elim
section
variable {n w : Nat} {ss : List Stp} {s0 : Int}
theorem stairs_of_marks (hW : Web n w ss) (h0 : 0 ≤ s0 ∧ s0 < n) {F : List (List Mrk)} (I : Inv n w ss s0 (at2 (stairsA n w ss s0)) F [] noTd) : F.map (fun ms => ms.map Mrk.r) = stairsA n w ss s0 := by
  have hTi := stairsA_is hW h0 (n := n)
  refine List.ext_getElem (by rw [List.length_map, I.len, hTi.1]) fun i h1 h2 => ?_
  have hi : i < F.length := by simpa using h1
  have il : i < n := by rw [← I.len]; exact hi
  have := I.done hW h0 hTi.2 (q := (i : Int)) (by omega) (by omega)
  unfold atM at2 at this
  rw [Int.toNat_natCast, List.getD_eq_getElem?_getD, List.getD_eq_getElem?_getD, List.getElem?_eq_getElem hi, List.getElem?_eq_getElem h2] at this
  simpa using this
/-- whether all stairs are short -/
def shortB (n w : Nat) (ss : List Stp) (s0 : Int) : Bool := (stairsA n w ss s0).all fun rs => decide (rs.length ≤ 200)
theorem shortB_iff (hW : Web n w ss) (h0 : 0 ≤ s0 ∧ s0 < n) : shortB n w ss s0 = true ↔ ∀ q : Int, 0 ≤ q → q < n → (at2 (stairsA n w ss s0) q).length ≤ 200 := by
  have hl := (stairsA_is hW h0 (n := n)).1
  unfold shortB
  rw [List.all_eq_true]
  constructor
  · intro h q hq hqn
    have ql : q.toNat < (stairsA n w ss s0).length := by omega
    have := h (at2 (stairsA n w ss s0) q) (by
      unfold at2
      rw [List.getD_eq_getElem?_getD, List.getElem?_eq_getElem ql]
      exact List.getElem_mem ql)
    simpa using this
  · intro h rs hrs
    obtain ⟨i, hi⟩ := List.mem_iff_getElem?.mp hrs
    have il := (List.getElem?_eq_some_iff.mp hi).1
    have := h (i : Int) (by omega) (by omega)
    unfold at2 at this
    rw [Int.toNat_natCast, List.getD_eq_getElem?_getD, hi] at this
    simpa using this
theorem marks_if (hW : Web n w ss) (hn : 1 ≤ n ∧ n ≤ 100) (hw : 0 < w ∧ w ≤ 1000) (h0 : 0 ≤ s0 ∧ s0 < n) (hs : ss.length ≤ 40) : if shortB n w ss s0 = true then ∃ F : List (List Mrk), F_marks_of [webD n w ss, .int s0] = .ok (.lst (F.map mksD)) ∧ Inv n w ss s0 (at2 (stairsA n w ss s0)) F [] noTd else F_marks_of [webD n w ss, .int s0] = .exc .many := by
  rcases marks_two hW hn hw h0 hs with ⟨F, e, I, hF⟩ | ⟨e, q, a, b, c⟩
  · rw [if_pos]
    · exact ⟨F, e, I⟩
    · rw [shortB_iff hW h0]
      intro q a b
      rw [← I.done hW h0 (stairsA_is hW h0).2 a b, List.length_map]
      exact hF q a b
  · rw [if_neg]
    · exact e
    · rw [shortB_iff hW h0]
      intro z
      have := z q a b
      omega
theorem stairs_if (hW : Web n w ss) (hn : 1 ≤ n ∧ n ≤ 100) (hw : 0 < w ∧ w ≤ 1000) (h0 : 0 ≤ s0 ∧ s0 < n) (hs : ss.length ≤ 40) : F_stairs [webD n w ss, .int s0] = if shortB n w ss s0 = true then .ok (.lst ((stairsA n w ss s0).map rowsD)) else .exc .many := by
  have M := marks_if hW hn hw h0 hs
  split at M
  · rename_i c
    rw [if_pos c]
    obtain ⟨F, e, I⟩ := M
    refine run_ok ?_
    unfold g_stairs
    simp [e]
    rw [lcF_of (enc := mksD) (enc' := rowsD) (fun _ => true) (fun ms => ms.map Mrk.r)]
    · rw [filter_yes, stairs_of_marks hW h0 I]
      simp
    · intro ms hm
      refine ⟨_, rfl, rfl, fun _ => ?_⟩
      simp
      rw [lcF_of (enc := mkD) (enc' := rowD) (fun _ => true) (fun m => m.r)]
      · rw [filter_yes]
      · intro m hm
        refine ⟨_, rfl, rfl, fun _ => ?_⟩
        simp [getI_cons0]
  · rename_i c
    rw [if_neg c]
    unfold F_stairs runD g_stairs
    simp [M]
theorem stairs_out {q : Int} (h : ¬ (0 ≤ q ∧ q < n)) : F_marks_of [webD n w ss, .int q] = .exc .place := by
  have : F_check_place [webD n w ss, .int q] = .exc .place := by
    refine run_xc ?_
    unfold g_check_place
    by_cases c : q < 0
    · simp [c]
    · have c2 : (n : Int) ≤ q := by omega
      simp [c, c2]
  refine run_xc ?_
  unfold g_marks_of
  simp [this]
theorem stairs_place {q : Int} (h : ¬ (0 ≤ q ∧ q < n)) : F_stairs [webD n w ss, .int q] = .exc .place := by
  refine run_xc ?_
  unfold g_stairs
  simp [stairs_out h]
end
end DL

set_option Elab.async false
set_option linter.all false
set_option maxRecDepth 100000
set_option maxHeartbeats 4000000
set_option autoImplicit false
/-! W12: ways over a place. -/
namespace DL
open PySem
def sumsA (xs ys : List (List Int)) : List (List Int) := xs.flatMap fun x => ys.map fun y => addR x y
theorem sumsA_len {xs ys : List (List Int)} : (sumsA xs ys).length = xs.length * ys.length := by
  unfold sumsA
  rw [flat_len2 (b := ys.length) fun x _ => List.length_map _]
theorem sumsA_wd {w : Nat} {xs ys : List (List Int)} (hx : ∀ r ∈ xs, r.length = w) (hy : ∀ r ∈ ys, r.length = w) : Wd w (sumsA xs ys) := fun r hr => by
  obtain ⟨x, h1, h2⟩ := List.mem_flatMap.mp hr
  obtain ⟨y, h3, rfl⟩ := List.mem_map.mp h2
  rw [addR_len (by rw [hx x h1, hy y h3]), hx x h1]
theorem sumsA_snoc {xs ys : List (List Int)} {x : List Int} : sumsA (xs ++ [x]) ys = sumsA xs ys ++ ys.map fun y => addR x y := by
  simp [sumsA]
def overA (n w : Nat) (ss : List Stp) (a g p : Int) : List (List Int) := stairA (sumsA (at2 (stairsA n w ss a) p) (at2 (stairsA n w ss p) g))
def inB (n : Nat) (q : Int) : Bool := decide (0 ≤ q ∧ q < n)
/-- what over tells -/
def overR (n w : Nat) (ss : List Stp) (a g p : Int) : Ex ⊕ List (List Int) :=
  if ¬ ((0 ≤ a ∧ a < n) ∧ (0 ≤ g ∧ g < n) ∧ (0 ≤ p ∧ p < n)) then .inl .place
  else if (shortB n w ss a && shortB n w ss p) = false then .inl .many
  else if 200 < (overA n w ss a g p).length then .inl .many
  else .inr (overA n w ss a g p)
def exR : Ex ⊕ List (List Int) → R D
  | .inl e => .exc e
  | .inr rs => .ok (rowsD rs)
section
variable {n w : Nat} {ss : List Stp} {s0 : Int}
theorem check_place_no {q : Int} (h : ¬ (0 ≤ q ∧ q < n)) : F_check_place [webD n w ss, .int q] = .exc .place := by
  refine run_xc ?_
  unfold g_check_place
  by_cases c : q < 0
  · simp [c]
  · have c2 : (n : Int) ≤ q := by omega
    simp [c, c2]
theorem at2_wd (hW : Web n w ss) {a q : Int} (h0 : 0 ≤ a ∧ a < n) (hq : 0 ≤ q ∧ q < n) : ∀ r ∈ at2 (stairsA n w ss a) q, r.length = w := fun r hr => by
  have S := (stairsA_is hW h0).2 q hq.1 hq.2
  exact S.wd r (S.sub r hr)
theorem over_ok (d : Drawn n w ss) (a g p : Int) : F_over [webD n w ss, .int a, .int g, .int p] = exR (overR n w ss a g p) := by
  have hW := d.web
  have hn := d.n1
  have hw := d.w1
  unfold overR
  by_cases c : (0 ≤ a ∧ a < n) ∧ (0 ≤ g ∧ g < n) ∧ (0 ≤ p ∧ p < n)
  · rw [if_neg (fun z => z c)]
    have ca := check_place_ok (w := w) (ss := ss) c.1
    have cg := check_place_ok (w := w) (ss := ss) c.2.1
    have cp := check_place_ok (w := w) (ss := ss) c.2.2
    have sa := stairs_if hW (by omega) (by omega) c.1 d.l
    have sp := stairs_if hW (by omega) (by omega) c.2.2 d.l
    cases ha : shortB n w ss a with
    | false =>
      rw [ha, if_neg (by simp)] at sa
      rw [if_pos (by simp)]
      refine run_xc ?_
      unfold g_over
      simp [loop_cons, loop, ca, cg, cp, sa]
    | true =>
      rw [ha, if_pos rfl] at sa
      have ga := at2_get (stairsA_is hW c.1).1 c.2.2.1 c.2.2.2 (q := p)
      cases hp : shortB n w ss p with
      | false =>
        rw [hp, if_neg (by simp)] at sp
        rw [if_pos (by simp)]
        refine run_xc ?_
        unfold g_over
        simp [loop_cons, loop, ca, cg, cp, sa, sp, ga]
      | true =>
        rw [hp, if_pos rfl] at sp
        rw [if_neg (by simp)]
        have gp := at2_get (stairsA_is hW c.2.2).1 c.2.1.1 c.2.1.2 (q := g)
        have wa := at2_wd hW c.1 c.2.2
        have wp := at2_wd hW c.2.2 c.2.1
        have la := (shortB_iff hW c.1).mp ha p c.2.2.1 c.2.2.2
        have lp := (shortB_iff hW c.2.2).mp hp g c.2.1.1 c.2.1.2
        unfold overA
        generalize at2 (stairsA n w ss a) p = xs at *
        generalize at2 (stairsA n w ss p) g = ys at *
        have z : RunTwo F_over [webD n w ss, .int a, .int g, .int p] (fun d => ¬ 200 < (stairA (sumsA xs ys)).length ∧ d = rowsD (stairA (sumsA xs ys))) (fun e => 200 < (stairA (sumsA xs ys)).length ∧ e = .many) := by
          refine run_both ?_
          unfold g_over
          simp [loop_cons, loop, ca, cg, cp, sa, sp, ga, gp]
          refine loop_foldI (enc := rowD) (J := fun i (dn : List (List Int)) ρ => ∃ (x8 x10 : Option D), (∀ x ∈ dn, x ∈ xs) ∧ dn.length = i ∧ ρ = [some (webD n w ss), some (.int a), some (.int g), some (.int p), some (.int p), some (rowsD xs), some (rowsD ys), some (rowsD (sumsA dn ys)), x8, none, x10]) (fun dn x => dn ++ [x]) xs 0 [] _ ⟨none, none, by simp, rfl, rfl⟩ ?_ ?_
          · rintro i dn x ρ hi hx ⟨x8, x10, hd, hdl, rfl⟩
            have hdn : dn.length ≤ 200 := by omega
            have hm : dn.length * ys.length ≤ 200 * 200 := Nat.mul_le_mul hdn lp
            have oa : oAdd (rowsD (sumsA dn ys)) (.lst ((ys.map fun y => addR x y).map rowD)) = .ok (rowsD (sumsA (dn ++ [x]) ys)) := by
              show (if _ then _ else _) = _
              rw [sumsA_snoc]
              rw [if_pos (by simp [sumsA_len]; omega)]
              simp
            simp
            rw [lcF_of (enc := rowD) (enc' := rowD) (fun _ => true) (fun y => addR x y)]
            · rw [filter_yes]
              rw [DL.R.bind_ok, oa]
              simp
              exact ⟨fun y hy => hy.elim (hd y) fun e => e ▸ hx, by omega⟩
            · intro y hy
              refine ⟨_, rfl, rfl, fun _ => ?_⟩
              have := wa x hx
              have := wp y hy
              simp [plus_ok (a := x) (b := y) (by omega) (by omega)]
          · rintro ρ ⟨x8, x10, hd, hdl, rfl⟩
            have ef : ∀ (l d : List (List Int)), l.foldl (fun dn k => dn ++ [k]) d = d ++ l := fun l => by
              induction l with
              | nil => intro d; simp
              | cons a l ih => intro d; rw [List.foldl_cons, ih]; simp
            rw [ef, List.nil_append]
            have hm : xs.length * ys.length ≤ 200 * 200 := Nat.mul_le_mul la lp
            simp [stair_of_ok (rs := sumsA xs ys) (w := w) (sumsA_wd wa wp) (by omega) (by omega) (by rw [sumsA_len]; omega)]
            by_cases c9 : 200 < (stairA (sumsA xs ys)).length
            · have c10 : (200 : Int) < ((stairA (sumsA xs ys)).length : Int) := by omega
              simp [c9, c10]
            · have c10 : ¬ (200 : Int) < ((stairA (sumsA xs ys)).length : Int) := by omega
              simp [c10]
              omega
        rcases z with ⟨d, e, z1, rfl⟩ | ⟨c, e, z1, rfl⟩
        · rw [if_neg z1]
          exact e
        · rw [if_pos z1]
          exact e
  · rw [if_pos c]
    refine run_xc ?_
    unfold g_over
    by_cases c1 : 0 ≤ a ∧ a < n
    · by_cases c2 : 0 ≤ g ∧ g < n
      · have c3 : ¬ (0 ≤ p ∧ p < n) := fun z => c ⟨c1, c2, z⟩
        simp [loop_cons, loop, check_place_ok (w := w) (ss := ss) c1, check_place_ok (w := w) (ss := ss) c2, check_place_no (w := w) (ss := ss) c3]
      · simp [loop_cons, loop, check_place_ok (w := w) (ss := ss) c1, check_place_no (w := w) (ss := ss) c2]
    · simp [loop_cons, loop, check_place_no (w := w) (ss := ss) c1]
end
end DL

set_option Elab.async false
set_option linter.all false
set_option maxRecDepth 100000
set_option maxHeartbeats 4000000
set_option autoImplicit false
/-! P3_k41: ways over a place. -/
namespace DL
open PySem
@[simp] theorem dChain_eq {o o' : D → D → R D} {f g h : Env → R D} {ρ : Env} : dChain o o' f g h ρ = (f ρ).bind fun x => (g ρ).bind fun y => (o x y).bind fun z => (asB z).bind fun b => if b = true then (h ρ).bind fun u => o' y u else .ok (.bl false) := rfl
section
variable {n w : Nat} {ss : List Stp} {s0 : Int}
theorem max_short {a p : Int} (hW : Web n w ss) (hn : 1 ≤ n) (ha : 0 ≤ a ∧ a < n) : ∃ m : Int, oMax [.lst (((stairsA n w ss a ++ stairsA n w ss p).map fun rs => (rs.length : Int)).map .int)] = .ok (.int m) ∧ (200 < m ↔ (shortB n w ss a && shortB n w ss p) = false) := by
  have hl := (stairsA_is hW ha).1
  have ne : (stairsA n w ss a ++ stairsA n w ss p).map (fun rs => (rs.length : Int)) ≠ [] := by
    intro z
    have := congrArg List.length z
    simp at this
    have := congrArg List.length this.1
    rw [hl] at this
    simp at this
    omega
  refine ⟨_, oMax_is ne, ?_⟩
  have mm := maxL_mem ne
  have key : (shortB n w ss a && shortB n w ss p) = true ↔ ∀ rs ∈ stairsA n w ss a ++ stairsA n w ss p, rs.length ≤ 200 := by
    unfold shortB
    rw [← List.all_append, List.all_eq_true]
    exact ⟨fun h rs hr => of_decide_eq_true (h rs hr), fun h rs hr => decide_eq_true (h rs hr)⟩
  rw [← Bool.not_eq_true, key]
  constructor
  · intro h z
    obtain ⟨rs, hr, e⟩ := List.mem_map.mp mm.1
    have := z rs hr
    omega
  · intro h
    refine Classical.byContradiction fun c => h fun rs hr => ?_
    have := mm.2 _ (List.mem_map.mpr ⟨rs, hr, rfl⟩)
    omega
/-- what is due -/
def dueR (n w : Nat) (ss : List Stp) (a g p : Int) : D :=
  if ¬ ((0 ≤ a ∧ a < n) ∧ (0 ≤ g ∧ g < n) ∧ (0 ≤ p ∧ p < n)) then sD "place"
  else if (shortB n w ss a && shortB n w ss p) = false then sD "many"
  else if 900 < (at2 (stairsA n w ss a) p).length * (at2 (stairsA n w ss p) g).length then sD "long"
  else if 200 < (overA n w ss a g p).length then sD "many"
  else rowsD (overA n w ss a g p)
theorem due_ok (d : Drawn n w ss) (a g p : Int) : F_law_due [webD n w ss, .int a, .int g, .int p] = .ok (dueR n w ss a g p) := by
  have hW := d.web
  have hn := d.n1
  have hw := d.w1
  refine run_ok ?_
  unfold g_law_due dueR
  by_cases c : (0 ≤ a ∧ a < n) ∧ (0 ≤ g ∧ g < n) ∧ (0 ≤ p ∧ p < n)
  · rw [if_neg (fun z => z c)]
    have sa := law_stairs_ok hW (by omega) (by omega) c.1 (d.small c.1)
    have sp := law_stairs_ok hW (by omega) (by omega) c.2.2 (d.small c.2.2)
    have ga := at2_get (stairsA_is hW c.1).1 c.2.2.1 c.2.2.2 (q := p)
    have gp := at2_get (stairsA_is hW c.2.2).1 c.2.1.1 c.2.1.2 (q := g)
    have wa := at2_wd hW c.1 c.2.2
    have wp := at2_wd hW c.2.2 c.2.1
    obtain ⟨m, em, hm⟩ := max_short (a := a) (p := p) hW hn.1 c.1
    have hsh : (shortB n w ss a && shortB n w ss p) = true → (at2 (stairsA n w ss a) p).length ≤ 200 ∧ (at2 (stairsA n w ss p) g).length ≤ 200 := fun z => by
      rw [Bool.and_eq_true] at z
      exact ⟨(shortB_iff hW c.1).mp z.1 p c.2.2.1 c.2.2.2, (shortB_iff hW c.2.2).mp z.2 g c.2.1.1 c.2.1.2⟩
    generalize (shortB n w ss a && shortB n w ss p) = sb at hm hsh ⊢
    simp [loop_cons, loop, c.1.1, c.1.2, c.2.1.1, c.2.1.2, c.2.2.1, c.2.2.2, sa, sp, ga, gp]
    have oa : oAdd (.lst ((stairsA n w ss a).map rowsD)) (.lst ((stairsA n w ss p).map rowsD)) = .ok (.lst ((stairsA n w ss a ++ stairsA n w ss p).map rowsD)) := by
      show (if _ then _ else _) = _
      rw [if_pos (by simp [(stairsA_is hW c.1).1, (stairsA_is hW c.2.2).1]; omega)]
      simp
    simp [oa, -List.map_append]
    rw [lcF_of (enc := rowsD) (enc' := D.int) (fun _ => true) (fun rs => (rs.length : Int))]
    · rw [filter_yes]
      simp only [DL.R.bind_ok, em]
      unfold overA
      generalize at2 (stairsA n w ss a) p = xs at *
      generalize at2 (stairsA n w ss p) g = ys at *
      cases sb with
      | false =>
        have := hm.mpr rfl
        simp [this]
      | true =>
        have hm2 : ¬ 200 < m := fun z => by
          have := hm.mp z
          cases this
        obtain ⟨la, lp⟩ := hsh rfl
        have hp : xs.length * ys.length ≤ 200 * 200 := Nat.mul_le_mul la lp
        have om := oMul_ok (i := (xs.length : Int)) (j := (ys.length : Int)) ⟨by omega, by omega⟩ ⟨by omega, by omega⟩
        have ec : ((xs.length : Int) * (ys.length : Int)) = ((xs.length * ys.length : Nat) : Int) := by simp
        rw [ec] at om
        simp [hm2, ga, gp, om]
        by_cases c9 : 900 < xs.length * ys.length
        · have c10 : (900 : Int) < (xs.length : Int) * (ys.length : Int) := by rw [ec]; omega
          simp [c9, c10]
        · have c10 : ¬ (900 : Int) < (xs.length : Int) * (ys.length : Int) := by rw [ec]; omega
          simp [c9, c10, ga]
          refine loop_foldI (enc := rowD) (J := fun i (dn : List (List Int)) ρ => ∃ (x8 x10 x11 : Option D), (∀ x ∈ dn, x ∈ xs) ∧ dn.length = i ∧ ρ = [some (webD n w ss), some (.int a), some (.int g), some (.int p), some (.int p), some (.lst ((stairsA n w ss a).map rowsD)), some (.lst ((stairsA n w ss p).map rowsD)), some (rowsD (sumsA dn ys)), x8, none, x10, x11]) (fun dn x => dn ++ [x]) xs 0 [] _ ⟨none, none, none, by simp, rfl, rfl⟩ ?_ ?_
          · rintro i dn x ρ hi hx ⟨x8, x10, x11, hd, hdl, rfl⟩
            have hdn : dn.length ≤ 200 := by omega
            have hm : dn.length * ys.length ≤ 200 * 200 := Nat.mul_le_mul hdn lp
            have oa : oAdd (rowsD (sumsA dn ys)) (.lst ((ys.map fun y => addR x y).map rowD)) = .ok (rowsD (sumsA (dn ++ [x]) ys)) := by
              show (if _ then _ else _) = _
              rw [sumsA_snoc]
              rw [if_pos (by simp [sumsA_len]; omega)]
              simp
            simp [gp]
            rw [lcF_of (enc := rowD) (enc' := rowD) (fun _ => true) (fun y => addR x y)]
            · rw [filter_yes]
              rw [DL.R.bind_ok, oa]
              simp
              exact ⟨fun y hy => hy.elim (hd y) fun e => e ▸ hx, by omega⟩
            · intro y hy
              refine ⟨_, rfl, rfl, fun _ => ?_⟩
              have := wa x hx
              have := wp y hy
              simp [law_plus_ok (a := x) (b := y) (by omega) (by omega)]
          · rintro ρ ⟨x8, x10, x11, hd, hdl, rfl⟩
            have ef : ∀ (l d : List (List Int)), l.foldl (fun dn k => dn ++ [k]) d = d ++ l := fun l => by
              induction l with
              | nil => intro d; simp
              | cons a l ih => intro d; rw [List.foldl_cons, ih]; simp
            rw [ef, List.nil_append]
            have sl := sortU_len (sumsA xs ys)
            have sl2 := sumsA_len (xs := xs) (ys := ys)
            simp [stair_ok (rs := sumsA xs ys) (w := w) (sumsA_wd wa wp) (by omega) (by omega) (by omega)]
            by_cases c11 : 200 < (stairA (sumsA xs ys)).length
            · have c12 : (200 : Int) < ((stairA (sumsA xs ys)).length : Int) := by omega
              simp [c11, c12]
            · have c12 : ¬ (200 : Int) < ((stairA (sumsA xs ys)).length : Int) := by omega
              simp [c11, c12]
    · intro rs hrs
      refine ⟨_, rfl, rfl, fun _ => ?_⟩
      simp
  · rw [if_pos c]
    by_cases c1 : 0 ≤ a ∧ a < n
    · by_cases c2 : 0 ≤ g ∧ g < n
      · have c3 : ¬ (0 ≤ p ∧ p < n) := fun z => c ⟨c1, c2, z⟩
        by_cases c4 : 0 ≤ p
        · have c5 : ¬ p < n := fun z => c3 ⟨c4, z⟩
          simp [loop_cons, loop, c1.1, c1.2, c2.1, c2.2, c4, c5]
        · simp [loop_cons, loop, c1.1, c1.2, c2.1, c2.2, c4]
      · by_cases c4 : 0 ≤ g
        · have c5 : ¬ g < n := fun z => c2 ⟨c4, z⟩
          simp [loop_cons, loop, c1.1, c1.2, c4, c5]
        · simp [loop_cons, loop, c1.1, c1.2, c4]
    · by_cases c4 : 0 ≤ a
      · have c5 : ¬ a < n := fun z => c1 ⟨c4, z⟩
        simp [loop_cons, loop, c4, c5]
      · simp [loop_cons, loop, c4]
/-- what is told -/
def tolR : Ex ⊕ List (List Int) → D
  | .inl e => sD (exN e)
  | .inr rs => rowsD rs
theorem told_ok (d : Drawn n w ss) (a g p : Int) : F_law_told_v4 [webD n w ss, .int a, .int g, .int p] = .ok (tolR (overR n w ss a g p)) := by
  have ov := over_ok d a g p
  refine run_ok ?_
  unfold g_law_told_v4
  simp [-oTry_eq, dFlat]
  refine wp_mid (I := fun ρ => ρ = match overR n w ss a g p with
    | .inl e => [some (webD n w ss), some (.int a), some (.int g), some (.int p), some (.exc e), none, none]
    | .inr rs => [some (webD n w ss), some (.int a), some (.int g), some (.int p), some .non, some (rowsD rs), none]) (wp_try ?_) ?_
  · cases e : overR n w ss a g p with
    | inl e =>
      rw [e] at ov
      simp [ov, exR, wipeR]
    | inr rs =>
      rw [e] at ov
      simp [ov, exR]
  · rintro ρ rfl
    cases overR n w ss a g p with
    | inl e =>
      simp [kept_named, tolR]
      rw [if_pos (show flat (sD (exN e)) = true from rfl)]
      rfl
    | inr rs =>
      simp [tolR]
end
/-! the law -/
theorem cl_s_long : Cl 0 (sD "long") := by
  have : (toP (sD "long")).canLay0 = true := by decide +kernel
  simpa [Cl] using this
theorem cl_s_many : Cl 0 (sD "many") := by
  have : (toP (sD "many")).canLay0 = true := by decide +kernel
  simpa [Cl] using this
theorem cl_s_place : Cl 0 (sD "place") := by
  have : (toP (sD "place")).canLay0 = true := by decide +kernel
  simpa [Cl] using this
theorem due_two (n w : Nat) (ss : List Stp) (a g p : Int) : dueR n w ss a g p = sD "long" ∨ (dueR n w ss a g p = tolR (overR n w ss a g p) ∧ ∃ k, k ≤ 2 ∧ Cl k (tolR (overR n w ss a g p)) ∧ oEq (tolR (overR n w ss a g p)) (sD "long") = .ok (.bl false)) := by
  have pl : ∃ k, k ≤ 2 ∧ Cl k (sD "place") ∧ oEq (sD "place") (sD "long") = .ok (.bl false) := ⟨0, by omega, cl_s_place, (oEq_cl cl_s_place cl_s_long).trans rfl⟩
  have mn : ∃ k, k ≤ 2 ∧ Cl k (sD "many") ∧ oEq (sD "many") (sD "long") = .ok (.bl false) := ⟨0, by omega, cl_s_many, (oEq_cl cl_s_many cl_s_long).trans rfl⟩
  have rw2 : ∀ rs : List (List Int), ∃ k, k ≤ 2 ∧ Cl k (rowsD rs) ∧ oEq (rowsD rs) (sD "long") = .ok (.bl false) := fun rs => ⟨2, by omega, cl_rows, by
    rw [oEq_cl cl_rows cl_s_long]
    have zz : deq (rowsD rs) (sD "long") = false := by
      rw [Bool.eq_false_iff]
      intro z
      have := (deq_iff cl_rows cl_s_long).mp z
      cases this
    rw [zz]⟩
  unfold dueR overR
  split
  · exact .inr ⟨rfl, pl⟩
  · split
    · exact .inr ⟨rfl, mn⟩
    · split
      · exact .inl rfl
      · split
        · exact .inr ⟨rfl, mn⟩
        · exact .inr ⟨rfl, rw2 _⟩
theorem tol_list (n w : Nat) (ss : List Stp) (a g p : Int) : (∃ x, tolR (overR n w ss a g p) = sD x) ∨ ∃ rs, tolR (overR n w ss a g p) = rowsD rs ∧ rs.length ≤ 200 := by
  unfold overR
  split
  · exact .inl ⟨_, rfl⟩
  · split
    · exact .inl ⟨_, rfl⟩
    · split
      · exact .inl ⟨_, rfl⟩
      · exact .inr ⟨_, rfl, by omega⟩
theorem pure_k41 (ns : List Int) (hn : ns.length ≤ 63) : F_law_k41 [.lst (ns.map .int)] = .ok (.bl true) := by
  refine run_ok ?_
  unfold g_law_k41
  obtain ⟨ms, hl, e1⟩ := cut_ex ns
  obtain ⟨n, w, ss, e2, d⟩ := drawn_ex ms
  obtain ⟨m1, b1, c1⟩ := mix_ok (c := cellA ms 0) (k := 6) (by decide) (by decide)
  have hn1 := d.n1
  have n0 : 0 < n := by omega
  simp [e1, e2, F_cell_at (ns := ms) (k := 0) (by decide), m1, n0, oPow_39]
  generalize mixA (cellA ms 0) 6 = m at *
  refine wp_mid (I := fun ρ => ∃ a g p : Int, ρ = [some (.lst (ms.map .int)), some (webD n w ss), some (.int m), some (.lst [.int a, .int g, .int p]), none, none, none, none]) ?_ ?_
  · by_cases h : m / 4096 % 8 = 1
    · rw [if_pos h]
      obtain ⟨x, ex, _⟩ := getI_ints (xs := [-1, (n : Int), 1000000000000000000000000000000000000000]) (k := m / 98304 % 3) (by omega) (by simp; omega)
      simp at ex
      have h0 : 0 ≤ m / 32768 % 3 := by omega
      have h3 : m / 32768 % 3 < 3 := by omega
      simp [ex, h0, h3]
      have : m / 32768 % 3 = 0 ∨ m / 32768 % 3 = 1 ∨ m / 32768 % 3 = 2 := by omega
      rcases this with e | e | e
      · simp [e]
      · simp [e]
      · simp [e]
    · rw [if_neg h]
      exact ⟨_, _, _, rfl⟩
  · rintro ρ ⟨a, g, p, rfl⟩
    have du := due_ok d a g p
    have to := told_ok d a g p
    have g0 : getI [D.int a, D.int g, D.int p] 0 = .ok (.int a) := getI_ok (by decide) rfl
    have g1 : getI [D.int a, D.int g, D.int p] 1 = .ok (.int g) := getI_ok (by decide) rfl
    have g2 : getI [D.int a, D.int g, D.int p] 2 = .ok (.int p) := getI_ok (by decide) rfl
    simp [g0, g1, g2, du]
    rcases due_two n w ss a g p with e | ⟨e, k, hk, ck, ne⟩
    · rw [e, oEq_cl cl_s_long cl_s_long, deq_self cl_s_long]
      simp
    · have tl := tol_list n w ss a g p
      rw [e, ne]
      generalize tolR (overR n w ss a g p) = T at *
      have nt : oNe T T = .ok (.bl false) := by
        rw [oNe_cl ck ck (by omega) (by omega), deq_self ck]
        rfl
      have nw : oNe (webD n w ss) (webD n w ss) = .ok (.bl false) := by
        rw [oNe_cl cl_web cl_web, deq_self cl_web]
        rfl
      simp [itR1_ok (j := 2) (by omega) (by omega), upTo_map]
      refine loop_foldI (enc := fun i : Nat => D.int (i : Int)) (J := fun i (_ : Unit) ρ => ∃ (x6 x7 : Option D), ρ = [some (.lst (ms.map .int)), some (webD n w ss), some (.int m), some (.lst [.int a, .int g, .int p]), some (webD n w ss), some T, x6, x7]) (fun _ _ => ()) (List.range 2) 0 () _ ⟨none, none, rfl⟩ ?_ ?_
      · rintro i _ j ρ hi hj ⟨x6, x7, rfl⟩
        have to2 : F_law_told_v4 [.tup [.int n, .int w, .lst (ss.map stD)], .int a, .int g, .int p] = .ok T := to
        have nw2 : oNe (.tup [.int n, .int w, .lst (ss.map stD)]) (.tup [.int n, .int w, .lst (ss.map stD)]) = .ok (.bl false) := nw
        simp [g0, g1, g2, to2, nt, nw2]
        rcases tl with ⟨x, rfl⟩ | ⟨rs, rfl, hrs⟩
        · have il : oIsi .list (sD x) = .ok (.bl false) := rfl
          simp [il]
        · have : rs.length < 16777216 := by omega
          simp [this]
      · rintro ρ ⟨x6, x7, rfl⟩
        trivial
end DL

set_option Elab.async false
set_option linter.all false
set_option maxRecDepth 100000
set_option maxHeartbeats 4000000
namespace DL
open PySem PySem.Spec PyProof.Rows L2
def topS (i : Nat) : Stmt := PySem.Challenge.pw_pricestair_k41_ways_over_a_place.main.body.getD i (.Pass ⟨0, 0, 0, 0⟩)
structure Cn (mg : Str → Option Value) : Prop where
  g_MOST : ConI mg "MOST" 200
section
variable {P : Program} {wd : World} {K : PySem.W.Frag} {mg : Str → Option Value} {base : Heap} {ad : Adr} {CS : Addr} {f : Addr} {fd : FuncData}
abbrev s_covers : Stmt := topS 11
theorem sc_covers : FnScope ["one", "other", "side"] ["one", "other"] (defScope s_covers) := ⟨rfl, rfl, rfl, by decide +kernel, rfl, by decide +kernel, by decide +kernel⟩
theorem ok_covers (B : Bt mg) (F : L2.Fun K "covers" "covers" s_covers f fd) (hm : mg "covers" = some (.ref f)) (hb : Binds K fd ["one", "other"] []) : Cal P wd K mg base ad 1 "covers" 2 .fz F_covers :=
  have nd := sc_covers.nd
  cal_mk (G' := []) 1 [] F hm hb sc_covers rfl rfl (by first | exact .inl rfl | exact .inr ⟨rfl, rfl⟩) fun cdv A outer s H E hr tk po => by
  have hu := hr.units
  have hu5 := units5 hr
  exact (sds_ret (de_callBu (dcu_all rfl) nox_all boot_all (dua_cons (du_of (de_lc [("side", 2)] rfl nd (by kernel_rfl) (dj_of (di_range1 (da_cons (de_callBu dcu_len nox_len boot_len (dua_cons (du_of (de_var 0)) dua_nil) B.len) da_nil) rfl B.range)) (fun _ _ _ _ _ => (dg_name 2 nd)) (fun _ _ _ _ _ => dts_nil) (fun _ _ _ _ _ => (de_cmp dop_le (de_ix (de_var 0) (de_var 2)) (de_ix (de_var 1) (de_var 2)) (nomark _) no_cmp)))) dua_nil) B.all))
abbrev s_plus : Stmt := topS 12
theorem sc_plus : FnScope ["one", "other", "side"] ["one", "other"] (defScope s_plus) := ⟨rfl, rfl, rfl, by decide +kernel, rfl, by decide +kernel, by decide +kernel⟩
theorem ok_plus (B : Bt mg) (F : L2.Fun K "plus" "plus" s_plus f fd) (hm : mg "plus" = some (.ref f)) (hb : Binds K fd ["one", "other"] []) : Cal P wd K mg base ad 1 "plus" 2 .fz F_plus :=
  have nd := sc_plus.nd
  cal_mk (G' := []) 1 [] F hm hb sc_plus rfl rfl (by first | exact .inl rfl | exact .inr ⟨rfl, rfl⟩) fun cdv A outer s H E hr tk po => by
  have hu := hr.units
  have hu5 := units5 hr
  exact (sds_ret (de_tupleL (dk_of (de_lc [("side", 2)] rfl nd (by kernel_rfl) (dj_of (di_range1 (da_cons (de_callBu dcu_len nox_len boot_len (dua_cons (du_of (de_var 0)) dua_nil) B.len) da_nil) rfl B.range)) (fun _ _ _ _ _ => (dg_name 2 nd)) (fun _ _ _ _ _ => dts_nil) (fun _ _ _ _ _ => (de_op dop_add (de_ix (de_var 0) (de_var 2)) (de_ix (de_var 1) (de_var 2)) no_add)))) B.tuple))
abbrev s_stair_of : Stmt := topS 13
theorem sc_stair_of : FnScope ["rows", "found", "row", "one"] ["rows"] (defScope s_stair_of) := ⟨rfl, rfl, rfl, by decide +kernel, rfl, by decide +kernel, by decide +kernel⟩
theorem ok_stair_of (B : Bt mg) (c_covers : Cal P wd K mg base ad 1 "covers" 2 .fz F_covers) (F : L2.Fun K "stair_of" "stair_of" s_stair_of f fd) (hm : mg "stair_of" = some (.ref f)) (hb : Binds K fd ["rows"] []) : Cal P wd K mg base ad 2 "stair_of" 1 (.own .fz) F_stair_of :=
  have nd := sc_stair_of.nd
  cal_mk (G' := []) 3 [(1, .own .fz)] F hm hb sc_stair_of rfl rfl (by first | exact .inl rfl | exact .inr ⟨rfl, rfl⟩) fun cdv A outer s H E hr tk po => by
  have hu := hr.units
  have hu5 := units5 hr
  exact (sds_cons (sd_set 1 (de_lst da_nil cnt0) nd)
    (sds_cons (sd_for po rfl (di_seq (de_fz (de_sorted hu (dk_of (de_var 0)) B.sorted))) (dg_name 2 nd)
    (sds_one (sd_if (dt_not (dt_val (de_callBu (dcu_any rfl) nox_any boot_any (dua_cons (du_of (de_lc [("one", 3)] rfl nd (by kernel_rfl) (dj_own 1) (fun _ _ _ _ _ => (dg_name 3 nd)) (fun _ _ _ _ _ => dts_nil) (fun _ _ _ _ _ => (de_call c_covers hr (by decide) tk0 (da_cons (de_var 3) (da_cons (de_var 2) da_nil)) (hn := (cntS (cntS cnt0))))))) dua_nil) B.any)))
    (sds_one (sd_mut 1 dmt_append PySem.F.slot_list_append PySem.F.type_list_append (da_cons (de_var 2) da_nil)))
    sds_nil)))
    (sds_retO 1)))
abbrev s_put : Stmt := topS 15
theorem sc_put : FnScope ["heap", "thing", "at", "above"] ["heap", "thing"] (defScope s_put) := ⟨rfl, rfl, rfl, by decide +kernel, rfl, by decide +kernel, by decide +kernel⟩
theorem ok_put (B : Bt mg) (F : L2.Fun K "put" "put" s_put f fd) (hm : mg "put" = some (.ref f)) (hb : Binds K fd ["heap", "thing"] []) : CalM P wd K mg base ad 1 "put" 1 .fz F_put := by
  have nd := sc_put.nd
  refine cal_mkM 2 [] F hm hb sc_put rfl rfl (.inr rfl) (fun a cdv A outer s H E hr w tk po => ?_)
  have hu := hr.units
  have hu5 := units5 hr
  exact ⟨_, by rfl, (sds_cons (sd_mut 0 dmt_append PySem.F.slot_list_append PySem.F.type_list_append (da_cons (de_var 1) da_nil))
    (sds_cons (sd_set 2 (de_op dop_sub (de_callBu dcu_len nox_len boot_len (dua_cons (du_var 0) dua_nil) B.len) de_int no_sub) nd)
    (sds_one (sd_while fuel po (dw_dt (dw_and (dt_cmp dop_gt (de_var 2) de_int (nomark _) no_cmp) (dw_and1 (dt_cmp (dop_ltG hu) (de_ixK (dk_own 0) (de_var 2)) (de_ixK (dk_own 0) (de_op dop_div (de_op dop_sub (de_var 2) de_int no_sub) de_int no_div)) (nomark _) no_ltG))))
    (sds_cons (sd_set 3 (de_op dop_div (de_op dop_sub (de_var 2) de_int no_sub) de_int no_div) nd)
    (sds_cons (sd_put2 0 0 (da_cons (de_ixK (dk_own 0) (de_var 3)) (da_cons (de_ixK (dk_own 0) (de_var 2)) da_nil)) (cntS (cntS cnt0)) (de_var 2) (de_var 3))
    (sds_one (sd_set 2 (de_var 3) nd))))))))⟩
abbrev s_lesser_below : Stmt := topS 16
theorem sc_lesser_below : FnScope ["heap", "at"] ["heap", "at"] (defScope s_lesser_below) := ⟨rfl, rfl, rfl, by decide +kernel, rfl, by decide +kernel, by decide +kernel⟩
theorem ok_lesser_below (B : Bt mg) (F : L2.Fun K "lesser_below" "lesser_below" s_lesser_below f fd) (hm : mg "lesser_below" = some (.ref f)) (hb : Binds K fd ["heap", "at"] []) : Cal P wd K mg base ad 1 "lesser_below" 2 .fz F_lesser_below :=
  have nd := sc_lesser_below.nd
  cal_mk (G' := []) 0 [] F hm hb sc_lesser_below rfl rfl (by first | exact .inl rfl | exact .inr ⟨rfl, rfl⟩) fun cdv A outer s H E hr tk po => by
  have hu := hr.units
  have hu5 := units5 hr
  exact (sds_cons (sd_if (dt_cmp dop_ge (de_op dop_add (de_op dop_mul de_int (de_var 1) no_mul) de_int no_add) (de_callBu dcu_len nox_len boot_len (dua_cons (du_of (de_var 0)) dua_nil) B.len) (nomark _) no_cmp)
    (sds_ret de_non)
    sds_nil)
    (sds_cons (sd_if (dw_dt (dw_and (dt_cmp dop_lt (de_op dop_add (de_op dop_mul de_int (de_var 1) no_mul) de_int no_add) (de_callBu dcu_len nox_len boot_len (dua_cons (du_of (de_var 0)) dua_nil) B.len) (nomark _) no_cmp) (dw_and1 (dt_cmp (dop_ltG hu) (de_ix (de_var 0) (de_op dop_add (de_op dop_mul de_int (de_var 1) no_mul) de_int no_add)) (de_ix (de_var 0) (de_op dop_add (de_op dop_mul de_int (de_var 1) no_mul) de_int no_add)) (nomark _) no_ltG))))
    (sds_ret (de_op dop_add (de_op dop_mul de_int (de_var 1) no_mul) de_int no_add))
    sds_nil)
    (sds_ret (de_op dop_add (de_op dop_mul de_int (de_var 1) no_mul) de_int no_add))))
abbrev s_taken : Stmt := topS 17
theorem sc_taken : FnScope ["heap", "least", "last", "at", "below"] ["heap"] (defScope s_taken) := ⟨rfl, rfl, rfl, by decide +kernel, rfl, by decide +kernel, by decide +kernel⟩
theorem ok_taken (B : Bt mg) (c_lesser_below : Cal P wd K mg base ad 1 "lesser_below" 2 .fz F_lesser_below) (F : L2.Fun K "taken" "taken" s_taken f fd) (hm : mg "taken" = some (.ref f)) (hb : Binds K fd ["heap"] []) : CalM P wd K mg base ad 2 "taken" 0 .fz F_taken := by
  have nd := sc_taken.nd
  refine cal_mkM 4 [] F hm hb sc_taken rfl rfl (.inl rfl) (fun a cdv A outer s H E hr w tk po => ?_)
  have hu := hr.units
  have hu5 := units5 hr
  exact ⟨pinS [] 0 a, by rfl, (sds_cons (sd_set 1 (de_ixK (dk_own 0) de_int) nd)
    (sds_cons (sd_popV 0 2 nd)
    (sds_cons (sd_if (dt_cmpU (dou_ne hu) (du_var 0) (du_of (de_lst da_nil cnt0)) (nomark _) no_ne)
    (sds_cons (sd_setItem 0 (de_var 2) de_int)
    (sds_cons (sd_set 3 de_int nd)
    (sds_cons (sd_set 4 (de_callL c_lesser_below hr (by decide) tk (dua_cons (du_var 0) (dua_cons (du_of (de_var 3)) dua_nil)) (hn := (cntS (cntS cnt0)))) nd)
    (sds_one (sd_while fuel po (dw_dt (dw_and (dt_cmp dop_isNot (de_var 4) de_non (nomark _) no_isNot) (dw_and1 (dt_cmp (dop_ltG hu) (de_ixK (dk_own 0) (de_var 4)) (de_ixK (dk_own 0) (de_var 3)) (nomark _) no_ltG))))
    (sds_cons (sd_put2 0 0 (da_cons (de_ixK (dk_own 0) (de_var 4)) (da_cons (de_ixK (dk_own 0) (de_var 3)) da_nil)) (cntS (cntS cnt0)) (de_var 3) (de_var 4))
    (sds_cons (sd_set 3 (de_var 4) nd)
    (sds_one (sd_set 4 (de_callL c_lesser_below hr (by decide) tk (dua_cons (du_var 0) (dua_cons (du_of (de_var 3)) dua_nil)) (hn := (cntS (cntS cnt0)))) nd)))))))))
    sds_nil)
    (sds_ret (de_var 1)))))⟩
abbrev s_check_place : Stmt := topS 19
theorem sc_check_place : FnScope ["web", "place"] ["web", "place"] (defScope s_check_place) := ⟨rfl, rfl, rfl, by decide +kernel, rfl, by decide +kernel, by decide +kernel⟩
theorem ok_check_place (B : Bt mg) (x_NoPlace : XC K mg ad .place "NoPlace") (F : L2.Fun K "check_place" "check_place" s_check_place f fd) (hm : mg "check_place" = some (.ref f)) (hb : Binds K fd ["web", "place"] []) : Cal P wd K mg base ad 1 "check_place" 2 .fz F_check_place :=
  have nd := sc_check_place.nd
  cal_mk (G' := []) 0 [] F hm hb sc_check_place rfl rfl (by first | exact .inl rfl | exact .inr ⟨rfl, rfl⟩) fun cdv A outer s H E hr tk po => by
  have hu := hr.units
  have hu5 := units5 hr
  exact (sds_one (sd_if (dw_dt (dw_or (dt_cmp dop_lt (de_var 1) de_int (nomark _) no_cmp) (dw_or1 (dt_cmp dop_ge (de_var 1) (de_ix (de_var 0) de_int) (nomark _) no_cmp))))
    (sds_raise x_NoPlace tk)
    sds_nil))
abbrev s_marks_of : Stmt := topS 22
theorem sc_marks_of : FnScope ["web", "start", "found", "heap", "row", "place", "ahead", "mark", "step", "number", "one", "other", "prices"] ["web", "start"] (defScope s_marks_of) := ⟨rfl, rfl, rfl, by decide +kernel, rfl, by decide +kernel, by decide +kernel⟩
theorem ok_marks_of (B : Bt mg) (T : Cn mg) (x_TooMany : XC K mg ad .many "TooMany") (c_check_place : Cal P wd K mg base ad 1 "check_place" 2 .fz F_check_place) (c_covers : Cal P wd K mg base ad 1 "covers" 2 .fz F_covers) (c_plus : Cal P wd K mg base ad 1 "plus" 2 .fz F_plus) (c_put : CalM P wd K mg base ad 1 "put" 1 .fz F_put) (c_taken : CalM P wd K mg base ad 2 "taken" 0 .fz F_taken) (F : L2.Fun K "marks_of" "marks_of" s_marks_of f fd) (hm : mg "marks_of" = some (.ref f)) (hb : Binds K fd ["web", "start"] []) : Cal P wd K mg base ad 3 "marks_of" 2 (.own (.own .fz)) F_marks_of :=
  have nd := sc_marks_of.nd
  cal_mk (G' := []) 11 [(2, .own (.own .fz)), (3, .own .fz)] F hm hb sc_marks_of rfl rfl (by first | exact .inl rfl | exact .inr ⟨rfl, rfl⟩) fun cdv A outer s H E hr tk po => by
  have hu := hr.units
  have hu5 := units5 hr
  exact (sds_cons (sd_drop (de_call c_check_place hr (by decide) tk (da_cons (de_var 0) (da_cons (de_var 1) da_nil)) (hn := (cntS (cntS cnt0)))))
    (sds_cons (sd_setLcS 2 [("place", 5)] rfl nd (by kernel_rfl) (dj_of (di_range1 (da_cons (de_ix (de_var 0) de_int) da_nil) rfl B.range)) (fun _ _ _ _ _ => (dg_name 5 nd)) (fun _ _ _ _ _ => dts_nil) (fun _ _ _ _ _ => (de_lst da_nil cnt0)) (sw_true rfl rfl rfl (by decide +kernel)))
    (sds_cons (sd_set 3 (de_lst da_nil cnt0) nd)
    (sds_cons (sd_callM c_put hr (by decide) tk 3 (da_cons (de_tup (da_cons (de_tupleA (de_fz (de_repL de_int (de_ix (de_var 0) de_int))) B.tuple) (da_cons (de_var 1) (da_cons (de_un dun_neg de_int no_neg) (da_cons (de_un dun_neg de_int no_neg) (da_cons (de_un dun_neg de_int no_neg) da_nil))))) (cntS (cntS (cntS (cntS (cntS cnt0)))))) da_nil) (cntS cnt0))
    (sds_cons (sd_while fuel po (dt_cmpU (dou_ne hu) (du_var 3) (du_of (de_lst da_nil cnt0)) (nomark _) no_ne)
    (sds_cons (sd_asgM c_taken hr (by decide) tk 3 da_nil cnt0 (dg_tup rfl (cnt_cons (cnt_cons (cnt_cons (cnt_cons (cnt_cons cnt_nil))))) (dgs_cons (dg_name 4 nd) (dgs_cons (dg_name 5 nd) (dgs_cons (dg_name 6 nd) (dgs_cons (dg_name 7 nd) (dgs_cons (dg_name 8 nd) dgs_nil)))))))
    (sds_one (sd_if (dt_not (dt_val (de_callBu (dcu_any rfl) nox_any boot_any (dua_cons (du_of (de_lc [("one", 10)] rfl nd (by kernel_rfl) (dj_ixN 2 (de_var 5)) (fun _ _ _ _ _ => (dg_name 10 nd)) (fun _ _ _ _ _ => dts_nil) (fun _ _ _ _ _ => (de_call c_covers hr (by decide) tk0 (da_cons (de_ix (de_var 10) de_int) (da_cons (de_var 4) da_nil)) (hn := (cntS (cntS cnt0))))))) dua_nil) B.any)))
    (sds_cons (sd_mutNX 2 dmt_append PySem.F.slot_list_append PySem.F.type_list_append (de_var 5) (da_cons (de_tup (da_cons (de_var 4) (da_cons (de_var 6) (da_cons (de_var 7) (da_cons (de_var 8) da_nil)))) (cntS (cntS (cntS (cntS cnt0))))) da_nil))
    (sds_cons (sd_if (dt_cmp dop_gt (de_callBu dcu_len nox_len boot_len (dua_cons (du_ix (du_var 2) (de_var 5)) dua_nil) B.len) (de_con (con_i T.g_MOST)) (nomark _) no_cmp)
    (sds_raise x_TooMany tk)
    sds_nil)
    (sds_one (sd_for po rfl (di_enum (da_cons (de_ix (de_var 0) de_int) da_nil) rfl B.enumerate) (dg_tup rfl (cnt_cons (cnt_cons cnt_nil)) (dgs_cons (dg_name 9 nd) (dgs_cons (dg_tup rfl (cnt_cons (cnt_cons (cnt_cons cnt_nil))) (dgs_cons (dg_name 10 nd) (dgs_cons (dg_name 11 nd) (dgs_cons (dg_name 12 nd) dgs_nil)))) dgs_nil)))
    (sds_one (sd_if (dt_cmpU (dou_eq hu) (du_of (de_var 10)) (du_of (de_var 5)) (nomark _) no_eq)
    (sds_one (sd_callM c_put hr (by decide) tk 3 (da_cons (de_tup (da_cons (de_call c_plus hr (by decide) tk (da_cons (de_var 4) (da_cons (de_var 12) da_nil)) (hn := (cntS (cntS cnt0)))) (da_cons (de_var 11) (da_cons (de_var 5) (da_cons (de_op dop_sub (de_callBu dcu_len nox_len boot_len (dua_cons (du_ix (du_var 2) (de_var 5)) dua_nil) B.len) de_int no_sub) (da_cons (de_var 9) da_nil))))) (cntS (cntS (cntS (cntS (cntS cnt0)))))) da_nil) (cntS cnt0)))
    sds_nil))))))
    sds_nil))))
    (sds_retO 2))))))
abbrev s_stairs : Stmt := topS 23
theorem sc_stairs : FnScope ["web", "start", "marks", "mark"] ["web", "start"] (defScope s_stairs) := ⟨rfl, rfl, rfl, by decide +kernel, rfl, by decide +kernel, by decide +kernel⟩
theorem ok_stairs (B : Bt mg) (c_marks_of : Cal P wd K mg base ad 3 "marks_of" 2 (.own (.own .fz)) F_marks_of) (F : L2.Fun K "stairs" "stairs" s_stairs f fd) (hm : mg "stairs" = some (.ref f)) (hb : Binds K fd ["web", "start"] []) : Cal P wd K mg base ad 4 "stairs" 2 (.own .fz) F_stairs :=
  have nd := sc_stairs.nd
  cal_mk (G' := []) 2 [] F hm hb sc_stairs rfl rfl (by first | exact .inl rfl | exact .inr ⟨rfl, rfl⟩) fun cdv A outer s H E hr tk po => by
  have hu := hr.units
  have hu5 := units5 hr
  exact (sds_ret (de_lc [("marks", 2)] rfl nd (by kernel_rfl) (dj_of (di_seq (de_fz (de_call c_marks_of hr (by decide) tk (da_cons (de_var 0) (da_cons (de_var 1) da_nil)) (hn := (cntS (cntS cnt0))))))) (fun _ _ _ _ _ => (dg_name 2 nd)) (fun _ _ _ _ _ => dts_nil) (fun _ _ _ _ _ => (de_fz (de_lc [("mark", 3)] rfl nd (by kernel_rfl) (dj_of (di_seq (de_var 2))) (fun _ _ _ _ _ => (dg_name 3 nd)) (fun _ _ _ _ _ => dts_nil) (fun _ _ _ _ _ => (de_ix (de_var 3) de_int)))))))
abbrev s_over : Stmt := topS 25
theorem sc_over : FnScope ["web", "start", "goal", "place", "number", "ahead", "behind", "sums", "one", "found", "other"] ["web", "start", "goal", "place"] (defScope s_over) := ⟨rfl, rfl, rfl, by decide +kernel, rfl, by decide +kernel, by decide +kernel⟩
theorem ok_over (B : Bt mg) (T : Cn mg) (x_TooMany : XC K mg ad .many "TooMany") (c_check_place : Cal P wd K mg base ad 1 "check_place" 2 .fz F_check_place) (c_plus : Cal P wd K mg base ad 1 "plus" 2 .fz F_plus) (c_stair_of : Cal P wd K mg base ad 2 "stair_of" 1 (.own .fz) F_stair_of) (c_stairs : Cal P wd K mg base ad 4 "stairs" 2 (.own .fz) F_stairs) (F : L2.Fun K "over" "over" s_over f fd) (hm : mg "over" = some (.ref f)) (hb : Binds K fd ["web", "start", "goal", "place"] []) : Cal P wd K mg base ad 5 "over" 4 (.own .fz) F_over :=
  have nd := sc_over.nd
  cal_mk (G' := []) 7 [(9, .own .fz)] F hm hb sc_over rfl rfl (by first | exact .inl rfl | exact .inr ⟨rfl, rfl⟩) fun cdv A outer s H E hr tk po => by
  have hu := hr.units
  have hu5 := units5 hr
  exact (sds_cons (sd_for po rfl (di_seq (de_tup (da_cons (de_var 1) (da_cons (de_var 2) (da_cons (de_var 3) da_nil))) (cntS (cntS (cntS cnt0))))) (dg_name 4 nd)
    (sds_one (sd_drop (de_call c_check_place hr (by decide) tk (da_cons (de_var 0) (da_cons (de_var 4) da_nil)) (hn := (cntS (cntS cnt0)))))))
    (sds_cons (sd_set 5 (de_ix (de_fz (de_call c_stairs hr (by decide) tk (da_cons (de_var 0) (da_cons (de_var 1) da_nil)) (hn := (cntS (cntS cnt0))))) (de_var 3)) nd)
    (sds_cons (sd_set 6 (de_ix (de_fz (de_call c_stairs hr (by decide) tk (da_cons (de_var 0) (da_cons (de_var 3) da_nil)) (hn := (cntS (cntS cnt0))))) (de_var 2)) nd)
    (sds_cons (sd_set 7 (de_fz (de_lst da_nil cnt0)) nd)
    (sds_cons (sd_for po rfl (di_seq (de_var 5)) (dg_name 8 nd)
    (sds_one (sd_set 7 (de_op dop_add (de_var 7) (de_fz (de_lc [("other", 10)] rfl nd (by kernel_rfl) (dj_of (di_seq (de_var 6))) (fun _ _ _ _ _ => (dg_name 10 nd)) (fun _ _ _ _ _ => dts_nil) (fun _ _ _ _ _ => (de_call c_plus hr (by decide) tk0 (da_cons (de_var 8) (da_cons (de_var 10) da_nil)) (hn := (cntS (cntS cnt0))))))) no_add) nd)))
    (sds_cons (sd_set 9 (de_call c_stair_of hr (by decide) tk (da_cons (de_var 7) da_nil) (hn := (cntS cnt0))) nd)
    (sds_cons (sd_if (dt_cmp dop_gt (de_callBu dcu_len nox_len boot_len (dua_cons (du_var 9) dua_nil) B.len) (de_con (con_i T.g_MOST)) (nomark _) no_cmp)
    (sds_raise x_TooMany tk)
    sds_nil)
    (sds_retO 9))))))))
abbrev s__law_cell_at : Stmt := topS 27
theorem sc__law_cell_at : FnScope ["_law_script", "_law_k"] ["_law_script", "_law_k"] (defScope s__law_cell_at) := ⟨rfl, rfl, rfl, by decide +kernel, rfl, by decide +kernel, by decide +kernel⟩
theorem ok__law_cell_at (B : Bt mg) (F : L2.Fun K "_law_cell_at" "_law_cell_at" s__law_cell_at f fd) (hm : mg "_law_cell_at" = some (.ref f)) (hb : Binds K fd ["_law_script", "_law_k"] []) : Cal P wd K mg base ad 1 "_law_cell_at" 2 .fz F_law_cell_at :=
  have nd := sc__law_cell_at.nd
  cal_mk (G' := []) 0 [] F hm hb sc__law_cell_at rfl rfl (by first | exact .inl rfl | exact .inr ⟨rfl, rfl⟩) fun cdv A outer s H E hr tk po => by
  have hu := hr.units
  have hu5 := units5 hr
  exact (sds_cons (sd_if (dt_cmp dop_lt (de_var 1) (de_callBu dcu_len nox_len boot_len (dua_cons (du_of (de_var 0)) dua_nil) B.len) (nomark _) no_cmp)
    (sds_ret (de_ix (de_var 0) (de_var 1)))
    sds_nil)
    (sds_ret de_int))
abbrev s__law_mix : Stmt := topS 28
theorem sc__law_mix : FnScope ["_law_cell", "_law_k", "_law_again", "_law_number"] ["_law_cell", "_law_k"] (defScope s__law_mix) := ⟨rfl, rfl, rfl, by decide +kernel, rfl, by decide +kernel, by decide +kernel⟩
theorem ok__law_mix (B : Bt mg) (F : L2.Fun K "_law_mix" "_law_mix" s__law_mix f fd) (hm : mg "_law_mix" = some (.ref f)) (hb : Binds K fd ["_law_cell", "_law_k"] []) : Cal P wd K mg base ad 1 "_law_mix" 2 .fz F_law_mix :=
  have nd := sc__law_mix.nd
  cal_mk (G' := []) 2 [] F hm hb sc__law_mix rfl rfl (by first | exact .inl rfl | exact .inr ⟨rfl, rfl⟩) fun cdv A outer s H E hr tk po => by
  have hu := hr.units
  have hu5 := units5 hr
  exact (sds_cons (sd_if (dt_cmp dop_ge (de_var 0) (de_op dop_pow de_int de_int no_pow) (nomark _) no_cmp)
    (sds_cons (sd_for po rfl (di_range1 (da_cons (de_var 1) da_nil) rfl B.range) (dg_name 2 nd)
    (sds_one (sd_set 0 (de_op dop_div (de_var 0) (de_op dop_pow de_int de_int no_pow) no_div) nd)))
    (sds_ret (de_op dop_mod (de_var 0) (de_op dop_pow de_int de_int no_pow) no_mod)))
    sds_nil)
    (sds_cons (sd_set 3 (de_op dop_mod (de_op dop_mul (de_op dop_add (de_op dop_add (de_op dop_mod (de_var 0) de_int no_mod) (de_op dop_mul (de_op dop_mul (de_var 1) (de_var 1) no_mul) de_int no_mul) no_add) (de_var 1) no_add) de_int no_mul) de_int no_mod) nd)
    (sds_cons (sd_set 3 (de_op dop_mod (de_op dop_mul (de_var 3) (de_var 3) no_mul) de_int no_mod) nd)
    (sds_ret (de_op dop_div (de_op dop_mod (de_op dop_mul (de_var 3) (de_op dop_add (de_var 3) de_int no_add) no_mul) de_int no_mod) de_int no_div)))))
abbrev s__law_price : Stmt := topS 29
theorem sc__law_price : FnScope ["_law_number", "_law_kind"] ["_law_number", "_law_kind"] (defScope s__law_price) := ⟨rfl, rfl, rfl, by decide +kernel, rfl, by decide +kernel, by decide +kernel⟩
theorem ok__law_price (B : Bt mg) (F : L2.Fun K "_law_price" "_law_price" s__law_price f fd) (hm : mg "_law_price" = some (.ref f)) (hb : Binds K fd ["_law_number", "_law_kind"] []) : Cal P wd K mg base ad 1 "_law_price" 2 .fz F_law_price_v2 :=
  have nd := sc__law_price.nd
  cal_mk (G' := []) 0 [] F hm hb sc__law_price rfl rfl (by first | exact .inl rfl | exact .inr ⟨rfl, rfl⟩) fun cdv A outer s H E hr tk po => by
  have hu := hr.units
  have hu5 := units5 hr
  exact (sds_cons (sd_if (dt_cmpU (dou_eq hu) (du_of (de_var 1)) (du_of de_int) (nomark _) no_eq)
    (sds_ret (de_op dop_mod (de_var 0) de_int no_mod))
    sds_nil)
    (sds_cons (sd_if (dt_cmpU (dou_eq hu) (du_of (de_var 1)) (du_of de_int) (nomark _) no_eq)
    (sds_ret (de_op dop_add (de_op dop_mul (de_op dop_mod (de_var 0) de_int no_mod) (de_op dop_pow de_int de_int no_pow) no_mul) (de_op dop_mod (de_op dop_div (de_var 0) de_int no_div) de_int no_mod) no_add))
    sds_nil)
    (sds_ret (de_op dop_mod (de_var 0) (de_ix (de_fz (de_lst (da_cons de_int (da_cons de_int da_nil)) (cntS (cntS cnt0)))) (de_callTu dcu_int nox_int boot_int (dua_cons (du_of (de_cmpU (dou_eq hu) (du_of (de_var 1)) (du_of de_int) (nomark _) no_eq)) dua_nil) B.int)) no_mod))))
abbrev s__law_web : Stmt := topS 30
theorem sc__law_web : FnScope ["_law_script", "_law_cell", "_law_many", "_law_most", "_law_kind", "_law_width", "_law_steps", "_law_k", "_law_number", "_law_one", "_law_other", "_law_prices", "_law_side", "_law_drawn"] ["_law_script"] (defScope s__law_web) := ⟨rfl, rfl, rfl, by decide +kernel, rfl, by decide +kernel, by decide +kernel⟩
theorem ok__law_web (B : Bt mg) (c__law_cell_at : Cal P wd K mg base ad 1 "_law_cell_at" 2 .fz F_law_cell_at) (c__law_mix : Cal P wd K mg base ad 1 "_law_mix" 2 .fz F_law_mix) (c__law_price : Cal P wd K mg base ad 1 "_law_price" 2 .fz F_law_price_v2) (F : L2.Fun K "_law_web" "_law_web" s__law_web f fd) (hm : mg "_law_web" = some (.ref f)) (hb : Binds K fd ["_law_script"] []) : Cal P wd K mg base ad 2 "_law_web" 1 .fz F_law_web_b :=
  have nd := sc__law_web.nd
  cal_mk (G' := []) 13 [(6, .own .fz), (11, .own .fz)] F hm hb sc__law_web rfl rfl (by first | exact .inl rfl | exact .inr ⟨rfl, rfl⟩) fun cdv A outer s H E hr tk po => by
  have hu := hr.units
  have hu5 := units5 hr
  exact (sds_cons (sd_set 1 (de_call c__law_cell_at hr (by decide) tk (da_cons (de_var 0) (da_cons de_int da_nil)) (hn := (cntS (cntS cnt0)))) nd)
    (sds_cons (sd_set 2 (de_op dop_add de_int (de_op dop_mod (de_call c__law_mix hr (by decide) tk (da_cons (de_var 1) (da_cons de_int da_nil)) (hn := (cntS (cntS cnt0)))) de_int no_mod) no_add) nd)
    (sds_cons (sd_set 3 (de_op dop_add (de_op dop_mul de_int (de_var 2) no_mul) de_int no_add) nd)
    (sds_cons (sd_set 4 (de_op dop_mod (de_call c__law_mix hr (by decide) tk (da_cons (de_var 1) (da_cons de_int da_nil)) (hn := (cntS (cntS cnt0)))) de_int no_mod) nd)
    (sds_cons (sd_if (dt_cmpU (dou_eq hu) (du_of (de_op dop_mod (de_call c__law_mix hr (by decide) tk (da_cons (de_var 1) (da_cons de_int da_nil)) (hn := (cntS (cntS cnt0)))) de_int no_mod)) (du_of de_int) (nomark _) no_eq)
    (sds_cons (sd_set 2 (de_op dop_add de_int (de_op dop_mod (de_call c__law_mix hr (by decide) tk (da_cons (de_var 1) (da_cons de_int da_nil)) (hn := (cntS (cntS cnt0)))) de_int no_mod) no_add) nd)
    (sds_one (sd_set 3 (de_op dop_add (de_var 2) de_int no_add) nd)))
    sds_nil)
    (sds_cons (sd_if (dt_cmpU (dou_eq hu) (du_of (de_op dop_mod (de_call c__law_mix hr (by decide) tk (da_cons (de_var 1) (da_cons de_int da_nil)) (hn := (cntS (cntS cnt0)))) de_int no_mod)) (du_of de_int) (nomark _) no_eq)
    (sds_one (sd_par3 2 3 4 (da_cons (de_op dop_add de_int (de_op dop_mod (de_call c__law_mix hr (by decide) tk (da_cons (de_var 1) (da_cons de_int da_nil)) (hn := (cntS (cntS cnt0)))) de_int no_mod) no_add) (da_cons de_int (da_cons de_int da_nil))) nd))
    sds_nil)
    (sds_cons (sd_set 5 (de_op dop_add de_int (de_op dop_mod (de_call c__law_mix hr (by decide) tk (da_cons (de_var 1) (da_cons de_int da_nil)) (hn := (cntS (cntS cnt0)))) de_int no_mod) no_add) nd)
    (sds_cons (sd_set 6 (de_lst da_nil cnt0) nd)
    (sds_cons (sd_for po rfl (di_range1 (da_cons (de_op dop_mod (de_call c__law_mix hr (by decide) tk (da_cons (de_var 1) (da_cons de_int da_nil)) (hn := (cntS (cntS cnt0)))) (de_var 3) no_mod) da_nil) rfl B.range) (dg_name 7 nd)
    (sds_cons (sd_set 8 (de_call c__law_mix hr (by decide) tk (da_cons (de_call c__law_cell_at hr (by decide) tk (da_cons (de_var 0) (da_cons (de_op dop_add de_int (de_op dop_mod (de_var 7) de_int no_mod) no_add) da_nil)) (hn := (cntS (cntS cnt0)))) (da_cons (de_op dop_add de_int (de_var 7) no_add) da_nil)) (hn := (cntS (cntS cnt0)))) nd)
    (sds_cons (sd_set 9 (de_op dop_mod (de_var 8) (de_var 2) no_mod) nd)
    (sds_cons (sd_set 10 (de_op dop_mod (de_op dop_add (de_op dop_add (de_var 9) de_int no_add) (de_op dop_mod (de_op dop_div (de_var 8) de_int no_div) (de_callBu (dcu_max rfl) nox_max boot_max (dua_cons (du_of de_int) (dua_cons (du_of (de_op dop_sub (de_var 2) de_int no_sub)) dua_nil)) B.max) no_mod) no_add) (de_var 2) no_mod) nd)
    (sds_cons (sd_set 11 (de_lst da_nil cnt0) nd)
    (sds_cons (sd_for po rfl (di_range1 (da_cons (de_var 5) da_nil) rfl B.range) (dg_name 12 nd)
    (sds_cons (sd_set 13 (de_call c__law_mix hr (by decide) tk (da_cons (de_call c__law_cell_at hr (by decide) tk (da_cons (de_var 0) (da_cons (de_op dop_add de_int (de_op dop_mod (de_var 7) de_int no_mod) no_add) da_nil)) (hn := (cntS (cntS cnt0)))) (da_cons (de_op dop_add (de_op dop_add de_int (de_op dop_mul de_int (de_var 7) no_mul) no_add) (de_var 12) no_add) da_nil)) (hn := (cntS (cntS cnt0)))) nd)
    (sds_one (sd_mut 11 dmt_append PySem.F.slot_list_append PySem.F.type_list_append (da_cons (de_call c__law_price hr (by decide) tk (da_cons (de_var 13) (da_cons (de_var 4) da_nil)) (hn := (cntS (cntS cnt0)))) da_nil)))))
    (sds_one (sd_if (dw_dt (dw_and (dt_cmpU (dou_ne hu) (du_of (de_var 9)) (du_of (de_var 10)) (nomark _) no_ne) (dw_and1 (dt_cmp dop_lt (de_callBu dcu_len nox_len boot_len (dua_cons (du_var 6) dua_nil) B.len) de_int (nomark _) no_cmp))))
    (sds_one (sd_mut 6 dmt_append PySem.F.slot_list_append PySem.F.type_list_append (da_cons (de_tup (da_cons (de_var 9) (da_cons (de_var 10) (da_cons (de_tupleL (dk_own 11) B.tuple) da_nil))) (cntS (cntS (cntS cnt0)))) da_nil)))
    sds_nil))))))))
    (sds_frz 6 (sds_ret (de_tup (da_cons (de_var 2) (da_cons (de_var 5) (da_cons (de_var 6) da_nil))) (cntS (cntS (cntS cnt0)))))))))))))))
abbrev s__law_covers : Stmt := topS 31
theorem sc__law_covers : FnScope ["_law_one", "_law_other", "_law_side"] ["_law_one", "_law_other"] (defScope s__law_covers) := ⟨rfl, rfl, rfl, by decide +kernel, rfl, by decide +kernel, by decide +kernel⟩
theorem ok__law_covers (B : Bt mg) (F : L2.Fun K "_law_covers" "_law_covers" s__law_covers f fd) (hm : mg "_law_covers" = some (.ref f)) (hb : Binds K fd ["_law_one", "_law_other"] []) : Cal P wd K mg base ad 1 "_law_covers" 2 .fz F_law_covers :=
  have nd := sc__law_covers.nd
  cal_mk (G' := []) 1 [] F hm hb sc__law_covers rfl rfl (by first | exact .inl rfl | exact .inr ⟨rfl, rfl⟩) fun cdv A outer s H E hr tk po => by
  have hu := hr.units
  have hu5 := units5 hr
  exact (sds_ret (de_cmpU (dou_eq hu) (du_of (de_lc [("_law_side", 2)] rfl nd (by kernel_rfl) (dj_of (di_range1 (da_cons (de_callBu dcu_len nox_len boot_len (dua_cons (du_of (de_var 0)) dua_nil) B.len) da_nil) rfl B.range)) (fun _ _ _ _ _ => (dg_name 2 nd)) (fun _ _ _ _ _ => (dts_one (dt_cmp dop_gt (de_ix (de_var 0) (de_var 2)) (de_ix (de_var 1) (de_var 2)) (nomark _) no_cmp))) (fun _ _ _ _ _ => (de_var 2)))) (du_of (de_lst da_nil cnt0)) (nomark _) no_eq))
abbrev s__law_stair : Stmt := topS 32
theorem sc__law_stair : FnScope ["_law_rows", "_law_found", "_law_row", "_law_one"] ["_law_rows"] (defScope s__law_stair) := ⟨rfl, rfl, rfl, by decide +kernel, rfl, by decide +kernel, by decide +kernel⟩
theorem ok__law_stair (B : Bt mg) (c__law_covers : Cal P wd K mg base ad 1 "_law_covers" 2 .fz F_law_covers) (F : L2.Fun K "_law_stair" "_law_stair" s__law_stair f fd) (hm : mg "_law_stair" = some (.ref f)) (hb : Binds K fd ["_law_rows"] []) : Cal P wd K mg base ad 2 "_law_stair" 1 (.own .fz) F_law_stair_v2 :=
  have nd := sc__law_stair.nd
  cal_mk (G' := []) 3 [(1, .own .fz)] F hm hb sc__law_stair rfl rfl (by first | exact .inl rfl | exact .inr ⟨rfl, rfl⟩) fun cdv A outer s H E hr tk po => by
  have hu := hr.units
  have hu5 := units5 hr
  exact (sds_cons (sd_set 1 (de_lst da_nil cnt0) nd)
    (sds_cons (sd_for po rfl (di_seq (de_fz (de_sortSet rfl hu (dk_of (de_var 0)) B.sorted B.set))) (dg_name 2 nd)
    (sds_one (sd_if (dt_cmpU (dou_eq hu) (du_of (de_lc [("_law_one", 3)] rfl nd (by kernel_rfl) (dj_own 1) (fun _ _ _ _ _ => (dg_name 3 nd)) (fun _ _ _ _ _ => (dts_one (dt_val (de_call c__law_covers hr (by decide) tk0 (da_cons (de_var 3) (da_cons (de_var 2) da_nil)) (hn := (cntS (cntS cnt0))))))) (fun _ _ _ _ _ => (de_var 3)))) (du_of (de_lst da_nil cnt0)) (nomark _) no_eq)
    (sds_one (sd_mut 1 dmt_append PySem.F.slot_list_append PySem.F.type_list_append (da_cons (de_var 2) da_nil)))
    sds_nil)))
    (sds_retO 1)))
abbrev s__law_plus : Stmt := topS 33
theorem sc__law_plus : FnScope ["_law_one", "_law_other", "_law_side"] ["_law_one", "_law_other"] (defScope s__law_plus) := ⟨rfl, rfl, rfl, by decide +kernel, rfl, by decide +kernel, by decide +kernel⟩
theorem ok__law_plus (B : Bt mg) (F : L2.Fun K "_law_plus" "_law_plus" s__law_plus f fd) (hm : mg "_law_plus" = some (.ref f)) (hb : Binds K fd ["_law_one", "_law_other"] []) : Cal P wd K mg base ad 1 "_law_plus" 2 .fz F_law_plus :=
  have nd := sc__law_plus.nd
  cal_mk (G' := []) 1 [] F hm hb sc__law_plus rfl rfl (by first | exact .inl rfl | exact .inr ⟨rfl, rfl⟩) fun cdv A outer s H E hr tk po => by
  have hu := hr.units
  have hu5 := units5 hr
  exact (sds_ret (de_tupleL (dk_of (de_lc [("_law_side", 2)] rfl nd (by kernel_rfl) (dj_of (di_range1 (da_cons (de_callBu dcu_len nox_len boot_len (dua_cons (du_of (de_var 0)) dua_nil) B.len) da_nil) rfl B.range)) (fun _ _ _ _ _ => (dg_name 2 nd)) (fun _ _ _ _ _ => dts_nil) (fun _ _ _ _ _ => (de_op dop_add (de_ix (de_var 0) (de_var 2)) (de_ix (de_var 1) (de_var 2)) no_add)))) B.tuple))
abbrev s__law_stairs : Stmt := topS 34
theorem sc__law_stairs : FnScope ["_law_web_here", "_law_start", "_law_found", "_law_again", "_law_more", "_law_one", "_law_other", "_law_prices", "_law_place", "_law_rows", "_law_row"] ["_law_web_here", "_law_start"] (defScope s__law_stairs) := ⟨rfl, rfl, rfl, by decide +kernel, rfl, by decide +kernel, by decide +kernel⟩
theorem ok__law_stairs (B : Bt mg) (c__law_plus : Cal P wd K mg base ad 1 "_law_plus" 2 .fz F_law_plus) (c__law_stair : Cal P wd K mg base ad 2 "_law_stair" 1 (.own .fz) F_law_stair_v2) (F : L2.Fun K "_law_stairs" "_law_stairs" s__law_stairs f fd) (hm : mg "_law_stairs" = some (.ref f)) (hb : Binds K fd ["_law_web_here", "_law_start"] []) : Cal P wd K mg base ad 3 "_law_stairs" 2 .fz F_law_stairs :=
  have nd := sc__law_stairs.nd
  cal_mk (G' := []) 9 [(2, .own .fz), (4, .own .fz)] F hm hb sc__law_stairs rfl rfl (by first | exact .inl rfl | exact .inr ⟨rfl, rfl⟩) fun cdv A outer s H E hr tk po => by
  have hu := hr.units
  have hu5 := units5 hr
  exact (sds_cons (sd_setLc 2 [("_law_place", 8)] rfl nd (by kernel_rfl) (dj_of (di_range1 (da_cons (de_ix (de_var 0) de_int) da_nil) rfl B.range)) (fun _ _ _ _ _ => (dg_name 8 nd)) (fun _ _ _ _ _ => dts_nil) (fun _ _ _ _ _ => (de_fz (de_lst da_nil cnt0))) (sw_true rfl rfl rfl (by decide +kernel)))
    (sds_cons (sd_setItem 2 (de_fz (de_lst (da_cons (de_tupleA (de_fz (de_repL de_int (de_ix (de_var 0) de_int))) B.tuple) da_nil) (cntS cnt0))) (de_var 1))
    (sds_cons (sd_for po rfl (di_range1 (da_cons (de_op dop_sub (de_ix (de_var 0) de_int) de_int no_sub) da_nil) rfl B.range) (dg_name 3 nd)
    (sds_cons (sd_setLc 4 [("_law_rows", 9)] rfl nd (by kernel_rfl) (dj_own 2) (fun _ _ _ _ _ => (dg_name 9 nd)) (fun _ _ _ _ _ => dts_nil) (fun _ _ _ _ _ => (de_fz (de_listA (de_var 9) B.list))) (sw_true rfl rfl rfl (by decide +kernel)))
    (sds_cons (sd_for po rfl (di_seq (de_ix (de_var 0) de_int)) (dg_tup rfl (cnt_cons (cnt_cons (cnt_cons cnt_nil))) (dgs_cons (dg_name 5 nd) (dgs_cons (dg_name 6 nd) (dgs_cons (dg_name 7 nd) dgs_nil))))
    (sds_one (sd_setItem 4 (de_op dop_add (de_ixK (dk_own 4) (de_var 6)) (de_fz (de_lc [("_law_row", 10)] rfl nd (by kernel_rfl) (dj_of (di_seq (de_ixK (dk_own 2) (de_var 5)))) (fun _ _ _ _ _ => (dg_name 10 nd)) (fun _ _ _ _ _ => dts_nil) (fun _ _ _ _ _ => (de_call c__law_plus hr (by decide) tk0 (da_cons (de_var 10) (da_cons (de_var 7) da_nil)) (hn := (cntS (cntS cnt0))))))) no_add) (de_var 6))))
    (sds_one (sd_setLc 2 [("_law_rows", 9)] rfl nd (by kernel_rfl) (dj_own 4) (fun _ _ _ _ _ => (dg_name 9 nd)) (fun _ _ _ _ _ => dts_nil) (fun _ _ _ _ _ => (de_fz (de_call c__law_stair hr (by decide) tk0 (da_cons (de_var 9) da_nil) (hn := (cntS cnt0))))) (sw_true rfl rfl rfl (by decide +kernel)))))))
    (sds_frz 2 (sds_ret (de_var 2))))))
abbrev s__law_kept : Stmt := topS 35
theorem sc__law_kept : FnScope ["_law_kept_here", "_law_found"] ["_law_kept_here"] (defScope s__law_kept) := ⟨rfl, rfl, rfl, by decide +kernel, rfl, by decide +kernel, by decide +kernel⟩
theorem ok__law_kept (B : Bt mg) (x_NoPlace : XC K mg ad .place "NoPlace") (x_NoRow : XC K mg ad .row "NoRow") (x_NoStep : XC K mg ad .step "NoStep") (x_NoText : XC K mg ad .text "NoText") (x_NoWay : XC K mg ad .way "NoWay") (x_NoWeb : XC K mg ad .web "NoWeb") (x_NoWidth : XC K mg ad .width "NoWidth") (x_TooMany : XC K mg ad .many "TooMany") (KX : EK K mg ad CS) (F : L2.Fun K "_law_kept" "_law_kept" s__law_kept f fd) (hm : mg "_law_kept" = some (.ref f)) (hb : Binds K fd ["_law_kept_here"] []) : Cal P wd K mg base ad 1 "_law_kept" 1 .fz F_law_kept :=
  have nd := sc__law_kept.nd
  cal_mk (G' := []) 1 [] F hm hb sc__law_kept rfl rfl (by first | exact .inl rfl | exact .inr ⟨rfl, rfl⟩) fun cdv A outer s H E hr tk po => by
  have hu := hr.units
  have hu5 := units5 hr
  exact (sds_cons (sd_if (dt_not (dt_val (de_isVE (du_of (de_var 0)) B.isinstance KX.vg KX.ec KX.ve)))
    (sds_ret de_str)
    sds_nil)
    (sds_cons (sd_set 1 (de_fz (de_lst (da_cons (de_isX .web (du_of (de_var 0)) B.isinstance x_NoWeb.g KX.ec (KX.kk .web)) (da_cons (de_isX .way (du_of (de_var 0)) B.isinstance x_NoWay.g KX.ec (KX.kk .way)) (da_cons (de_isX .place (du_of (de_var 0)) B.isinstance x_NoPlace.g KX.ec (KX.kk .place)) (da_cons (de_isX .step (du_of (de_var 0)) B.isinstance x_NoStep.g KX.ec (KX.kk .step)) da_nil)))) (cntS (cntS (cntS (cntS cnt0)))))) nd)
    (sds_cons (sd_set 1 (de_op dop_add (de_var 1) (de_fz (de_lst (da_cons (de_isX .width (du_of (de_var 0)) B.isinstance x_NoWidth.g KX.ec (KX.kk .width)) (da_cons (de_isX .many (du_of (de_var 0)) B.isinstance x_TooMany.g KX.ec (KX.kk .many)) da_nil)) (cntS (cntS cnt0)))) no_add) nd)
    (sds_cons (sd_set 1 (de_op dop_add (de_var 1) (de_fz (de_lst (da_cons (de_isX .text (du_of (de_var 0)) B.isinstance x_NoText.g KX.ec (KX.kk .text)) (da_cons (de_isX .row (du_of (de_var 0)) B.isinstance x_NoRow.g KX.ec (KX.kk .row)) da_nil)) (cntS (cntS cnt0)))) no_add) nd)
    (sds_cons (sd_if (dt_cmpU (dou_ne hu) (du_of (de_meth (dml_count hu5) PySem.F.slot_list_count PySem.F.type_list_count (du_of (de_var 1)) (da_cons de_bl da_nil) no_countD)) (du_of de_int) (nomark _) no_ne)
    (sds_ret de_str)
    sds_nil)
    (sds_ret (de_ix (de_fz (de_lst (da_cons de_str (da_cons de_str (da_cons de_str (da_cons de_str (da_cons de_str (da_cons de_str (da_cons de_str (da_cons de_str da_nil)))))))) (cntS (cntS (cntS (cntS (cntS (cntS (cntS (cntS cnt0)))))))))) (de_meth (dml_index hu5) PySem.F.slot_list_index PySem.F.type_list_index (du_of (de_var 1)) (da_cons de_bl da_nil) no_indexD))))))))
abbrev s__law_told : Stmt := topS 36
theorem sc__law_told : FnScope ["_law_web_here", "_law_start", "_law_goal", "_law_place", "_law_kept_here", "_law_found", "e"] ["_law_web_here", "_law_start", "_law_goal", "_law_place"] (defScope s__law_told) := ⟨rfl, rfl, rfl, by decide +kernel, rfl, by decide +kernel, by decide +kernel⟩
theorem ok__law_told (B : Bt mg) (KX : EK K mg ad CS) (c__law_kept : Cal P wd K mg base ad 1 "_law_kept" 1 .fz F_law_kept) (c_over : Cal P wd K mg base ad 5 "over" 4 (.own .fz) F_over) (F : L2.Fun K "_law_told" "_law_told" s__law_told f fd) (hm : mg "_law_told" = some (.ref f)) (hb : Binds K fd ["_law_web_here", "_law_start", "_law_goal", "_law_place"] []) : Cal P wd K mg base ad 6 "_law_told" 4 (.own .fz) F_law_told_v4 :=
  have nd := sc__law_told.nd
  cal_mk (G' := []) 3 [(5, .own .fz)] F hm hb sc__law_told rfl rfl (by first | exact .inl rfl | exact .inr ⟨rfl, rfl⟩) fun cdv A outer s H E hr tk po => by
  have hu := hr.units
  have hu5 := units5 hr
  exact (sds_cons (sd_set 4 de_non nd)
    (sds_cons (sd_set 5 (de_flat de_non) nd)
    (sds_cons (sd_try [5] 6 4 nd ⟨rfl, by decide, .inl KX.sg⟩ KX.sx (fun w1 pn1 xe1 tk po =>
    (sds_one (sd_set 5 (de_call c_over hr (by decide) tk (da_cons (de_var 0) (da_cons (de_var 1) (da_cons (de_var 2) (da_cons (de_var 3) da_nil)))) (hn := (cntS (cntS (cntS (cntS cnt0)))))) nd))))
    (sds_cons (sd_if (dt_cmp dop_isNot (de_var 4) de_non (nomark _) no_isNot)
    (sds_ret (de_flat (de_call c__law_kept hr (by decide) tk (da_cons (de_var 4) da_nil) (hn := (cntS cnt0)))))
    sds_nil)
    (sds_retO 5)))))
abbrev s__law_due : Stmt := topS 37
theorem sc__law_due : FnScope ["_law_web_here", "_law_start", "_law_goal", "_law_place", "_law_number", "_law_ahead", "_law_behind", "_law_some", "_law_one", "_law_found", "_law_rows", "_law_other"] ["_law_web_here", "_law_start", "_law_goal", "_law_place"] (defScope s__law_due) := ⟨rfl, rfl, rfl, by decide +kernel, rfl, by decide +kernel, by decide +kernel⟩
theorem ok__law_due (B : Bt mg) (c__law_plus : Cal P wd K mg base ad 1 "_law_plus" 2 .fz F_law_plus) (c__law_stair : Cal P wd K mg base ad 2 "_law_stair" 1 (.own .fz) F_law_stair_v2) (c__law_stairs : Cal P wd K mg base ad 3 "_law_stairs" 2 .fz F_law_stairs) (F : L2.Fun K "_law_due" "_law_due" s__law_due f fd) (hm : mg "_law_due" = some (.ref f)) (hb : Binds K fd ["_law_web_here", "_law_start", "_law_goal", "_law_place"] []) : Cal P wd K mg base ad 4 "_law_due" 4 .fz F_law_due :=
  have nd := sc__law_due.nd
  cal_mk (G' := []) 8 [] F hm hb sc__law_due rfl rfl (by first | exact .inl rfl | exact .inr ⟨rfl, rfl⟩) fun cdv A outer s H E hr tk po => by
  have hu := hr.units
  have hu5 := units5 hr
  exact (sds_cons (sd_for po rfl (di_seq (de_fz (de_lst (da_cons (de_var 1) (da_cons (de_var 2) (da_cons (de_var 3) da_nil))) (cntS (cntS (cntS cnt0)))))) (dg_name 4 nd)
    (sds_one (sd_if (dt_not (dt_chain dop_le dop_lt de_int (de_var 4) (de_ix (de_var 0) de_int) no_cmp no_cmp))
    (sds_ret de_str)
    sds_nil)))
    (sds_cons (sd_set 5 (de_call c__law_stairs hr (by decide) tk (da_cons (de_var 0) (da_cons (de_var 1) da_nil)) (hn := (cntS (cntS cnt0)))) nd)
    (sds_cons (sd_set 6 (de_call c__law_stairs hr (by decide) tk (da_cons (de_var 0) (da_cons (de_var 3) da_nil)) (hn := (cntS (cntS cnt0)))) nd)
    (sds_cons (sd_if (dt_cmp dop_gt (de_callBu (dcu_max rfl) nox_max boot_max (dua_cons (du_of (de_lc [("_law_rows", 10)] rfl nd (by kernel_rfl) (dj_of (di_seq (de_op dop_add (de_var 5) (de_var 6) no_add))) (fun _ _ _ _ _ => (dg_name 10 nd)) (fun _ _ _ _ _ => dts_nil) (fun _ _ _ _ _ => (de_callBu dcu_len nox_len boot_len (dua_cons (du_of (de_var 10)) dua_nil) B.len)))) dua_nil) B.max) de_int (nomark _) no_cmp)
    (sds_ret de_str)
    sds_nil)
    (sds_cons (sd_if (dt_cmp dop_gt (de_op dop_mul (de_callBu dcu_len nox_len boot_len (dua_cons (du_of (de_ix (de_var 5) (de_var 3))) dua_nil) B.len) (de_callBu dcu_len nox_len boot_len (dua_cons (du_of (de_ix (de_var 6) (de_var 2))) dua_nil) B.len) no_mul) de_int (nomark _) no_cmp)
    (sds_ret de_str)
    sds_nil)
    (sds_cons (sd_set 7 (de_fz (de_lst da_nil cnt0)) nd)
    (sds_cons (sd_for po rfl (di_seq (de_ix (de_var 5) (de_var 3))) (dg_name 8 nd)
    (sds_one (sd_set 7 (de_op dop_add (de_var 7) (de_fz (de_lc [("_law_other", 11)] rfl nd (by kernel_rfl) (dj_of (di_seq (de_ix (de_var 6) (de_var 2)))) (fun _ _ _ _ _ => (dg_name 11 nd)) (fun _ _ _ _ _ => dts_nil) (fun _ _ _ _ _ => (de_call c__law_plus hr (by decide) tk0 (da_cons (de_var 8) (da_cons (de_var 11) da_nil)) (hn := (cntS (cntS cnt0))))))) no_add) nd)))
    (sds_cons (sd_set 9 (de_fz (de_call c__law_stair hr (by decide) tk (da_cons (de_var 7) da_nil) (hn := (cntS cnt0)))) nd)
    (sds_cons (sd_if (dt_cmp dop_gt (de_callBu dcu_len nox_len boot_len (dua_cons (du_of (de_var 9)) dua_nil) B.len) de_int (nomark _) no_cmp)
    (sds_ret de_str)
    sds_nil)
    (sds_ret (de_var 9)))))))))))
abbrev s__law_cut : Stmt := topS 38
theorem sc__law_cut : FnScope ["_law_script", "_law_most", "_law_cell"] ["_law_script"] (defScope s__law_cut) := ⟨rfl, rfl, rfl, by decide +kernel, rfl, by decide +kernel, by decide +kernel⟩
theorem ok__law_cut (B : Bt mg) (F : L2.Fun K "_law_cut" "_law_cut" s__law_cut f fd) (hm : mg "_law_cut" = some (.ref f)) (hb : Binds K fd ["_law_script"] []) : Cal P wd K mg base ad 1 "_law_cut" 1 (.own .fz) F_law_cut :=
  have nd := sc__law_cut.nd
  cal_mk (G' := []) 2 [] F hm hb sc__law_cut rfl rfl (by first | exact .inl rfl | exact .inr ⟨rfl, rfl⟩) fun cdv A outer s H E hr tk po => by
  have hu := hr.units
  have hu5 := units5 hr
  exact (sds_cons (sd_set 1 (de_op dop_pow (de_op dop_pow de_int de_int no_pow) de_int no_pow) nd)
    (sds_ret (de_lc [("_law_cell", 2)] rfl nd (by kernel_rfl) (dj_of (di_seq (de_var 0))) (fun _ _ _ _ _ => (dg_name 2 nd)) (fun _ _ _ _ _ => dts_nil) (fun _ _ _ _ _ => (de_ix (de_fz (de_lst (da_cons (de_var 2) (da_cons (de_op dop_add (de_var 1) (de_op dop_mod (de_var 2) (de_var 1) no_mod) no_add) da_nil)) (cntS (cntS cnt0)))) (de_callTu dcu_int nox_int boot_int (dua_cons (du_of (de_cmp dop_ge (de_var 2) (de_var 1) (nomark _) no_cmp)) dua_nil) B.int))))))
abbrev s_law : Stmt := topS 39
theorem sc_law : FnScope ["_law_script", "_law_web_here", "_law_number", "_law_three", "_law_handed", "_law_due_here", "_law_again", "_law_found"] ["_law_script"] (defScope s_law) := ⟨rfl, rfl, rfl, by decide +kernel, rfl, by decide +kernel, by decide +kernel⟩
theorem ok_law (B : Bt mg) (c__law_cell_at : Cal P wd K mg base ad 1 "_law_cell_at" 2 .fz F_law_cell_at) (c__law_cut : Cal P wd K mg base ad 1 "_law_cut" 1 (.own .fz) F_law_cut) (c__law_due : Cal P wd K mg base ad 4 "_law_due" 4 .fz F_law_due) (c__law_mix : Cal P wd K mg base ad 1 "_law_mix" 2 .fz F_law_mix) (c__law_told : Cal P wd K mg base ad 6 "_law_told" 4 (.own .fz) F_law_told_v4) (c__law_web : Cal P wd K mg base ad 2 "_law_web" 1 .fz F_law_web_b) (F : L2.Fun K "law" "law" s_law f fd) : FnOk P wd K mg base (L2.CX P wd) 7 f fd ["_law_script"] (spD K ad 1 .fz F_law_k41) :=
  have nd := sc_law.nd
  fn_mk (G' := []) 7 [(3, .own .fz), (7, .own .fz)] F sc_law rfl rfl (by first | exact .inl rfl | exact .inr ⟨rfl, rfl⟩) fun cdv A outer s H E hr tk po => by
  have hu := hr.units
  have hu5 := units5 hr
  exact (sds_cons (sd_set 0 (de_fz (de_call c__law_cut hr (by decide) tk (da_cons (de_var 0) da_nil) (hn := (cntS cnt0)))) nd)
    (sds_cons (sd_set 1 (de_call c__law_web hr (by decide) tk (da_cons (de_var 0) da_nil) (hn := (cntS cnt0))) nd)
    (sds_cons (sd_set 2 (de_call c__law_mix hr (by decide) tk (da_cons (de_call c__law_cell_at hr (by decide) tk (da_cons (de_var 0) (da_cons de_int da_nil)) (hn := (cntS (cntS cnt0)))) (da_cons de_int da_nil)) (hn := (cntS (cntS cnt0)))) nd)
    (sds_cons (sd_set 3 (de_lst (da_cons (de_op dop_mod (de_var 2) (de_ix (de_var 1) de_int) no_mod) (da_cons (de_op dop_mod (de_op dop_div (de_var 2) de_int no_div) (de_ix (de_var 1) de_int) no_mod) (da_cons (de_op dop_mod (de_op dop_div (de_var 2) de_int no_div) (de_ix (de_var 1) de_int) no_mod) da_nil))) (cntS (cntS (cntS cnt0)))) nd)
    (sds_cons (sd_if (dt_cmpU (dou_eq hu) (du_of (de_op dop_mod (de_op dop_div (de_var 2) de_int no_div) de_int no_mod)) (du_of de_int) (nomark _) no_eq)
    (sds_one (sd_setItem 3 (de_ix (de_fz (de_lst (da_cons (de_un dun_neg de_int no_neg) (da_cons (de_ix (de_var 1) de_int) (da_cons (de_op dop_pow de_int de_int no_pow) da_nil))) (cntS (cntS (cntS cnt0))))) (de_op dop_mod (de_op dop_div (de_var 2) de_int no_div) de_int no_mod)) (de_op dop_mod (de_op dop_div (de_var 2) de_int no_div) de_int no_mod)))
    sds_nil)
    (sds_cons (sd_set 4 (de_tup (da_cons (de_ix (de_var 1) de_int) (da_cons (de_ix (de_var 1) de_int) (da_cons (de_fz (de_listA (de_ix (de_var 1) de_int) B.list)) da_nil))) (cntS (cntS (cntS cnt0)))) nd)
    (sds_cons (sd_set 5 (de_call c__law_due hr (by decide) tk (da_cons (de_var 1) (da_cons (de_ixK (dk_own 3) de_int) (da_cons (de_ixK (dk_own 3) de_int) (da_cons (de_ixK (dk_own 3) de_int) da_nil)))) (hn := (cntS (cntS (cntS (cntS cnt0)))))) nd)
    (sds_cons (sd_if (dt_cmpU (dou_eq hu) (du_of (de_var 5)) (du_of de_str) (nomark _) no_eq)
    (sds_ret de_bl)
    sds_nil)
    (sds_cons (sd_for po rfl (di_range1 (da_cons de_int da_nil) rfl B.range) (dg_name 6 nd)
    (sds_cons (sd_set 7 (de_call c__law_told hr (by decide) tk (da_cons (de_var 4) (da_cons (de_ixK (dk_own 3) de_int) (da_cons (de_ixK (dk_own 3) de_int) (da_cons (de_ixK (dk_own 3) de_int) da_nil)))) (hn := (cntS (cntS (cntS (cntS cnt0)))))) nd)
    (sds_cons (sd_if (dw_dt (dw_or (dt_cmpU (dou_ne hu) (du_var 7) (du_of (de_var 5)) (nomark _) no_ne) (dw_or1 (dt_cmpU (dou_ne hu) (du_of (de_var 4)) (du_of (de_var 1)) (nomark _) no_ne))))
    (sds_ret de_bl)
    sds_nil)
    (sds_one (sd_if (dt_val (de_isi .list (du_var 7) B.isinstance B.list boot_list))
    (sds_one (sd_mut 7 dmt_append PySem.F.slot_list_append PySem.F.type_list_append (da_cons de_int da_nil)))
    sds_nil)))))
    (sds_ret de_bl))))))))))
end
theorem all_mk {P : Program} {w : World} {K : PySem.W.Frag} {h : Heap} {mg : Str → Option Value} {fa f0 f1 f2 f3 f4 f5 f6 f7 f8 f9 f10 f11 f12 f13 f14 f15 f16 f17 f18 f19 f20 f21 f22 C_NoPlace C_NoRow C_NoStep C_NoText C_NoWay C_NoWeb C_NoWidth C_TooMany CS : Addr} (X : K.In h) (G : h.Ns mainGlobals mg) (hfa : mg "law" = some (.ref fa))
    {od0 an0 od1 an1 od2 an2 od3 an3 od4 an4 od5 an5 od6 an6 od7 an7 od8 an8 od9 an9 od10 an10 od11 an11 od12 an12 od13 an13 od14 an14 od15 an15 od16 an16 od17 an17 od18 an18 od19 an19 od20 an20 od21 an21 od22 an22 : Option Addr} {sl0 sl1 sl2 sl3 sl4 sl5 sl6 sl7 sl8 sl9 sl10 sl11 sl12 sl13 sl14 sl15 sl16 sl17 sl18 sl19 sl20 sl21 sl22 : Array (Option Value)} {oc0 kV0 dc0 pm0 cd0 ct0 oc1 kV1 dc1 pm1 cd1 ct1 oc2 kV2 dc2 pm2 cd2 ct2 oc3 kV3 dc3 pm3 cd3 ct3 oc4 kV4 dc4 pm4 cd4 ct4 oc5 kV5 dc5 pm5 cd5 ct5 oc6 kV6 dc6 pm6 cd6 ct6 oc7 kV7 dc7 pm7 cd7 ct7 oc8 kV8 dc8 pm8 cd8 ct8 oc9 kV9 dc9 pm9 cd9 ct9 oc10 kV10 dc10 pm10 cd10 ct10 oc11 kV11 dc11 pm11 cd11 ct11 oc12 kV12 dc12 pm12 cd12 ct12 oc13 kV13 dc13 pm13 cd13 ct13 oc14 kV14 dc14 pm14 cd14 ct14 oc15 kV15 dc15 pm15 cd15 ct15 oc16 kV16 dc16 pm16 cd16 ct16 oc17 kV17 dc17 pm17 cd17 ct17 oc18 kV18 dc18 pm18 cd18 ct18 oc19 kV19 dc19 pm19 cd19 ct19 oc20 kV20 dc20 pm20 cd20 ct20 oc21 kV21 dc21 pm21 cd21 ct21 oc22 kV22 dc22 pm22 cd22 ct22 : Value}
    {t_MOST : Tok}
    (a0 : PySem.W.nsIn K mainGlobals "covers" = some (some (.ref f0)))
    (l0 : K.lookup f0 = some ⟨oc0, od0, .func (PySem.W.fnOf "covers" "covers" (defArgs s_covers) (defBody s_covers) (defScope s_covers) .none kV0 dc0 pm0 an0 cd0 ct0), sl0⟩)
    (c0 : PySem.W.codeIn K cd0 "covers" = true)
    (k0 : PySem.W.keepIn K (.ref f0) = true)
    (a1 : PySem.W.nsIn K mainGlobals "plus" = some (some (.ref f1)))
    (l1 : K.lookup f1 = some ⟨oc1, od1, .func (PySem.W.fnOf "plus" "plus" (defArgs s_plus) (defBody s_plus) (defScope s_plus) .none kV1 dc1 pm1 an1 cd1 ct1), sl1⟩)
    (c1 : PySem.W.codeIn K cd1 "plus" = true)
    (k1 : PySem.W.keepIn K (.ref f1) = true)
    (a2 : PySem.W.nsIn K mainGlobals "stair_of" = some (some (.ref f2)))
    (l2 : K.lookup f2 = some ⟨oc2, od2, .func (PySem.W.fnOf "stair_of" "stair_of" (defArgs s_stair_of) (defBody s_stair_of) (defScope s_stair_of) .none kV2 dc2 pm2 an2 cd2 ct2), sl2⟩)
    (c2 : PySem.W.codeIn K cd2 "stair_of" = true)
    (k2 : PySem.W.keepIn K (.ref f2) = true)
    (a3 : PySem.W.nsIn K mainGlobals "put" = some (some (.ref f3)))
    (l3 : K.lookup f3 = some ⟨oc3, od3, .func (PySem.W.fnOf "put" "put" (defArgs s_put) (defBody s_put) (defScope s_put) .none kV3 dc3 pm3 an3 cd3 ct3), sl3⟩)
    (c3 : PySem.W.codeIn K cd3 "put" = true)
    (k3 : PySem.W.keepIn K (.ref f3) = true)
    (a4 : PySem.W.nsIn K mainGlobals "lesser_below" = some (some (.ref f4)))
    (l4 : K.lookup f4 = some ⟨oc4, od4, .func (PySem.W.fnOf "lesser_below" "lesser_below" (defArgs s_lesser_below) (defBody s_lesser_below) (defScope s_lesser_below) .none kV4 dc4 pm4 an4 cd4 ct4), sl4⟩)
    (c4 : PySem.W.codeIn K cd4 "lesser_below" = true)
    (k4 : PySem.W.keepIn K (.ref f4) = true)
    (a5 : PySem.W.nsIn K mainGlobals "taken" = some (some (.ref f5)))
    (l5 : K.lookup f5 = some ⟨oc5, od5, .func (PySem.W.fnOf "taken" "taken" (defArgs s_taken) (defBody s_taken) (defScope s_taken) .none kV5 dc5 pm5 an5 cd5 ct5), sl5⟩)
    (c5 : PySem.W.codeIn K cd5 "taken" = true)
    (k5 : PySem.W.keepIn K (.ref f5) = true)
    (a6 : PySem.W.nsIn K mainGlobals "check_place" = some (some (.ref f6)))
    (l6 : K.lookup f6 = some ⟨oc6, od6, .func (PySem.W.fnOf "check_place" "check_place" (defArgs s_check_place) (defBody s_check_place) (defScope s_check_place) .none kV6 dc6 pm6 an6 cd6 ct6), sl6⟩)
    (c6 : PySem.W.codeIn K cd6 "check_place" = true)
    (k6 : PySem.W.keepIn K (.ref f6) = true)
    (a7 : PySem.W.nsIn K mainGlobals "marks_of" = some (some (.ref f7)))
    (l7 : K.lookup f7 = some ⟨oc7, od7, .func (PySem.W.fnOf "marks_of" "marks_of" (defArgs s_marks_of) (defBody s_marks_of) (defScope s_marks_of) .none kV7 dc7 pm7 an7 cd7 ct7), sl7⟩)
    (c7 : PySem.W.codeIn K cd7 "marks_of" = true)
    (k7 : PySem.W.keepIn K (.ref f7) = true)
    (a8 : PySem.W.nsIn K mainGlobals "stairs" = some (some (.ref f8)))
    (l8 : K.lookup f8 = some ⟨oc8, od8, .func (PySem.W.fnOf "stairs" "stairs" (defArgs s_stairs) (defBody s_stairs) (defScope s_stairs) .none kV8 dc8 pm8 an8 cd8 ct8), sl8⟩)
    (c8 : PySem.W.codeIn K cd8 "stairs" = true)
    (k8 : PySem.W.keepIn K (.ref f8) = true)
    (a9 : PySem.W.nsIn K mainGlobals "over" = some (some (.ref f9)))
    (l9 : K.lookup f9 = some ⟨oc9, od9, .func (PySem.W.fnOf "over" "over" (defArgs s_over) (defBody s_over) (defScope s_over) .none kV9 dc9 pm9 an9 cd9 ct9), sl9⟩)
    (c9 : PySem.W.codeIn K cd9 "over" = true)
    (k9 : PySem.W.keepIn K (.ref f9) = true)
    (a10 : PySem.W.nsIn K mainGlobals "_law_cell_at" = some (some (.ref f10)))
    (l10 : K.lookup f10 = some ⟨oc10, od10, .func (PySem.W.fnOf "_law_cell_at" "_law_cell_at" (defArgs s__law_cell_at) (defBody s__law_cell_at) (defScope s__law_cell_at) .none kV10 dc10 pm10 an10 cd10 ct10), sl10⟩)
    (c10 : PySem.W.codeIn K cd10 "_law_cell_at" = true)
    (k10 : PySem.W.keepIn K (.ref f10) = true)
    (a11 : PySem.W.nsIn K mainGlobals "_law_mix" = some (some (.ref f11)))
    (l11 : K.lookup f11 = some ⟨oc11, od11, .func (PySem.W.fnOf "_law_mix" "_law_mix" (defArgs s__law_mix) (defBody s__law_mix) (defScope s__law_mix) .none kV11 dc11 pm11 an11 cd11 ct11), sl11⟩)
    (c11 : PySem.W.codeIn K cd11 "_law_mix" = true)
    (k11 : PySem.W.keepIn K (.ref f11) = true)
    (a12 : PySem.W.nsIn K mainGlobals "_law_price" = some (some (.ref f12)))
    (l12 : K.lookup f12 = some ⟨oc12, od12, .func (PySem.W.fnOf "_law_price" "_law_price" (defArgs s__law_price) (defBody s__law_price) (defScope s__law_price) .none kV12 dc12 pm12 an12 cd12 ct12), sl12⟩)
    (c12 : PySem.W.codeIn K cd12 "_law_price" = true)
    (k12 : PySem.W.keepIn K (.ref f12) = true)
    (a13 : PySem.W.nsIn K mainGlobals "_law_web" = some (some (.ref f13)))
    (l13 : K.lookup f13 = some ⟨oc13, od13, .func (PySem.W.fnOf "_law_web" "_law_web" (defArgs s__law_web) (defBody s__law_web) (defScope s__law_web) .none kV13 dc13 pm13 an13 cd13 ct13), sl13⟩)
    (c13 : PySem.W.codeIn K cd13 "_law_web" = true)
    (k13 : PySem.W.keepIn K (.ref f13) = true)
    (a14 : PySem.W.nsIn K mainGlobals "_law_covers" = some (some (.ref f14)))
    (l14 : K.lookup f14 = some ⟨oc14, od14, .func (PySem.W.fnOf "_law_covers" "_law_covers" (defArgs s__law_covers) (defBody s__law_covers) (defScope s__law_covers) .none kV14 dc14 pm14 an14 cd14 ct14), sl14⟩)
    (c14 : PySem.W.codeIn K cd14 "_law_covers" = true)
    (k14 : PySem.W.keepIn K (.ref f14) = true)
    (a15 : PySem.W.nsIn K mainGlobals "_law_stair" = some (some (.ref f15)))
    (l15 : K.lookup f15 = some ⟨oc15, od15, .func (PySem.W.fnOf "_law_stair" "_law_stair" (defArgs s__law_stair) (defBody s__law_stair) (defScope s__law_stair) .none kV15 dc15 pm15 an15 cd15 ct15), sl15⟩)
    (c15 : PySem.W.codeIn K cd15 "_law_stair" = true)
    (k15 : PySem.W.keepIn K (.ref f15) = true)
    (a16 : PySem.W.nsIn K mainGlobals "_law_plus" = some (some (.ref f16)))
    (l16 : K.lookup f16 = some ⟨oc16, od16, .func (PySem.W.fnOf "_law_plus" "_law_plus" (defArgs s__law_plus) (defBody s__law_plus) (defScope s__law_plus) .none kV16 dc16 pm16 an16 cd16 ct16), sl16⟩)
    (c16 : PySem.W.codeIn K cd16 "_law_plus" = true)
    (k16 : PySem.W.keepIn K (.ref f16) = true)
    (a17 : PySem.W.nsIn K mainGlobals "_law_stairs" = some (some (.ref f17)))
    (l17 : K.lookup f17 = some ⟨oc17, od17, .func (PySem.W.fnOf "_law_stairs" "_law_stairs" (defArgs s__law_stairs) (defBody s__law_stairs) (defScope s__law_stairs) .none kV17 dc17 pm17 an17 cd17 ct17), sl17⟩)
    (c17 : PySem.W.codeIn K cd17 "_law_stairs" = true)
    (k17 : PySem.W.keepIn K (.ref f17) = true)
    (a18 : PySem.W.nsIn K mainGlobals "_law_kept" = some (some (.ref f18)))
    (l18 : K.lookup f18 = some ⟨oc18, od18, .func (PySem.W.fnOf "_law_kept" "_law_kept" (defArgs s__law_kept) (defBody s__law_kept) (defScope s__law_kept) .none kV18 dc18 pm18 an18 cd18 ct18), sl18⟩)
    (c18 : PySem.W.codeIn K cd18 "_law_kept" = true)
    (k18 : PySem.W.keepIn K (.ref f18) = true)
    (a19 : PySem.W.nsIn K mainGlobals "_law_told" = some (some (.ref f19)))
    (l19 : K.lookup f19 = some ⟨oc19, od19, .func (PySem.W.fnOf "_law_told" "_law_told" (defArgs s__law_told) (defBody s__law_told) (defScope s__law_told) .none kV19 dc19 pm19 an19 cd19 ct19), sl19⟩)
    (c19 : PySem.W.codeIn K cd19 "_law_told" = true)
    (k19 : PySem.W.keepIn K (.ref f19) = true)
    (a20 : PySem.W.nsIn K mainGlobals "_law_due" = some (some (.ref f20)))
    (l20 : K.lookup f20 = some ⟨oc20, od20, .func (PySem.W.fnOf "_law_due" "_law_due" (defArgs s__law_due) (defBody s__law_due) (defScope s__law_due) .none kV20 dc20 pm20 an20 cd20 ct20), sl20⟩)
    (c20 : PySem.W.codeIn K cd20 "_law_due" = true)
    (k20 : PySem.W.keepIn K (.ref f20) = true)
    (a21 : PySem.W.nsIn K mainGlobals "_law_cut" = some (some (.ref f21)))
    (l21 : K.lookup f21 = some ⟨oc21, od21, .func (PySem.W.fnOf "_law_cut" "_law_cut" (defArgs s__law_cut) (defBody s__law_cut) (defScope s__law_cut) .none kV21 dc21 pm21 an21 cd21 ct21), sl21⟩)
    (c21 : PySem.W.codeIn K cd21 "_law_cut" = true)
    (k21 : PySem.W.keepIn K (.ref f21) = true)
    (a22 : PySem.W.nsIn K mainGlobals "law" = some (some (.ref f22)))
    (l22 : K.lookup f22 = some ⟨oc22, od22, .func (PySem.W.fnOf "law" "law" (defArgs s_law) (defBody s_law) (defScope s_law) .none kV22 dc22 pm22 an22 cd22 ct22), sl22⟩)
    (c22 : PySem.W.codeIn K cd22 "law" = true)
    (k22 : PySem.W.keepIn K (.ref f22) = true)
    (xg_NoPlace : PySem.W.nsIn K mainGlobals "NoPlace" = some (some (.ref C_NoPlace)))
    (xq_NoPlace : PySem.W.excIn K C_NoPlace [.type "ValueError", .type "Exception", .type "BaseException", .type "object"] "ValueError.__new__" = true)
    (xk_NoPlace : PySem.W.keepIn K (.ref C_NoPlace) = true)
    (xb_NoPlace : PySem.W.subIn K (.ref C_NoPlace) (.type "BaseException") = some true)
    (xt_NoPlace : PySem.W.typeIn K (.ref C_NoPlace) = some (.type "type"))
    (xg_NoRow : PySem.W.nsIn K mainGlobals "NoRow" = some (some (.ref C_NoRow)))
    (xq_NoRow : PySem.W.excIn K C_NoRow [.type "ValueError", .type "Exception", .type "BaseException", .type "object"] "ValueError.__new__" = true)
    (xk_NoRow : PySem.W.keepIn K (.ref C_NoRow) = true)
    (xb_NoRow : PySem.W.subIn K (.ref C_NoRow) (.type "BaseException") = some true)
    (xt_NoRow : PySem.W.typeIn K (.ref C_NoRow) = some (.type "type"))
    (xg_NoStep : PySem.W.nsIn K mainGlobals "NoStep" = some (some (.ref C_NoStep)))
    (xq_NoStep : PySem.W.excIn K C_NoStep [.type "ValueError", .type "Exception", .type "BaseException", .type "object"] "ValueError.__new__" = true)
    (xk_NoStep : PySem.W.keepIn K (.ref C_NoStep) = true)
    (xb_NoStep : PySem.W.subIn K (.ref C_NoStep) (.type "BaseException") = some true)
    (xt_NoStep : PySem.W.typeIn K (.ref C_NoStep) = some (.type "type"))
    (xg_NoText : PySem.W.nsIn K mainGlobals "NoText" = some (some (.ref C_NoText)))
    (xq_NoText : PySem.W.excIn K C_NoText [.type "ValueError", .type "Exception", .type "BaseException", .type "object"] "ValueError.__new__" = true)
    (xk_NoText : PySem.W.keepIn K (.ref C_NoText) = true)
    (xb_NoText : PySem.W.subIn K (.ref C_NoText) (.type "BaseException") = some true)
    (xt_NoText : PySem.W.typeIn K (.ref C_NoText) = some (.type "type"))
    (xg_NoWay : PySem.W.nsIn K mainGlobals "NoWay" = some (some (.ref C_NoWay)))
    (xq_NoWay : PySem.W.excIn K C_NoWay [.type "ValueError", .type "Exception", .type "BaseException", .type "object"] "ValueError.__new__" = true)
    (xk_NoWay : PySem.W.keepIn K (.ref C_NoWay) = true)
    (xb_NoWay : PySem.W.subIn K (.ref C_NoWay) (.type "BaseException") = some true)
    (xt_NoWay : PySem.W.typeIn K (.ref C_NoWay) = some (.type "type"))
    (xg_NoWeb : PySem.W.nsIn K mainGlobals "NoWeb" = some (some (.ref C_NoWeb)))
    (xq_NoWeb : PySem.W.excIn K C_NoWeb [.type "ValueError", .type "Exception", .type "BaseException", .type "object"] "ValueError.__new__" = true)
    (xk_NoWeb : PySem.W.keepIn K (.ref C_NoWeb) = true)
    (xb_NoWeb : PySem.W.subIn K (.ref C_NoWeb) (.type "BaseException") = some true)
    (xt_NoWeb : PySem.W.typeIn K (.ref C_NoWeb) = some (.type "type"))
    (xg_NoWidth : PySem.W.nsIn K mainGlobals "NoWidth" = some (some (.ref C_NoWidth)))
    (xq_NoWidth : PySem.W.excIn K C_NoWidth [.type "ValueError", .type "Exception", .type "BaseException", .type "object"] "ValueError.__new__" = true)
    (xk_NoWidth : PySem.W.keepIn K (.ref C_NoWidth) = true)
    (xb_NoWidth : PySem.W.subIn K (.ref C_NoWidth) (.type "BaseException") = some true)
    (xt_NoWidth : PySem.W.typeIn K (.ref C_NoWidth) = some (.type "type"))
    (xg_TooMany : PySem.W.nsIn K mainGlobals "TooMany" = some (some (.ref C_TooMany)))
    (xq_TooMany : PySem.W.excIn K C_TooMany [.type "ValueError", .type "Exception", .type "BaseException", .type "object"] "ValueError.__new__" = true)
    (xk_TooMany : PySem.W.keepIn K (.ref C_TooMany) = true)
    (xb_TooMany : PySem.W.subIn K (.ref C_TooMany) (.type "BaseException") = some true)
    (xt_TooMany : PySem.W.typeIn K (.ref C_TooMany) = some (.type "type"))
    (xs_g : PySem.W.nsIn K mainGlobals "StairError" = some (some (.ref CS)))
    (z_ValueError : PySem.W.nsIn K mainGlobals "ValueError" = some none)
    (s1 : PySem.W.subIn K (.ref CS) (.type "BaseException") = some true)
    (s2 : PySem.W.hasDictIn K CS = true)
    (s3 : PySem.W.typeIn K (.ref CS) = some (.type "type"))
    (e8 : PySem.W.specialIn K (.builtin "object.__class__") "__get__" = some (some (.builtin "getset_descriptor.__get__")))
    (e9 : PySem.W.takesIn K (.builtin "object.__class__") = some true)
    (e1_NoPlace : PySem.W.findIn K (.ref C_NoPlace) "__getattribute__" = some (some (.builtin "BaseException.__getattribute__")))
    (e2_NoPlace : PySem.W.findIn K (.ref C_NoPlace) "__getattr__" = some none)
    (e3_NoPlace : PySem.W.hasDictIn K C_NoPlace = true)
    (e4_NoPlace : PySem.W.findIn K (.ref C_NoPlace) "__class__" = some (some (.builtin "object.__class__")))
    (e5_NoPlace : PySem.W.mroIn K C_NoPlace (.type "object") = some true)
    (e6_NoPlace : PySem.W.subIn K (.ref C_NoPlace) (.type "ValueError") = some true)
    (e7_NoPlace : PySem.W.subIn K (.ref C_NoPlace) (.ref CS) = some true)
    (k1_NoPlace_NoPlace : PySem.W.subIn K (.ref C_NoPlace) (.ref C_NoPlace) = some true)
    (k1_NoPlace_NoRow : PySem.W.subIn K (.ref C_NoPlace) (.ref C_NoRow) = some false)
    (k1_NoPlace_NoStep : PySem.W.subIn K (.ref C_NoPlace) (.ref C_NoStep) = some false)
    (k1_NoPlace_NoText : PySem.W.subIn K (.ref C_NoPlace) (.ref C_NoText) = some false)
    (k1_NoPlace_NoWay : PySem.W.subIn K (.ref C_NoPlace) (.ref C_NoWay) = some false)
    (k1_NoPlace_NoWeb : PySem.W.subIn K (.ref C_NoPlace) (.ref C_NoWeb) = some false)
    (k1_NoPlace_NoWidth : PySem.W.subIn K (.ref C_NoPlace) (.ref C_NoWidth) = some false)
    (k1_NoPlace_TooMany : PySem.W.subIn K (.ref C_NoPlace) (.ref C_TooMany) = some false)
    (e1_NoRow : PySem.W.findIn K (.ref C_NoRow) "__getattribute__" = some (some (.builtin "BaseException.__getattribute__")))
    (e2_NoRow : PySem.W.findIn K (.ref C_NoRow) "__getattr__" = some none)
    (e3_NoRow : PySem.W.hasDictIn K C_NoRow = true)
    (e4_NoRow : PySem.W.findIn K (.ref C_NoRow) "__class__" = some (some (.builtin "object.__class__")))
    (e5_NoRow : PySem.W.mroIn K C_NoRow (.type "object") = some true)
    (e6_NoRow : PySem.W.subIn K (.ref C_NoRow) (.type "ValueError") = some true)
    (e7_NoRow : PySem.W.subIn K (.ref C_NoRow) (.ref CS) = some true)
    (k1_NoRow_NoPlace : PySem.W.subIn K (.ref C_NoRow) (.ref C_NoPlace) = some false)
    (k1_NoRow_NoRow : PySem.W.subIn K (.ref C_NoRow) (.ref C_NoRow) = some true)
    (k1_NoRow_NoStep : PySem.W.subIn K (.ref C_NoRow) (.ref C_NoStep) = some false)
    (k1_NoRow_NoText : PySem.W.subIn K (.ref C_NoRow) (.ref C_NoText) = some false)
    (k1_NoRow_NoWay : PySem.W.subIn K (.ref C_NoRow) (.ref C_NoWay) = some false)
    (k1_NoRow_NoWeb : PySem.W.subIn K (.ref C_NoRow) (.ref C_NoWeb) = some false)
    (k1_NoRow_NoWidth : PySem.W.subIn K (.ref C_NoRow) (.ref C_NoWidth) = some false)
    (k1_NoRow_TooMany : PySem.W.subIn K (.ref C_NoRow) (.ref C_TooMany) = some false)
    (e1_NoStep : PySem.W.findIn K (.ref C_NoStep) "__getattribute__" = some (some (.builtin "BaseException.__getattribute__")))
    (e2_NoStep : PySem.W.findIn K (.ref C_NoStep) "__getattr__" = some none)
    (e3_NoStep : PySem.W.hasDictIn K C_NoStep = true)
    (e4_NoStep : PySem.W.findIn K (.ref C_NoStep) "__class__" = some (some (.builtin "object.__class__")))
    (e5_NoStep : PySem.W.mroIn K C_NoStep (.type "object") = some true)
    (e6_NoStep : PySem.W.subIn K (.ref C_NoStep) (.type "ValueError") = some true)
    (e7_NoStep : PySem.W.subIn K (.ref C_NoStep) (.ref CS) = some true)
    (k1_NoStep_NoPlace : PySem.W.subIn K (.ref C_NoStep) (.ref C_NoPlace) = some false)
    (k1_NoStep_NoRow : PySem.W.subIn K (.ref C_NoStep) (.ref C_NoRow) = some false)
    (k1_NoStep_NoStep : PySem.W.subIn K (.ref C_NoStep) (.ref C_NoStep) = some true)
    (k1_NoStep_NoText : PySem.W.subIn K (.ref C_NoStep) (.ref C_NoText) = some false)
    (k1_NoStep_NoWay : PySem.W.subIn K (.ref C_NoStep) (.ref C_NoWay) = some false)
    (k1_NoStep_NoWeb : PySem.W.subIn K (.ref C_NoStep) (.ref C_NoWeb) = some false)
    (k1_NoStep_NoWidth : PySem.W.subIn K (.ref C_NoStep) (.ref C_NoWidth) = some false)
    (k1_NoStep_TooMany : PySem.W.subIn K (.ref C_NoStep) (.ref C_TooMany) = some false)
    (e1_NoText : PySem.W.findIn K (.ref C_NoText) "__getattribute__" = some (some (.builtin "BaseException.__getattribute__")))
    (e2_NoText : PySem.W.findIn K (.ref C_NoText) "__getattr__" = some none)
    (e3_NoText : PySem.W.hasDictIn K C_NoText = true)
    (e4_NoText : PySem.W.findIn K (.ref C_NoText) "__class__" = some (some (.builtin "object.__class__")))
    (e5_NoText : PySem.W.mroIn K C_NoText (.type "object") = some true)
    (e6_NoText : PySem.W.subIn K (.ref C_NoText) (.type "ValueError") = some true)
    (e7_NoText : PySem.W.subIn K (.ref C_NoText) (.ref CS) = some true)
    (k1_NoText_NoPlace : PySem.W.subIn K (.ref C_NoText) (.ref C_NoPlace) = some false)
    (k1_NoText_NoRow : PySem.W.subIn K (.ref C_NoText) (.ref C_NoRow) = some false)
    (k1_NoText_NoStep : PySem.W.subIn K (.ref C_NoText) (.ref C_NoStep) = some false)
    (k1_NoText_NoText : PySem.W.subIn K (.ref C_NoText) (.ref C_NoText) = some true)
    (k1_NoText_NoWay : PySem.W.subIn K (.ref C_NoText) (.ref C_NoWay) = some false)
    (k1_NoText_NoWeb : PySem.W.subIn K (.ref C_NoText) (.ref C_NoWeb) = some false)
    (k1_NoText_NoWidth : PySem.W.subIn K (.ref C_NoText) (.ref C_NoWidth) = some false)
    (k1_NoText_TooMany : PySem.W.subIn K (.ref C_NoText) (.ref C_TooMany) = some false)
    (e1_NoWay : PySem.W.findIn K (.ref C_NoWay) "__getattribute__" = some (some (.builtin "BaseException.__getattribute__")))
    (e2_NoWay : PySem.W.findIn K (.ref C_NoWay) "__getattr__" = some none)
    (e3_NoWay : PySem.W.hasDictIn K C_NoWay = true)
    (e4_NoWay : PySem.W.findIn K (.ref C_NoWay) "__class__" = some (some (.builtin "object.__class__")))
    (e5_NoWay : PySem.W.mroIn K C_NoWay (.type "object") = some true)
    (e6_NoWay : PySem.W.subIn K (.ref C_NoWay) (.type "ValueError") = some true)
    (e7_NoWay : PySem.W.subIn K (.ref C_NoWay) (.ref CS) = some true)
    (k1_NoWay_NoPlace : PySem.W.subIn K (.ref C_NoWay) (.ref C_NoPlace) = some false)
    (k1_NoWay_NoRow : PySem.W.subIn K (.ref C_NoWay) (.ref C_NoRow) = some false)
    (k1_NoWay_NoStep : PySem.W.subIn K (.ref C_NoWay) (.ref C_NoStep) = some false)
    (k1_NoWay_NoText : PySem.W.subIn K (.ref C_NoWay) (.ref C_NoText) = some false)
    (k1_NoWay_NoWay : PySem.W.subIn K (.ref C_NoWay) (.ref C_NoWay) = some true)
    (k1_NoWay_NoWeb : PySem.W.subIn K (.ref C_NoWay) (.ref C_NoWeb) = some false)
    (k1_NoWay_NoWidth : PySem.W.subIn K (.ref C_NoWay) (.ref C_NoWidth) = some false)
    (k1_NoWay_TooMany : PySem.W.subIn K (.ref C_NoWay) (.ref C_TooMany) = some false)
    (e1_NoWeb : PySem.W.findIn K (.ref C_NoWeb) "__getattribute__" = some (some (.builtin "BaseException.__getattribute__")))
    (e2_NoWeb : PySem.W.findIn K (.ref C_NoWeb) "__getattr__" = some none)
    (e3_NoWeb : PySem.W.hasDictIn K C_NoWeb = true)
    (e4_NoWeb : PySem.W.findIn K (.ref C_NoWeb) "__class__" = some (some (.builtin "object.__class__")))
    (e5_NoWeb : PySem.W.mroIn K C_NoWeb (.type "object") = some true)
    (e6_NoWeb : PySem.W.subIn K (.ref C_NoWeb) (.type "ValueError") = some true)
    (e7_NoWeb : PySem.W.subIn K (.ref C_NoWeb) (.ref CS) = some true)
    (k1_NoWeb_NoPlace : PySem.W.subIn K (.ref C_NoWeb) (.ref C_NoPlace) = some false)
    (k1_NoWeb_NoRow : PySem.W.subIn K (.ref C_NoWeb) (.ref C_NoRow) = some false)
    (k1_NoWeb_NoStep : PySem.W.subIn K (.ref C_NoWeb) (.ref C_NoStep) = some false)
    (k1_NoWeb_NoText : PySem.W.subIn K (.ref C_NoWeb) (.ref C_NoText) = some false)
    (k1_NoWeb_NoWay : PySem.W.subIn K (.ref C_NoWeb) (.ref C_NoWay) = some false)
    (k1_NoWeb_NoWeb : PySem.W.subIn K (.ref C_NoWeb) (.ref C_NoWeb) = some true)
    (k1_NoWeb_NoWidth : PySem.W.subIn K (.ref C_NoWeb) (.ref C_NoWidth) = some false)
    (k1_NoWeb_TooMany : PySem.W.subIn K (.ref C_NoWeb) (.ref C_TooMany) = some false)
    (e1_NoWidth : PySem.W.findIn K (.ref C_NoWidth) "__getattribute__" = some (some (.builtin "BaseException.__getattribute__")))
    (e2_NoWidth : PySem.W.findIn K (.ref C_NoWidth) "__getattr__" = some none)
    (e3_NoWidth : PySem.W.hasDictIn K C_NoWidth = true)
    (e4_NoWidth : PySem.W.findIn K (.ref C_NoWidth) "__class__" = some (some (.builtin "object.__class__")))
    (e5_NoWidth : PySem.W.mroIn K C_NoWidth (.type "object") = some true)
    (e6_NoWidth : PySem.W.subIn K (.ref C_NoWidth) (.type "ValueError") = some true)
    (e7_NoWidth : PySem.W.subIn K (.ref C_NoWidth) (.ref CS) = some true)
    (k1_NoWidth_NoPlace : PySem.W.subIn K (.ref C_NoWidth) (.ref C_NoPlace) = some false)
    (k1_NoWidth_NoRow : PySem.W.subIn K (.ref C_NoWidth) (.ref C_NoRow) = some false)
    (k1_NoWidth_NoStep : PySem.W.subIn K (.ref C_NoWidth) (.ref C_NoStep) = some false)
    (k1_NoWidth_NoText : PySem.W.subIn K (.ref C_NoWidth) (.ref C_NoText) = some false)
    (k1_NoWidth_NoWay : PySem.W.subIn K (.ref C_NoWidth) (.ref C_NoWay) = some false)
    (k1_NoWidth_NoWeb : PySem.W.subIn K (.ref C_NoWidth) (.ref C_NoWeb) = some false)
    (k1_NoWidth_NoWidth : PySem.W.subIn K (.ref C_NoWidth) (.ref C_NoWidth) = some true)
    (k1_NoWidth_TooMany : PySem.W.subIn K (.ref C_NoWidth) (.ref C_TooMany) = some false)
    (e1_TooMany : PySem.W.findIn K (.ref C_TooMany) "__getattribute__" = some (some (.builtin "BaseException.__getattribute__")))
    (e2_TooMany : PySem.W.findIn K (.ref C_TooMany) "__getattr__" = some none)
    (e3_TooMany : PySem.W.hasDictIn K C_TooMany = true)
    (e4_TooMany : PySem.W.findIn K (.ref C_TooMany) "__class__" = some (some (.builtin "object.__class__")))
    (e5_TooMany : PySem.W.mroIn K C_TooMany (.type "object") = some true)
    (e6_TooMany : PySem.W.subIn K (.ref C_TooMany) (.type "ValueError") = some true)
    (e7_TooMany : PySem.W.subIn K (.ref C_TooMany) (.ref CS) = some true)
    (k1_TooMany_NoPlace : PySem.W.subIn K (.ref C_TooMany) (.ref C_NoPlace) = some false)
    (k1_TooMany_NoRow : PySem.W.subIn K (.ref C_TooMany) (.ref C_NoRow) = some false)
    (k1_TooMany_NoStep : PySem.W.subIn K (.ref C_TooMany) (.ref C_NoStep) = some false)
    (k1_TooMany_NoText : PySem.W.subIn K (.ref C_TooMany) (.ref C_NoText) = some false)
    (k1_TooMany_NoWay : PySem.W.subIn K (.ref C_TooMany) (.ref C_NoWay) = some false)
    (k1_TooMany_NoWeb : PySem.W.subIn K (.ref C_TooMany) (.ref C_NoWeb) = some false)
    (k1_TooMany_NoWidth : PySem.W.subIn K (.ref C_TooMany) (.ref C_NoWidth) = some false)
    (k1_TooMany_TooMany : PySem.W.subIn K (.ref C_TooMany) (.ref C_TooMany) = some true)
    (n_MOST : PySem.W.nsIn K mainGlobals "MOST" = some (some (.int 200 t_MOST)))
    (z_len : PySem.W.nsIn K mainGlobals "len" = some none)
    (z_range : PySem.W.nsIn K mainGlobals "range" = some none)
    (z_tuple : PySem.W.nsIn K mainGlobals "tuple" = some none)
    (z_list : PySem.W.nsIn K mainGlobals "list" = some none)
    (z_max : PySem.W.nsIn K mainGlobals "max" = some none)
    (z_min : PySem.W.nsIn K mainGlobals "min" = some none)
    (z_sum : PySem.W.nsIn K mainGlobals "sum" = some none)
    (z_all : PySem.W.nsIn K mainGlobals "all" = some none)
    (z_any : PySem.W.nsIn K mainGlobals "any" = some none)
    (z_abs : PySem.W.nsIn K mainGlobals "abs" = some none)
    (z_int : PySem.W.nsIn K mainGlobals "int" = some none)
    (z_str : PySem.W.nsIn K mainGlobals "str" = some none)
    (z_sorted : PySem.W.nsIn K mainGlobals "sorted" = some none)
    (z_set : PySem.W.nsIn K mainGlobals "set" = some none)
    (z_enumerate : PySem.W.nsIn K mainGlobals "enumerate" = some none)
    (z_zip : PySem.W.nsIn K mainGlobals "zip" = some none)
    (z_isinstance : PySem.W.nsIn K mainGlobals "isinstance" = some none)
    (z_bool : PySem.W.nsIn K mainGlobals "bool" = some none)
    : ∃ fd : FuncData, (∀ (s : Shared) (v : Value), BindsTo s fd ⟨[v], []⟩ [("_law_script", v)]) ∧ ∀ base : Heap, K.In base → base.Ns mainGlobals mg → FnOk P w K mg base (L2.CX P w) 7 fa fd ["_law_script"] (spW K F_law_k41) := by
  have e := hfa.symm.trans (PySem.W.mg_of X G a22)
  cases e
  have B : Bt mg := ⟨PySem.W.mg_none_of X G z_len, PySem.W.mg_none_of X G z_range, PySem.W.mg_none_of X G z_tuple, PySem.W.mg_none_of X G z_list, PySem.W.mg_none_of X G z_max, PySem.W.mg_none_of X G z_min, PySem.W.mg_none_of X G z_sum, PySem.W.mg_none_of X G z_all, PySem.W.mg_none_of X G z_any, PySem.W.mg_none_of X G z_abs, PySem.W.mg_none_of X G z_int, PySem.W.mg_none_of X G z_str, PySem.W.mg_none_of X G z_sorted, PySem.W.mg_none_of X G z_set, PySem.W.mg_none_of X G z_enumerate, PySem.W.mg_none_of X G z_zip, PySem.W.mg_none_of X G z_isinstance, PySem.W.mg_none_of X G z_bool⟩
  obtain ⟨ad, had⟩ : ∃ ad : Adr, ad = (fun c => match c with | .place => C_NoPlace | .row => C_NoRow | .step => C_NoStep | .text => C_NoText | .way => C_NoWay | .web => C_NoWeb | .width => C_NoWidth | .many => C_TooMany) := ⟨_, rfl⟩
  have ad_NoPlace : ad .place = C_NoPlace := by rw [had]
  have x_NoPlace : XC K mg ad .place "NoPlace" := ⟨by rw [ad_NoPlace]; exact PySem.W.mg_of X G xg_NoPlace, ⟨_, _, _, _, PySem.F.excBase_ValueError, by rw [ad_NoPlace]; exact xq_NoPlace⟩, by rw [ad_NoPlace]; exact xk_NoPlace, by rw [ad_NoPlace]; exact xb_NoPlace, by rw [ad_NoPlace]; exact xt_NoPlace⟩
  have ad_NoRow : ad .row = C_NoRow := by rw [had]
  have x_NoRow : XC K mg ad .row "NoRow" := ⟨by rw [ad_NoRow]; exact PySem.W.mg_of X G xg_NoRow, ⟨_, _, _, _, PySem.F.excBase_ValueError, by rw [ad_NoRow]; exact xq_NoRow⟩, by rw [ad_NoRow]; exact xk_NoRow, by rw [ad_NoRow]; exact xb_NoRow, by rw [ad_NoRow]; exact xt_NoRow⟩
  have ad_NoStep : ad .step = C_NoStep := by rw [had]
  have x_NoStep : XC K mg ad .step "NoStep" := ⟨by rw [ad_NoStep]; exact PySem.W.mg_of X G xg_NoStep, ⟨_, _, _, _, PySem.F.excBase_ValueError, by rw [ad_NoStep]; exact xq_NoStep⟩, by rw [ad_NoStep]; exact xk_NoStep, by rw [ad_NoStep]; exact xb_NoStep, by rw [ad_NoStep]; exact xt_NoStep⟩
  have ad_NoText : ad .text = C_NoText := by rw [had]
  have x_NoText : XC K mg ad .text "NoText" := ⟨by rw [ad_NoText]; exact PySem.W.mg_of X G xg_NoText, ⟨_, _, _, _, PySem.F.excBase_ValueError, by rw [ad_NoText]; exact xq_NoText⟩, by rw [ad_NoText]; exact xk_NoText, by rw [ad_NoText]; exact xb_NoText, by rw [ad_NoText]; exact xt_NoText⟩
  have ad_NoWay : ad .way = C_NoWay := by rw [had]
  have x_NoWay : XC K mg ad .way "NoWay" := ⟨by rw [ad_NoWay]; exact PySem.W.mg_of X G xg_NoWay, ⟨_, _, _, _, PySem.F.excBase_ValueError, by rw [ad_NoWay]; exact xq_NoWay⟩, by rw [ad_NoWay]; exact xk_NoWay, by rw [ad_NoWay]; exact xb_NoWay, by rw [ad_NoWay]; exact xt_NoWay⟩
  have ad_NoWeb : ad .web = C_NoWeb := by rw [had]
  have x_NoWeb : XC K mg ad .web "NoWeb" := ⟨by rw [ad_NoWeb]; exact PySem.W.mg_of X G xg_NoWeb, ⟨_, _, _, _, PySem.F.excBase_ValueError, by rw [ad_NoWeb]; exact xq_NoWeb⟩, by rw [ad_NoWeb]; exact xk_NoWeb, by rw [ad_NoWeb]; exact xb_NoWeb, by rw [ad_NoWeb]; exact xt_NoWeb⟩
  have ad_NoWidth : ad .width = C_NoWidth := by rw [had]
  have x_NoWidth : XC K mg ad .width "NoWidth" := ⟨by rw [ad_NoWidth]; exact PySem.W.mg_of X G xg_NoWidth, ⟨_, _, _, _, PySem.F.excBase_ValueError, by rw [ad_NoWidth]; exact xq_NoWidth⟩, by rw [ad_NoWidth]; exact xk_NoWidth, by rw [ad_NoWidth]; exact xb_NoWidth, by rw [ad_NoWidth]; exact xt_NoWidth⟩
  have ad_TooMany : ad .many = C_TooMany := by rw [had]
  have x_TooMany : XC K mg ad .many "TooMany" := ⟨by rw [ad_TooMany]; exact PySem.W.mg_of X G xg_TooMany, ⟨_, _, _, _, PySem.F.excBase_ValueError, by rw [ad_TooMany]; exact xq_TooMany⟩, by rw [ad_TooMany]; exact xk_TooMany, by rw [ad_TooMany]; exact xb_TooMany, by rw [ad_TooMany]; exact xt_TooMany⟩
  have T : Cn mg := ⟨⟨_, PySem.W.mg_of X G n_MOST⟩⟩
  have KX : EK K mg ad CS := by
    refine ⟨fun e => ?_, fun c e => ?_, fun e => ?_, PySem.W.mg_of X G xs_g, fun e => ?_, fun c e => ?_, PySem.W.mg_none_of X G z_ValueError⟩
    · cases e with
      | place => rw [ad_NoPlace]; exact ⟨e1_NoPlace, e2_NoPlace, xb_NoPlace, e3_NoPlace, e4_NoPlace, e8, e9, e5_NoPlace⟩
      | row => rw [ad_NoRow]; exact ⟨e1_NoRow, e2_NoRow, xb_NoRow, e3_NoRow, e4_NoRow, e8, e9, e5_NoRow⟩
      | step => rw [ad_NoStep]; exact ⟨e1_NoStep, e2_NoStep, xb_NoStep, e3_NoStep, e4_NoStep, e8, e9, e5_NoStep⟩
      | text => rw [ad_NoText]; exact ⟨e1_NoText, e2_NoText, xb_NoText, e3_NoText, e4_NoText, e8, e9, e5_NoText⟩
      | way => rw [ad_NoWay]; exact ⟨e1_NoWay, e2_NoWay, xb_NoWay, e3_NoWay, e4_NoWay, e8, e9, e5_NoWay⟩
      | web => rw [ad_NoWeb]; exact ⟨e1_NoWeb, e2_NoWeb, xb_NoWeb, e3_NoWeb, e4_NoWeb, e8, e9, e5_NoWeb⟩
      | width => rw [ad_NoWidth]; exact ⟨e1_NoWidth, e2_NoWidth, xb_NoWidth, e3_NoWidth, e4_NoWidth, e8, e9, e5_NoWidth⟩
      | many => rw [ad_TooMany]; exact ⟨e1_TooMany, e2_TooMany, xb_TooMany, e3_TooMany, e4_TooMany, e8, e9, e5_TooMany⟩
    · cases c with
      | place => cases e with
        | place => rw [ad_NoPlace]; exact kit_sub e3_NoPlace xt_NoPlace k1_NoPlace_NoPlace k1_NoPlace_NoPlace
        | row => rw [ad_NoRow, ad_NoPlace]; exact kit_sub e3_NoPlace xt_NoPlace k1_NoPlace_NoPlace k1_NoRow_NoPlace
        | step => rw [ad_NoStep, ad_NoPlace]; exact kit_sub e3_NoPlace xt_NoPlace k1_NoPlace_NoPlace k1_NoStep_NoPlace
        | text => rw [ad_NoText, ad_NoPlace]; exact kit_sub e3_NoPlace xt_NoPlace k1_NoPlace_NoPlace k1_NoText_NoPlace
        | way => rw [ad_NoWay, ad_NoPlace]; exact kit_sub e3_NoPlace xt_NoPlace k1_NoPlace_NoPlace k1_NoWay_NoPlace
        | web => rw [ad_NoWeb, ad_NoPlace]; exact kit_sub e3_NoPlace xt_NoPlace k1_NoPlace_NoPlace k1_NoWeb_NoPlace
        | width => rw [ad_NoWidth, ad_NoPlace]; exact kit_sub e3_NoPlace xt_NoPlace k1_NoPlace_NoPlace k1_NoWidth_NoPlace
        | many => rw [ad_TooMany, ad_NoPlace]; exact kit_sub e3_NoPlace xt_NoPlace k1_NoPlace_NoPlace k1_TooMany_NoPlace
      | row => cases e with
        | place => rw [ad_NoPlace, ad_NoRow]; exact kit_sub e3_NoRow xt_NoRow k1_NoRow_NoRow k1_NoPlace_NoRow
        | row => rw [ad_NoRow]; exact kit_sub e3_NoRow xt_NoRow k1_NoRow_NoRow k1_NoRow_NoRow
        | step => rw [ad_NoStep, ad_NoRow]; exact kit_sub e3_NoRow xt_NoRow k1_NoRow_NoRow k1_NoStep_NoRow
        | text => rw [ad_NoText, ad_NoRow]; exact kit_sub e3_NoRow xt_NoRow k1_NoRow_NoRow k1_NoText_NoRow
        | way => rw [ad_NoWay, ad_NoRow]; exact kit_sub e3_NoRow xt_NoRow k1_NoRow_NoRow k1_NoWay_NoRow
        | web => rw [ad_NoWeb, ad_NoRow]; exact kit_sub e3_NoRow xt_NoRow k1_NoRow_NoRow k1_NoWeb_NoRow
        | width => rw [ad_NoWidth, ad_NoRow]; exact kit_sub e3_NoRow xt_NoRow k1_NoRow_NoRow k1_NoWidth_NoRow
        | many => rw [ad_TooMany, ad_NoRow]; exact kit_sub e3_NoRow xt_NoRow k1_NoRow_NoRow k1_TooMany_NoRow
      | step => cases e with
        | place => rw [ad_NoPlace, ad_NoStep]; exact kit_sub e3_NoStep xt_NoStep k1_NoStep_NoStep k1_NoPlace_NoStep
        | row => rw [ad_NoRow, ad_NoStep]; exact kit_sub e3_NoStep xt_NoStep k1_NoStep_NoStep k1_NoRow_NoStep
        | step => rw [ad_NoStep]; exact kit_sub e3_NoStep xt_NoStep k1_NoStep_NoStep k1_NoStep_NoStep
        | text => rw [ad_NoText, ad_NoStep]; exact kit_sub e3_NoStep xt_NoStep k1_NoStep_NoStep k1_NoText_NoStep
        | way => rw [ad_NoWay, ad_NoStep]; exact kit_sub e3_NoStep xt_NoStep k1_NoStep_NoStep k1_NoWay_NoStep
        | web => rw [ad_NoWeb, ad_NoStep]; exact kit_sub e3_NoStep xt_NoStep k1_NoStep_NoStep k1_NoWeb_NoStep
        | width => rw [ad_NoWidth, ad_NoStep]; exact kit_sub e3_NoStep xt_NoStep k1_NoStep_NoStep k1_NoWidth_NoStep
        | many => rw [ad_TooMany, ad_NoStep]; exact kit_sub e3_NoStep xt_NoStep k1_NoStep_NoStep k1_TooMany_NoStep
      | text => cases e with
        | place => rw [ad_NoPlace, ad_NoText]; exact kit_sub e3_NoText xt_NoText k1_NoText_NoText k1_NoPlace_NoText
        | row => rw [ad_NoRow, ad_NoText]; exact kit_sub e3_NoText xt_NoText k1_NoText_NoText k1_NoRow_NoText
        | step => rw [ad_NoStep, ad_NoText]; exact kit_sub e3_NoText xt_NoText k1_NoText_NoText k1_NoStep_NoText
        | text => rw [ad_NoText]; exact kit_sub e3_NoText xt_NoText k1_NoText_NoText k1_NoText_NoText
        | way => rw [ad_NoWay, ad_NoText]; exact kit_sub e3_NoText xt_NoText k1_NoText_NoText k1_NoWay_NoText
        | web => rw [ad_NoWeb, ad_NoText]; exact kit_sub e3_NoText xt_NoText k1_NoText_NoText k1_NoWeb_NoText
        | width => rw [ad_NoWidth, ad_NoText]; exact kit_sub e3_NoText xt_NoText k1_NoText_NoText k1_NoWidth_NoText
        | many => rw [ad_TooMany, ad_NoText]; exact kit_sub e3_NoText xt_NoText k1_NoText_NoText k1_TooMany_NoText
      | way => cases e with
        | place => rw [ad_NoPlace, ad_NoWay]; exact kit_sub e3_NoWay xt_NoWay k1_NoWay_NoWay k1_NoPlace_NoWay
        | row => rw [ad_NoRow, ad_NoWay]; exact kit_sub e3_NoWay xt_NoWay k1_NoWay_NoWay k1_NoRow_NoWay
        | step => rw [ad_NoStep, ad_NoWay]; exact kit_sub e3_NoWay xt_NoWay k1_NoWay_NoWay k1_NoStep_NoWay
        | text => rw [ad_NoText, ad_NoWay]; exact kit_sub e3_NoWay xt_NoWay k1_NoWay_NoWay k1_NoText_NoWay
        | way => rw [ad_NoWay]; exact kit_sub e3_NoWay xt_NoWay k1_NoWay_NoWay k1_NoWay_NoWay
        | web => rw [ad_NoWeb, ad_NoWay]; exact kit_sub e3_NoWay xt_NoWay k1_NoWay_NoWay k1_NoWeb_NoWay
        | width => rw [ad_NoWidth, ad_NoWay]; exact kit_sub e3_NoWay xt_NoWay k1_NoWay_NoWay k1_NoWidth_NoWay
        | many => rw [ad_TooMany, ad_NoWay]; exact kit_sub e3_NoWay xt_NoWay k1_NoWay_NoWay k1_TooMany_NoWay
      | web => cases e with
        | place => rw [ad_NoPlace, ad_NoWeb]; exact kit_sub e3_NoWeb xt_NoWeb k1_NoWeb_NoWeb k1_NoPlace_NoWeb
        | row => rw [ad_NoRow, ad_NoWeb]; exact kit_sub e3_NoWeb xt_NoWeb k1_NoWeb_NoWeb k1_NoRow_NoWeb
        | step => rw [ad_NoStep, ad_NoWeb]; exact kit_sub e3_NoWeb xt_NoWeb k1_NoWeb_NoWeb k1_NoStep_NoWeb
        | text => rw [ad_NoText, ad_NoWeb]; exact kit_sub e3_NoWeb xt_NoWeb k1_NoWeb_NoWeb k1_NoText_NoWeb
        | way => rw [ad_NoWay, ad_NoWeb]; exact kit_sub e3_NoWeb xt_NoWeb k1_NoWeb_NoWeb k1_NoWay_NoWeb
        | web => rw [ad_NoWeb]; exact kit_sub e3_NoWeb xt_NoWeb k1_NoWeb_NoWeb k1_NoWeb_NoWeb
        | width => rw [ad_NoWidth, ad_NoWeb]; exact kit_sub e3_NoWeb xt_NoWeb k1_NoWeb_NoWeb k1_NoWidth_NoWeb
        | many => rw [ad_TooMany, ad_NoWeb]; exact kit_sub e3_NoWeb xt_NoWeb k1_NoWeb_NoWeb k1_TooMany_NoWeb
      | width => cases e with
        | place => rw [ad_NoPlace, ad_NoWidth]; exact kit_sub e3_NoWidth xt_NoWidth k1_NoWidth_NoWidth k1_NoPlace_NoWidth
        | row => rw [ad_NoRow, ad_NoWidth]; exact kit_sub e3_NoWidth xt_NoWidth k1_NoWidth_NoWidth k1_NoRow_NoWidth
        | step => rw [ad_NoStep, ad_NoWidth]; exact kit_sub e3_NoWidth xt_NoWidth k1_NoWidth_NoWidth k1_NoStep_NoWidth
        | text => rw [ad_NoText, ad_NoWidth]; exact kit_sub e3_NoWidth xt_NoWidth k1_NoWidth_NoWidth k1_NoText_NoWidth
        | way => rw [ad_NoWay, ad_NoWidth]; exact kit_sub e3_NoWidth xt_NoWidth k1_NoWidth_NoWidth k1_NoWay_NoWidth
        | web => rw [ad_NoWeb, ad_NoWidth]; exact kit_sub e3_NoWidth xt_NoWidth k1_NoWidth_NoWidth k1_NoWeb_NoWidth
        | width => rw [ad_NoWidth]; exact kit_sub e3_NoWidth xt_NoWidth k1_NoWidth_NoWidth k1_NoWidth_NoWidth
        | many => rw [ad_TooMany, ad_NoWidth]; exact kit_sub e3_NoWidth xt_NoWidth k1_NoWidth_NoWidth k1_TooMany_NoWidth
      | many => cases e with
        | place => rw [ad_NoPlace, ad_TooMany]; exact kit_sub e3_TooMany xt_TooMany k1_TooMany_TooMany k1_NoPlace_TooMany
        | row => rw [ad_NoRow, ad_TooMany]; exact kit_sub e3_TooMany xt_TooMany k1_TooMany_TooMany k1_NoRow_TooMany
        | step => rw [ad_NoStep, ad_TooMany]; exact kit_sub e3_TooMany xt_TooMany k1_TooMany_TooMany k1_NoStep_TooMany
        | text => rw [ad_NoText, ad_TooMany]; exact kit_sub e3_TooMany xt_TooMany k1_TooMany_TooMany k1_NoText_TooMany
        | way => rw [ad_NoWay, ad_TooMany]; exact kit_sub e3_TooMany xt_TooMany k1_TooMany_TooMany k1_NoWay_TooMany
        | web => rw [ad_NoWeb, ad_TooMany]; exact kit_sub e3_TooMany xt_TooMany k1_TooMany_TooMany k1_NoWeb_TooMany
        | width => rw [ad_NoWidth, ad_TooMany]; exact kit_sub e3_TooMany xt_TooMany k1_TooMany_TooMany k1_NoWidth_TooMany
        | many => rw [ad_TooMany]; exact kit_sub e3_TooMany xt_TooMany k1_TooMany_TooMany k1_TooMany_TooMany
    · cases e with
      | place => rw [ad_NoPlace]; exact kit_ve e6_NoPlace
      | row => rw [ad_NoRow]; exact kit_ve e6_NoRow
      | step => rw [ad_NoStep]; exact kit_ve e6_NoStep
      | text => rw [ad_NoText]; exact kit_ve e6_NoText
      | way => rw [ad_NoWay]; exact kit_ve e6_NoWay
      | web => rw [ad_NoWeb]; exact kit_ve e6_NoWeb
      | width => rw [ad_NoWidth]; exact kit_ve e6_NoWidth
      | many => rw [ad_TooMany]; exact kit_ve e6_TooMany
    · cases e with
      | place => rw [ad_NoPlace]; exact PySem.W.exm_ref s1 s2 s3 e7_NoPlace
      | row => rw [ad_NoRow]; exact PySem.W.exm_ref s1 s2 s3 e7_NoRow
      | step => rw [ad_NoStep]; exact PySem.W.exm_ref s1 s2 s3 e7_NoStep
      | text => rw [ad_NoText]; exact PySem.W.exm_ref s1 s2 s3 e7_NoText
      | way => rw [ad_NoWay]; exact PySem.W.exm_ref s1 s2 s3 e7_NoWay
      | web => rw [ad_NoWeb]; exact PySem.W.exm_ref s1 s2 s3 e7_NoWeb
      | width => rw [ad_NoWidth]; exact PySem.W.exm_ref s1 s2 s3 e7_NoWidth
      | many => rw [ad_TooMany]; exact PySem.W.exm_ref s1 s2 s3 e7_TooMany
    · cases c with
      | place => cases e with
        | place => rw [ad_NoPlace]; exact PySem.W.exm_ref xb_NoPlace e3_NoPlace xt_NoPlace k1_NoPlace_NoPlace
        | row => rw [ad_NoRow, ad_NoPlace]; exact PySem.W.exm_ref xb_NoPlace e3_NoPlace xt_NoPlace k1_NoRow_NoPlace
        | step => rw [ad_NoStep, ad_NoPlace]; exact PySem.W.exm_ref xb_NoPlace e3_NoPlace xt_NoPlace k1_NoStep_NoPlace
        | text => rw [ad_NoText, ad_NoPlace]; exact PySem.W.exm_ref xb_NoPlace e3_NoPlace xt_NoPlace k1_NoText_NoPlace
        | way => rw [ad_NoWay, ad_NoPlace]; exact PySem.W.exm_ref xb_NoPlace e3_NoPlace xt_NoPlace k1_NoWay_NoPlace
        | web => rw [ad_NoWeb, ad_NoPlace]; exact PySem.W.exm_ref xb_NoPlace e3_NoPlace xt_NoPlace k1_NoWeb_NoPlace
        | width => rw [ad_NoWidth, ad_NoPlace]; exact PySem.W.exm_ref xb_NoPlace e3_NoPlace xt_NoPlace k1_NoWidth_NoPlace
        | many => rw [ad_TooMany, ad_NoPlace]; exact PySem.W.exm_ref xb_NoPlace e3_NoPlace xt_NoPlace k1_TooMany_NoPlace
      | row => cases e with
        | place => rw [ad_NoPlace, ad_NoRow]; exact PySem.W.exm_ref xb_NoRow e3_NoRow xt_NoRow k1_NoPlace_NoRow
        | row => rw [ad_NoRow]; exact PySem.W.exm_ref xb_NoRow e3_NoRow xt_NoRow k1_NoRow_NoRow
        | step => rw [ad_NoStep, ad_NoRow]; exact PySem.W.exm_ref xb_NoRow e3_NoRow xt_NoRow k1_NoStep_NoRow
        | text => rw [ad_NoText, ad_NoRow]; exact PySem.W.exm_ref xb_NoRow e3_NoRow xt_NoRow k1_NoText_NoRow
        | way => rw [ad_NoWay, ad_NoRow]; exact PySem.W.exm_ref xb_NoRow e3_NoRow xt_NoRow k1_NoWay_NoRow
        | web => rw [ad_NoWeb, ad_NoRow]; exact PySem.W.exm_ref xb_NoRow e3_NoRow xt_NoRow k1_NoWeb_NoRow
        | width => rw [ad_NoWidth, ad_NoRow]; exact PySem.W.exm_ref xb_NoRow e3_NoRow xt_NoRow k1_NoWidth_NoRow
        | many => rw [ad_TooMany, ad_NoRow]; exact PySem.W.exm_ref xb_NoRow e3_NoRow xt_NoRow k1_TooMany_NoRow
      | step => cases e with
        | place => rw [ad_NoPlace, ad_NoStep]; exact PySem.W.exm_ref xb_NoStep e3_NoStep xt_NoStep k1_NoPlace_NoStep
        | row => rw [ad_NoRow, ad_NoStep]; exact PySem.W.exm_ref xb_NoStep e3_NoStep xt_NoStep k1_NoRow_NoStep
        | step => rw [ad_NoStep]; exact PySem.W.exm_ref xb_NoStep e3_NoStep xt_NoStep k1_NoStep_NoStep
        | text => rw [ad_NoText, ad_NoStep]; exact PySem.W.exm_ref xb_NoStep e3_NoStep xt_NoStep k1_NoText_NoStep
        | way => rw [ad_NoWay, ad_NoStep]; exact PySem.W.exm_ref xb_NoStep e3_NoStep xt_NoStep k1_NoWay_NoStep
        | web => rw [ad_NoWeb, ad_NoStep]; exact PySem.W.exm_ref xb_NoStep e3_NoStep xt_NoStep k1_NoWeb_NoStep
        | width => rw [ad_NoWidth, ad_NoStep]; exact PySem.W.exm_ref xb_NoStep e3_NoStep xt_NoStep k1_NoWidth_NoStep
        | many => rw [ad_TooMany, ad_NoStep]; exact PySem.W.exm_ref xb_NoStep e3_NoStep xt_NoStep k1_TooMany_NoStep
      | text => cases e with
        | place => rw [ad_NoPlace, ad_NoText]; exact PySem.W.exm_ref xb_NoText e3_NoText xt_NoText k1_NoPlace_NoText
        | row => rw [ad_NoRow, ad_NoText]; exact PySem.W.exm_ref xb_NoText e3_NoText xt_NoText k1_NoRow_NoText
        | step => rw [ad_NoStep, ad_NoText]; exact PySem.W.exm_ref xb_NoText e3_NoText xt_NoText k1_NoStep_NoText
        | text => rw [ad_NoText]; exact PySem.W.exm_ref xb_NoText e3_NoText xt_NoText k1_NoText_NoText
        | way => rw [ad_NoWay, ad_NoText]; exact PySem.W.exm_ref xb_NoText e3_NoText xt_NoText k1_NoWay_NoText
        | web => rw [ad_NoWeb, ad_NoText]; exact PySem.W.exm_ref xb_NoText e3_NoText xt_NoText k1_NoWeb_NoText
        | width => rw [ad_NoWidth, ad_NoText]; exact PySem.W.exm_ref xb_NoText e3_NoText xt_NoText k1_NoWidth_NoText
        | many => rw [ad_TooMany, ad_NoText]; exact PySem.W.exm_ref xb_NoText e3_NoText xt_NoText k1_TooMany_NoText
      | way => cases e with
        | place => rw [ad_NoPlace, ad_NoWay]; exact PySem.W.exm_ref xb_NoWay e3_NoWay xt_NoWay k1_NoPlace_NoWay
        | row => rw [ad_NoRow, ad_NoWay]; exact PySem.W.exm_ref xb_NoWay e3_NoWay xt_NoWay k1_NoRow_NoWay
        | step => rw [ad_NoStep, ad_NoWay]; exact PySem.W.exm_ref xb_NoWay e3_NoWay xt_NoWay k1_NoStep_NoWay
        | text => rw [ad_NoText, ad_NoWay]; exact PySem.W.exm_ref xb_NoWay e3_NoWay xt_NoWay k1_NoText_NoWay
        | way => rw [ad_NoWay]; exact PySem.W.exm_ref xb_NoWay e3_NoWay xt_NoWay k1_NoWay_NoWay
        | web => rw [ad_NoWeb, ad_NoWay]; exact PySem.W.exm_ref xb_NoWay e3_NoWay xt_NoWay k1_NoWeb_NoWay
        | width => rw [ad_NoWidth, ad_NoWay]; exact PySem.W.exm_ref xb_NoWay e3_NoWay xt_NoWay k1_NoWidth_NoWay
        | many => rw [ad_TooMany, ad_NoWay]; exact PySem.W.exm_ref xb_NoWay e3_NoWay xt_NoWay k1_TooMany_NoWay
      | web => cases e with
        | place => rw [ad_NoPlace, ad_NoWeb]; exact PySem.W.exm_ref xb_NoWeb e3_NoWeb xt_NoWeb k1_NoPlace_NoWeb
        | row => rw [ad_NoRow, ad_NoWeb]; exact PySem.W.exm_ref xb_NoWeb e3_NoWeb xt_NoWeb k1_NoRow_NoWeb
        | step => rw [ad_NoStep, ad_NoWeb]; exact PySem.W.exm_ref xb_NoWeb e3_NoWeb xt_NoWeb k1_NoStep_NoWeb
        | text => rw [ad_NoText, ad_NoWeb]; exact PySem.W.exm_ref xb_NoWeb e3_NoWeb xt_NoWeb k1_NoText_NoWeb
        | way => rw [ad_NoWay, ad_NoWeb]; exact PySem.W.exm_ref xb_NoWeb e3_NoWeb xt_NoWeb k1_NoWay_NoWeb
        | web => rw [ad_NoWeb]; exact PySem.W.exm_ref xb_NoWeb e3_NoWeb xt_NoWeb k1_NoWeb_NoWeb
        | width => rw [ad_NoWidth, ad_NoWeb]; exact PySem.W.exm_ref xb_NoWeb e3_NoWeb xt_NoWeb k1_NoWidth_NoWeb
        | many => rw [ad_TooMany, ad_NoWeb]; exact PySem.W.exm_ref xb_NoWeb e3_NoWeb xt_NoWeb k1_TooMany_NoWeb
      | width => cases e with
        | place => rw [ad_NoPlace, ad_NoWidth]; exact PySem.W.exm_ref xb_NoWidth e3_NoWidth xt_NoWidth k1_NoPlace_NoWidth
        | row => rw [ad_NoRow, ad_NoWidth]; exact PySem.W.exm_ref xb_NoWidth e3_NoWidth xt_NoWidth k1_NoRow_NoWidth
        | step => rw [ad_NoStep, ad_NoWidth]; exact PySem.W.exm_ref xb_NoWidth e3_NoWidth xt_NoWidth k1_NoStep_NoWidth
        | text => rw [ad_NoText, ad_NoWidth]; exact PySem.W.exm_ref xb_NoWidth e3_NoWidth xt_NoWidth k1_NoText_NoWidth
        | way => rw [ad_NoWay, ad_NoWidth]; exact PySem.W.exm_ref xb_NoWidth e3_NoWidth xt_NoWidth k1_NoWay_NoWidth
        | web => rw [ad_NoWeb, ad_NoWidth]; exact PySem.W.exm_ref xb_NoWidth e3_NoWidth xt_NoWidth k1_NoWeb_NoWidth
        | width => rw [ad_NoWidth]; exact PySem.W.exm_ref xb_NoWidth e3_NoWidth xt_NoWidth k1_NoWidth_NoWidth
        | many => rw [ad_TooMany, ad_NoWidth]; exact PySem.W.exm_ref xb_NoWidth e3_NoWidth xt_NoWidth k1_TooMany_NoWidth
      | many => cases e with
        | place => rw [ad_NoPlace, ad_TooMany]; exact PySem.W.exm_ref xb_TooMany e3_TooMany xt_TooMany k1_NoPlace_TooMany
        | row => rw [ad_NoRow, ad_TooMany]; exact PySem.W.exm_ref xb_TooMany e3_TooMany xt_TooMany k1_NoRow_TooMany
        | step => rw [ad_NoStep, ad_TooMany]; exact PySem.W.exm_ref xb_TooMany e3_TooMany xt_TooMany k1_NoStep_TooMany
        | text => rw [ad_NoText, ad_TooMany]; exact PySem.W.exm_ref xb_TooMany e3_TooMany xt_TooMany k1_NoText_TooMany
        | way => rw [ad_NoWay, ad_TooMany]; exact PySem.W.exm_ref xb_TooMany e3_TooMany xt_TooMany k1_NoWay_TooMany
        | web => rw [ad_NoWeb, ad_TooMany]; exact PySem.W.exm_ref xb_TooMany e3_TooMany xt_TooMany k1_NoWeb_TooMany
        | width => rw [ad_NoWidth, ad_TooMany]; exact PySem.W.exm_ref xb_TooMany e3_TooMany xt_TooMany k1_NoWidth_TooMany
        | many => rw [ad_TooMany]; exact PySem.W.exm_ref xb_TooMany e3_TooMany xt_TooMany k1_TooMany_TooMany
  have F0 := fun_mk (st := s_covers) l0 c0 k0
  have F1 := fun_mk (st := s_plus) l1 c1 k1
  have F2 := fun_mk (st := s_stair_of) l2 c2 k2
  have F3 := fun_mk (st := s_put) l3 c3 k3
  have F4 := fun_mk (st := s_lesser_below) l4 c4 k4
  have F5 := fun_mk (st := s_taken) l5 c5 k5
  have F6 := fun_mk (st := s_check_place) l6 c6 k6
  have F7 := fun_mk (st := s_marks_of) l7 c7 k7
  have F8 := fun_mk (st := s_stairs) l8 c8 k8
  have F9 := fun_mk (st := s_over) l9 c9 k9
  have F10 := fun_mk (st := s__law_cell_at) l10 c10 k10
  have F11 := fun_mk (st := s__law_mix) l11 c11 k11
  have F12 := fun_mk (st := s__law_price) l12 c12 k12
  have F13 := fun_mk (st := s__law_web) l13 c13 k13
  have F14 := fun_mk (st := s__law_covers) l14 c14 k14
  have F15 := fun_mk (st := s__law_stair) l15 c15 k15
  have F16 := fun_mk (st := s__law_plus) l16 c16 k16
  have F17 := fun_mk (st := s__law_stairs) l17 c17 k17
  have F18 := fun_mk (st := s__law_kept) l18 c18 k18
  have F19 := fun_mk (st := s__law_told) l19 c19 k19
  have F20 := fun_mk (st := s__law_due) l20 c20 k20
  have F21 := fun_mk (st := s__law_cut) l21 c21 k21
  have F22 := fun_mk (st := s_law) l22 c22 k22
  refine ⟨PySem.W.fnOf "law" "law" (defArgs s_law) (defBody s_law) (defScope s_law) .none kV22 dc22 pm22 an22 cd22 ct22, fun s v => .of_eq rfl, fun base _ _ => spW_ok ad ?_⟩
  have c0_ := ok_covers (P := P) (wd := w) (base := base) (ad := ad) B F0 (PySem.W.mg_of X G a0) (F0.binds (ps := ["one", "other"]) fun _ _ _ _ _ _ us hl => match us, hl with | [_, _], _ => rfl)
  have c1_ := ok_plus (P := P) (wd := w) (base := base) (ad := ad) B F1 (PySem.W.mg_of X G a1) (F1.binds (ps := ["one", "other"]) fun _ _ _ _ _ _ us hl => match us, hl with | [_, _], _ => rfl)
  have c2_ := ok_stair_of (P := P) (wd := w) (base := base) (ad := ad) B c0_ F2 (PySem.W.mg_of X G a2) (F2.binds (ps := ["rows"]) fun _ _ _ _ _ _ us hl => match us, hl with | [_], _ => rfl)
  have c3_ := ok_put (P := P) (wd := w) (base := base) (ad := ad) B F3 (PySem.W.mg_of X G a3) (F3.binds (ps := ["heap", "thing"]) fun _ _ _ _ _ _ us hl => match us, hl with | [_, _], _ => rfl)
  have c4_ := ok_lesser_below (P := P) (wd := w) (base := base) (ad := ad) B F4 (PySem.W.mg_of X G a4) (F4.binds (ps := ["heap", "at"]) fun _ _ _ _ _ _ us hl => match us, hl with | [_, _], _ => rfl)
  have c5_ := ok_taken (P := P) (wd := w) (base := base) (ad := ad) B c4_ F5 (PySem.W.mg_of X G a5) (F5.binds (ps := ["heap"]) fun _ _ _ _ _ _ us hl => match us, hl with | [_], _ => rfl)
  have c6_ := ok_check_place (P := P) (wd := w) (base := base) (ad := ad) B x_NoPlace F6 (PySem.W.mg_of X G a6) (F6.binds (ps := ["web", "place"]) fun _ _ _ _ _ _ us hl => match us, hl with | [_, _], _ => rfl)
  have c7_ := ok_marks_of (P := P) (wd := w) (base := base) (ad := ad) B T x_TooMany c6_ c0_ c1_ c3_ c5_ F7 (PySem.W.mg_of X G a7) (F7.binds (ps := ["web", "start"]) fun _ _ _ _ _ _ us hl => match us, hl with | [_, _], _ => rfl)
  have c8_ := ok_stairs (P := P) (wd := w) (base := base) (ad := ad) B c7_ F8 (PySem.W.mg_of X G a8) (F8.binds (ps := ["web", "start"]) fun _ _ _ _ _ _ us hl => match us, hl with | [_, _], _ => rfl)
  have c9_ := ok_over (P := P) (wd := w) (base := base) (ad := ad) B T x_TooMany c6_ c1_ c2_ c8_ F9 (PySem.W.mg_of X G a9) (F9.binds (ps := ["web", "start", "goal", "place"]) fun _ _ _ _ _ _ us hl => match us, hl with | [_, _, _, _], _ => rfl)
  have c10_ := ok__law_cell_at (P := P) (wd := w) (base := base) (ad := ad) B F10 (PySem.W.mg_of X G a10) (F10.binds (ps := ["_law_script", "_law_k"]) fun _ _ _ _ _ _ us hl => match us, hl with | [_, _], _ => rfl)
  have c11_ := ok__law_mix (P := P) (wd := w) (base := base) (ad := ad) B F11 (PySem.W.mg_of X G a11) (F11.binds (ps := ["_law_cell", "_law_k"]) fun _ _ _ _ _ _ us hl => match us, hl with | [_, _], _ => rfl)
  have c12_ := ok__law_price (P := P) (wd := w) (base := base) (ad := ad) B F12 (PySem.W.mg_of X G a12) (F12.binds (ps := ["_law_number", "_law_kind"]) fun _ _ _ _ _ _ us hl => match us, hl with | [_, _], _ => rfl)
  have c13_ := ok__law_web (P := P) (wd := w) (base := base) (ad := ad) B c10_ c11_ c12_ F13 (PySem.W.mg_of X G a13) (F13.binds (ps := ["_law_script"]) fun _ _ _ _ _ _ us hl => match us, hl with | [_], _ => rfl)
  have c14_ := ok__law_covers (P := P) (wd := w) (base := base) (ad := ad) B F14 (PySem.W.mg_of X G a14) (F14.binds (ps := ["_law_one", "_law_other"]) fun _ _ _ _ _ _ us hl => match us, hl with | [_, _], _ => rfl)
  have c15_ := ok__law_stair (P := P) (wd := w) (base := base) (ad := ad) B c14_ F15 (PySem.W.mg_of X G a15) (F15.binds (ps := ["_law_rows"]) fun _ _ _ _ _ _ us hl => match us, hl with | [_], _ => rfl)
  have c16_ := ok__law_plus (P := P) (wd := w) (base := base) (ad := ad) B F16 (PySem.W.mg_of X G a16) (F16.binds (ps := ["_law_one", "_law_other"]) fun _ _ _ _ _ _ us hl => match us, hl with | [_, _], _ => rfl)
  have c17_ := ok__law_stairs (P := P) (wd := w) (base := base) (ad := ad) B c16_ c15_ F17 (PySem.W.mg_of X G a17) (F17.binds (ps := ["_law_web_here", "_law_start"]) fun _ _ _ _ _ _ us hl => match us, hl with | [_, _], _ => rfl)
  have c18_ := ok__law_kept (P := P) (wd := w) (base := base) (ad := ad) B x_NoPlace x_NoRow x_NoStep x_NoText x_NoWay x_NoWeb x_NoWidth x_TooMany KX F18 (PySem.W.mg_of X G a18) (F18.binds (ps := ["_law_kept_here"]) fun _ _ _ _ _ _ us hl => match us, hl with | [_], _ => rfl)
  have c19_ := ok__law_told (P := P) (wd := w) (base := base) (ad := ad) B KX c18_ c9_ F19 (PySem.W.mg_of X G a19) (F19.binds (ps := ["_law_web_here", "_law_start", "_law_goal", "_law_place"]) fun _ _ _ _ _ _ us hl => match us, hl with | [_, _, _, _], _ => rfl)
  have c20_ := ok__law_due (P := P) (wd := w) (base := base) (ad := ad) B c16_ c15_ c17_ F20 (PySem.W.mg_of X G a20) (F20.binds (ps := ["_law_web_here", "_law_start", "_law_goal", "_law_place"]) fun _ _ _ _ _ _ us hl => match us, hl with | [_, _, _, _], _ => rfl)
  have c21_ := ok__law_cut (P := P) (wd := w) (base := base) (ad := ad) B F21 (PySem.W.mg_of X G a21) (F21.binds (ps := ["_law_script"]) fun _ _ _ _ _ _ us hl => match us, hl with | [_], _ => rfl)
  exact ok_law B c10_ c21_ c20_ c11_ c19_ c13_ F22
end DL

open PySem PySem.W PyProof.Rows in
set_option maxRecDepth 100000 in
set_option maxHeartbeats 0 in
theorem PySem.Challenge.cw_pricestair_k41_ways_over_a_place_holds : PySem.Challenge.rw_pricestair_k41_ways_over_a_place.Holds := by
  w_on; o_law; k_head; (case hw => w_witness2)
  k_fill
  refine DL.walkD (l := PySem.Challenge.rw_pricestair_k41_ways_over_a_place) (n := 63) (k := 7) (x := "_law_script") (F := DL.F_law_k41) rfl (by decide) rfl ⟨rfl, by decide, by decide⟩ (fun w h Y => PySem.W.kIn_of Y) DL.pure_k41 ?F
  case F =>
    intro w mg fa h KX G hmg
    refine' DL.all_mk KX G hmg ?a0 ?l0 ?c0 ?k0 ?a1 ?l1 ?c1 ?k1 ?a2 ?l2 ?c2 ?k2 ?a3 ?l3 ?c3 ?k3 ?a4 ?l4 ?c4 ?k4 ?a5 ?l5 ?c5 ?k5 ?a6 ?l6 ?c6 ?k6 ?a7 ?l7 ?c7 ?k7 ?a8 ?l8 ?c8 ?k8 ?a9 ?l9 ?c9 ?k9 ?a10 ?l10 ?c10 ?k10 ?a11 ?l11 ?c11 ?k11 ?a12 ?l12 ?c12 ?k12 ?a13 ?l13 ?c13 ?k13 ?a14 ?l14 ?c14 ?k14 ?a15 ?l15 ?c15 ?k15 ?a16 ?l16 ?c16 ?k16 ?a17 ?l17 ?c17 ?k17 ?a18 ?l18 ?c18 ?k18 ?a19 ?l19 ?c19 ?k19 ?a20 ?l20 ?c20 ?k20 ?a21 ?l21 ?c21 ?k21 ?a22 ?l22 ?c22 ?k22 ?xg_NoPlace ?xq_NoPlace ?xk_NoPlace ?xb_NoPlace ?xt_NoPlace ?xg_NoRow ?xq_NoRow ?xk_NoRow ?xb_NoRow ?xt_NoRow ?xg_NoStep ?xq_NoStep ?xk_NoStep ?xb_NoStep ?xt_NoStep ?xg_NoText ?xq_NoText ?xk_NoText ?xb_NoText ?xt_NoText ?xg_NoWay ?xq_NoWay ?xk_NoWay ?xb_NoWay ?xt_NoWay ?xg_NoWeb ?xq_NoWeb ?xk_NoWeb ?xb_NoWeb ?xt_NoWeb ?xg_NoWidth ?xq_NoWidth ?xk_NoWidth ?xb_NoWidth ?xt_NoWidth ?xg_TooMany ?xq_TooMany ?xk_TooMany ?xb_TooMany ?xt_TooMany ?xs_g ?z_ValueError ?s1 ?s2 ?s3 ?e8 ?e9 ?e1_NoPlace ?e2_NoPlace ?e3_NoPlace ?e4_NoPlace ?e5_NoPlace ?e6_NoPlace ?e7_NoPlace ?k1_NoPlace_NoPlace ?k1_NoPlace_NoRow ?k1_NoPlace_NoStep ?k1_NoPlace_NoText ?k1_NoPlace_NoWay ?k1_NoPlace_NoWeb ?k1_NoPlace_NoWidth ?k1_NoPlace_TooMany ?e1_NoRow ?e2_NoRow ?e3_NoRow ?e4_NoRow ?e5_NoRow ?e6_NoRow ?e7_NoRow ?k1_NoRow_NoPlace ?k1_NoRow_NoRow ?k1_NoRow_NoStep ?k1_NoRow_NoText ?k1_NoRow_NoWay ?k1_NoRow_NoWeb ?k1_NoRow_NoWidth ?k1_NoRow_TooMany ?e1_NoStep ?e2_NoStep ?e3_NoStep ?e4_NoStep ?e5_NoStep ?e6_NoStep ?e7_NoStep ?k1_NoStep_NoPlace ?k1_NoStep_NoRow ?k1_NoStep_NoStep ?k1_NoStep_NoText ?k1_NoStep_NoWay ?k1_NoStep_NoWeb ?k1_NoStep_NoWidth ?k1_NoStep_TooMany ?e1_NoText ?e2_NoText ?e3_NoText ?e4_NoText ?e5_NoText ?e6_NoText ?e7_NoText ?k1_NoText_NoPlace ?k1_NoText_NoRow ?k1_NoText_NoStep ?k1_NoText_NoText ?k1_NoText_NoWay ?k1_NoText_NoWeb ?k1_NoText_NoWidth ?k1_NoText_TooMany ?e1_NoWay ?e2_NoWay ?e3_NoWay ?e4_NoWay ?e5_NoWay ?e6_NoWay ?e7_NoWay ?k1_NoWay_NoPlace ?k1_NoWay_NoRow ?k1_NoWay_NoStep ?k1_NoWay_NoText ?k1_NoWay_NoWay ?k1_NoWay_NoWeb ?k1_NoWay_NoWidth ?k1_NoWay_TooMany ?e1_NoWeb ?e2_NoWeb ?e3_NoWeb ?e4_NoWeb ?e5_NoWeb ?e6_NoWeb ?e7_NoWeb ?k1_NoWeb_NoPlace ?k1_NoWeb_NoRow ?k1_NoWeb_NoStep ?k1_NoWeb_NoText ?k1_NoWeb_NoWay ?k1_NoWeb_NoWeb ?k1_NoWeb_NoWidth ?k1_NoWeb_TooMany ?e1_NoWidth ?e2_NoWidth ?e3_NoWidth ?e4_NoWidth ?e5_NoWidth ?e6_NoWidth ?e7_NoWidth ?k1_NoWidth_NoPlace ?k1_NoWidth_NoRow ?k1_NoWidth_NoStep ?k1_NoWidth_NoText ?k1_NoWidth_NoWay ?k1_NoWidth_NoWeb ?k1_NoWidth_NoWidth ?k1_NoWidth_TooMany ?e1_TooMany ?e2_TooMany ?e3_TooMany ?e4_TooMany ?e5_TooMany ?e6_TooMany ?e7_TooMany ?k1_TooMany_NoPlace ?k1_TooMany_NoRow ?k1_TooMany_NoStep ?k1_TooMany_NoText ?k1_TooMany_NoWay ?k1_TooMany_NoWeb ?k1_TooMany_NoWidth ?k1_TooMany_TooMany ?n_MOST ?z_len ?z_range ?z_tuple ?z_list ?z_max ?z_min ?z_sum ?z_all ?z_any ?z_abs ?z_int ?z_str ?z_sorted ?z_set ?z_enumerate ?z_zip ?z_isinstance ?z_bool
    (case a0 => k_is)
    (case l0 => k_is)
    (case c0 => k_is)
    (case k0 => k_is)
    (case a1 => k_is)
    (case l1 => k_is)
    (case c1 => k_is)
    (case k1 => k_is)
    (case a2 => k_is)
    (case l2 => k_is)
    (case c2 => k_is)
    (case k2 => k_is)
    (case a3 => k_is)
    (case l3 => k_is)
    (case c3 => k_is)
    (case k3 => k_is)
    (case a4 => k_is)
    (case l4 => k_is)
    (case c4 => k_is)
    (case k4 => k_is)
    (case a5 => k_is)
    (case l5 => k_is)
    (case c5 => k_is)
    (case k5 => k_is)
    (case a6 => k_is)
    (case l6 => k_is)
    (case c6 => k_is)
    (case k6 => k_is)
    (case a7 => k_is)
    (case l7 => k_is)
    (case c7 => k_is)
    (case k7 => k_is)
    (case a8 => k_is)
    (case l8 => k_is)
    (case c8 => k_is)
    (case k8 => k_is)
    (case a9 => k_is)
    (case l9 => k_is)
    (case c9 => k_is)
    (case k9 => k_is)
    (case a10 => k_is)
    (case l10 => k_is)
    (case c10 => k_is)
    (case k10 => k_is)
    (case a11 => k_is)
    (case l11 => k_is)
    (case c11 => k_is)
    (case k11 => k_is)
    (case a12 => k_is)
    (case l12 => k_is)
    (case c12 => k_is)
    (case k12 => k_is)
    (case a13 => k_is)
    (case l13 => k_is)
    (case c13 => k_is)
    (case k13 => k_is)
    (case a14 => k_is)
    (case l14 => k_is)
    (case c14 => k_is)
    (case k14 => k_is)
    (case a15 => k_is)
    (case l15 => k_is)
    (case c15 => k_is)
    (case k15 => k_is)
    (case a16 => k_is)
    (case l16 => k_is)
    (case c16 => k_is)
    (case k16 => k_is)
    (case a17 => k_is)
    (case l17 => k_is)
    (case c17 => k_is)
    (case k17 => k_is)
    (case a18 => k_is)
    (case l18 => k_is)
    (case c18 => k_is)
    (case k18 => k_is)
    (case a19 => k_is)
    (case l19 => k_is)
    (case c19 => k_is)
    (case k19 => k_is)
    (case a20 => k_is)
    (case l20 => k_is)
    (case c20 => k_is)
    (case k20 => k_is)
    (case a21 => k_is)
    (case l21 => k_is)
    (case c21 => k_is)
    (case k21 => k_is)
    (case a22 => k_is)
    (case l22 => k_is)
    (case c22 => k_is)
    (case k22 => k_is)
    (case xg_NoPlace => k_is)
    (case xq_NoPlace => k_exc)
    (case xk_NoPlace => k_is)
    (case xb_NoPlace => k_is)
    (case xt_NoPlace => k_is)
    (case xg_NoRow => k_is)
    (case xq_NoRow => k_exc)
    (case xk_NoRow => k_is)
    (case xb_NoRow => k_is)
    (case xt_NoRow => k_is)
    (case xg_NoStep => k_is)
    (case xq_NoStep => k_exc)
    (case xk_NoStep => k_is)
    (case xb_NoStep => k_is)
    (case xt_NoStep => k_is)
    (case xg_NoText => k_is)
    (case xq_NoText => k_exc)
    (case xk_NoText => k_is)
    (case xb_NoText => k_is)
    (case xt_NoText => k_is)
    (case xg_NoWay => k_is)
    (case xq_NoWay => k_exc)
    (case xk_NoWay => k_is)
    (case xb_NoWay => k_is)
    (case xt_NoWay => k_is)
    (case xg_NoWeb => k_is)
    (case xq_NoWeb => k_exc)
    (case xk_NoWeb => k_is)
    (case xb_NoWeb => k_is)
    (case xt_NoWeb => k_is)
    (case xg_NoWidth => k_is)
    (case xq_NoWidth => k_exc)
    (case xk_NoWidth => k_is)
    (case xb_NoWidth => k_is)
    (case xt_NoWidth => k_is)
    (case xg_TooMany => k_is)
    (case xq_TooMany => k_exc)
    (case xk_TooMany => k_is)
    (case xb_TooMany => k_is)
    (case xt_TooMany => k_is)
    (case xs_g => k_is)
    (case z_ValueError => k_is)
    (case s1 => k_is)
    (case s2 => k_is)
    (case s3 => k_is)
    (case e8 => k_is)
    (case e9 => k_is)
    (case e1_NoPlace => k_is)
    (case e2_NoPlace => k_is)
    (case e3_NoPlace => k_is)
    (case e4_NoPlace => k_is)
    (case e5_NoPlace => k_is)
    (case e6_NoPlace => k_is)
    (case e7_NoPlace => k_is)
    (case k1_NoPlace_NoPlace => k_is)
    (case k1_NoPlace_NoRow => k_is)
    (case k1_NoPlace_NoStep => k_is)
    (case k1_NoPlace_NoText => k_is)
    (case k1_NoPlace_NoWay => k_is)
    (case k1_NoPlace_NoWeb => k_is)
    (case k1_NoPlace_NoWidth => k_is)
    (case k1_NoPlace_TooMany => k_is)
    (case e1_NoRow => k_is)
    (case e2_NoRow => k_is)
    (case e3_NoRow => k_is)
    (case e4_NoRow => k_is)
    (case e5_NoRow => k_is)
    (case e6_NoRow => k_is)
    (case e7_NoRow => k_is)
    (case k1_NoRow_NoPlace => k_is)
    (case k1_NoRow_NoRow => k_is)
    (case k1_NoRow_NoStep => k_is)
    (case k1_NoRow_NoText => k_is)
    (case k1_NoRow_NoWay => k_is)
    (case k1_NoRow_NoWeb => k_is)
    (case k1_NoRow_NoWidth => k_is)
    (case k1_NoRow_TooMany => k_is)
    (case e1_NoStep => k_is)
    (case e2_NoStep => k_is)
    (case e3_NoStep => k_is)
    (case e4_NoStep => k_is)
    (case e5_NoStep => k_is)
    (case e6_NoStep => k_is)
    (case e7_NoStep => k_is)
    (case k1_NoStep_NoPlace => k_is)
    (case k1_NoStep_NoRow => k_is)
    (case k1_NoStep_NoStep => k_is)
    (case k1_NoStep_NoText => k_is)
    (case k1_NoStep_NoWay => k_is)
    (case k1_NoStep_NoWeb => k_is)
    (case k1_NoStep_NoWidth => k_is)
    (case k1_NoStep_TooMany => k_is)
    (case e1_NoText => k_is)
    (case e2_NoText => k_is)
    (case e3_NoText => k_is)
    (case e4_NoText => k_is)
    (case e5_NoText => k_is)
    (case e6_NoText => k_is)
    (case e7_NoText => k_is)
    (case k1_NoText_NoPlace => k_is)
    (case k1_NoText_NoRow => k_is)
    (case k1_NoText_NoStep => k_is)
    (case k1_NoText_NoText => k_is)
    (case k1_NoText_NoWay => k_is)
    (case k1_NoText_NoWeb => k_is)
    (case k1_NoText_NoWidth => k_is)
    (case k1_NoText_TooMany => k_is)
    (case e1_NoWay => k_is)
    (case e2_NoWay => k_is)
    (case e3_NoWay => k_is)
    (case e4_NoWay => k_is)
    (case e5_NoWay => k_is)
    (case e6_NoWay => k_is)
    (case e7_NoWay => k_is)
    (case k1_NoWay_NoPlace => k_is)
    (case k1_NoWay_NoRow => k_is)
    (case k1_NoWay_NoStep => k_is)
    (case k1_NoWay_NoText => k_is)
    (case k1_NoWay_NoWay => k_is)
    (case k1_NoWay_NoWeb => k_is)
    (case k1_NoWay_NoWidth => k_is)
    (case k1_NoWay_TooMany => k_is)
    (case e1_NoWeb => k_is)
    (case e2_NoWeb => k_is)
    (case e3_NoWeb => k_is)
    (case e4_NoWeb => k_is)
    (case e5_NoWeb => k_is)
    (case e6_NoWeb => k_is)
    (case e7_NoWeb => k_is)
    (case k1_NoWeb_NoPlace => k_is)
    (case k1_NoWeb_NoRow => k_is)
    (case k1_NoWeb_NoStep => k_is)
    (case k1_NoWeb_NoText => k_is)
    (case k1_NoWeb_NoWay => k_is)
    (case k1_NoWeb_NoWeb => k_is)
    (case k1_NoWeb_NoWidth => k_is)
    (case k1_NoWeb_TooMany => k_is)
    (case e1_NoWidth => k_is)
    (case e2_NoWidth => k_is)
    (case e3_NoWidth => k_is)
    (case e4_NoWidth => k_is)
    (case e5_NoWidth => k_is)
    (case e6_NoWidth => k_is)
    (case e7_NoWidth => k_is)
    (case k1_NoWidth_NoPlace => k_is)
    (case k1_NoWidth_NoRow => k_is)
    (case k1_NoWidth_NoStep => k_is)
    (case k1_NoWidth_NoText => k_is)
    (case k1_NoWidth_NoWay => k_is)
    (case k1_NoWidth_NoWeb => k_is)
    (case k1_NoWidth_NoWidth => k_is)
    (case k1_NoWidth_TooMany => k_is)
    (case e1_TooMany => k_is)
    (case e2_TooMany => k_is)
    (case e3_TooMany => k_is)
    (case e4_TooMany => k_is)
    (case e5_TooMany => k_is)
    (case e6_TooMany => k_is)
    (case e7_TooMany => k_is)
    (case k1_TooMany_NoPlace => k_is)
    (case k1_TooMany_NoRow => k_is)
    (case k1_TooMany_NoStep => k_is)
    (case k1_TooMany_NoText => k_is)
    (case k1_TooMany_NoWay => k_is)
    (case k1_TooMany_NoWeb => k_is)
    (case k1_TooMany_NoWidth => k_is)
    (case k1_TooMany_TooMany => k_is)
    (case n_MOST => k_is)
    (case z_len => k_is)
    (case z_range => k_is)
    (case z_tuple => k_is)
    (case z_list => k_is)
    (case z_max => k_is)
    (case z_min => k_is)
    (case z_sum => k_is)
    (case z_all => k_is)
    (case z_any => k_is)
    (case z_abs => k_is)
    (case z_int => k_is)
    (case z_str => k_is)
    (case z_sorted => k_is)
    (case z_set => k_is)
    (case z_enumerate => k_is)
    (case z_zip => k_is)
    (case z_isinstance => k_is)
    (case z_bool => k_is)
#print axioms PySem.Challenge.cw_pricestair_k41_ways_over_a_place_holds
