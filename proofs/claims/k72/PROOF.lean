import PyProof.Rows.All
import Wide.All
import OpenK.AllK
import Wide.FinOn
import HandS.ForMost
import HandS.ForExc
import HandS.Walk
import HandS.Wide
import HandS.More
import HandS.TupAny
import HandS.Conv
import HandS.Iter
import HandS.Text
import HandS.Flow
import HandS.IsInst
import HandS.Style
import HandS.StrMore
import HandS.Deep
import HandS.TupSets
import KE.SortData
import HandS.Zip
import HandS.Ends
import HandS.ExcOwn
import HandS.ExcBuiltin
import HandS.TupMul
import KE.DataCmp
import HandS.TupLe
import HandS.ExcIs
import HandS.SetFor
import HandS.TryOnly
import PyProof.WalksMore
import PyProof.MinMaxWalk
import KE.GoesZip
import KE.GoesMore
import PyProof.StrOps2
import PyProof.AutoSeq1
import PySem.Challenge.RW_pricestair_k72_stairs_and_ways_as_texts
set_option Elab.async false
set_option linter.all false
set_option maxRecDepth 100000
set_option maxHeartbeats 4000000
set_option autoImplicit false
/-! DL1: a data layer over HandS. Data D, what stands for it on the abstract heap (At), ownership (Rep), frames (Fra), expressions as functions from slots to data (DE). -/
namespace DL
open PySem PySem.Spec PyProof.Rows L2

/-- the program's own refusals -/
inductive Ex where
  | web | way | place | step | width | many | text | row
  deriving DecidableEq
inductive D where
  | non | bl (b : Bool) | int (i : Int) | str (x : Str) | lst (xs : List D) | tup (xs : List D) | exc (e : Ex)
/-- a result -/
inductive R (α : Type) where
  | ok (a : α) | exc (e : Ex) | bad
def R.bind {α β : Type} (x : R α) (k : α → R β) : R β := match x with
  | .ok a => k a
  | .exc e => .exc e
  | .bad => .bad
@[simp] theorem R.bind_ok {α β : Type} (a : α) (k : α → R β) : (R.ok a).bind k = k a := rfl
@[simp] theorem R.bind_exc {α β : Type} (e : Ex) (k : α → R β) : (R.exc e).bind k = R.exc e := rfl
@[simp] theorem R.bind_bad {α β : Type} (k : α → R β) : (R.bad).bind k = R.bad := rfl
/-- what is wanted of a result -/
def Sat {α : Type} (x : R α) (p : α → Prop) (q : Ex → Prop) : Prop := match x with
  | .ok a => p a
  | .exc e => q e
  | .bad => False
@[simp] theorem sat_ok {α : Type} {a : α} {p : α → Prop} {q : Ex → Prop} : Sat (.ok a) p q = p a := rfl
@[simp] theorem sat_exc {α : Type} {e : Ex} {p : α → Prop} {q : Ex → Prop} : Sat (.exc e) p q = q e := rfl
@[simp] theorem sat_bad {α : Type} {p : α → Prop} {q : Ex → Prop} : Sat (.bad : R α) p q = False := rfl
theorem sat_bind {α β : Type} {x : R α} {k : α → R β} {p : β → Prop} {q : Ex → Prop} : Sat (x.bind k) p q = Sat x (fun a => Sat (k a) p q) q := by
  cases x <;> rfl
theorem Sat.imp {α : Type} {x : R α} {p p' : α → Prop} {q q' : Ex → Prop} (h : Sat x p q) (hp : ∀ a, p a → p' a) (hq : ∀ e, q e → q' e) : Sat x p' q' := by
  cases x with
  | ok a => exact hp a h
  | exc e => exact hq e h
  | bad => exact h

abbrev Own := Addr → Prop
open Classical in
/-- the heap without what is owned -/
noncomputable def cut (H : Hp) (ex : Own) : Hp := fun b => if ex b then none else H b
theorem cut_of {H : Hp} {ex : Own} {b : Addr} {o : HO} (n : ¬ ex b) (h : H b = some o) : cut H ex b = some o := by
  unfold cut
  rw [if_neg n]
  exact h
theorem of_cut {H : Hp} {ex : Own} {b : Addr} {o : HO} (h : cut H ex b = some o) : ¬ ex b ∧ H b = some o := by
  unfold cut at h
  by_cases e : ex b
  · rw [if_pos e] at h
    cases h
  · rw [if_neg e] at h
    exact ⟨e, h⟩
theorem cut_same {H : Hp} {ex : Own} : Same (cut H ex) H := fun _ _ h => (of_cut h).2

/-- the heap and what is owned grow -/
structure Le (H : Hp) (ex : Own) (H' : Hp) (ex' : Own) : Prop where
  same : Same H H'
  keep : ∀ b, ex b → ex' b
  new : ∀ b, ex' b → ex b ∨ (H b = none ∧ ∃ o, H' b = some o)
theorem Le.refl (H : Hp) (ex : Own) : Le H ex H ex := ⟨Same.refl H, fun _ h => h, fun _ h => .inl h⟩
theorem Le.trans {H H1 H2 : Hp} {ex ex1 ex2 : Own} (a : Le H ex H1 ex1) (b : Le H1 ex1 H2 ex2) : Le H ex H2 ex2 := by
  refine ⟨a.same.trans b.same, fun c h => b.keep c (a.keep c h), fun c h => ?_⟩
  rcases b.new c h with h1 | ⟨h1, h2⟩
  · rcases a.new c h1 with h3 | ⟨h3, o, h4⟩
    · exact .inl h3
    · exact .inr ⟨h3, o, b.same c o h4⟩
  · exact .inr ⟨a.same.free h1, h2⟩
theorem Le.cuts {H H' : Hp} {ex ex' : Own} (a : Le H ex H' ex') : Same (cut H ex) (cut H' ex') := fun b o h => by
  obtain ⟨n, e⟩ := of_cut h
  refine cut_of (fun q => ?_) (a.same b o e)
  rcases a.new b q with z | ⟨z, _⟩
  · exact n z
  · rw [e] at z
    cases z
theorem Le.lay {H : Hp} {ex : Own} {p : Addr} {o : HO} (h : H p = none) : Le H ex (upd H p o) ex :=
  ⟨fun b u e => by rw [upd_ne (ne_of_none e h)]; exact e, fun _ z => z, fun _ z => .inl z⟩
/-- ex with p -/
def plus (ex : Own) (p : Addr) : Own := fun b => ex b ∨ b = p
theorem Le.own {H : Hp} {ex : Own} {p : Addr} {o : HO} (h : H p = none) : Le H ex (upd H p o) (plus ex p) :=
  ⟨fun b u e => by rw [upd_ne (ne_of_none e h)]; exact e, fun _ z => .inl z, fun b z => z.imp id fun e => by subst e; exact ⟨h, o, upd_same⟩⟩

section
variable {K : PySem.W.Frag}
theorem seqT {H H' : Hp} {a : Addr} {xs : List V} (e : Same H H') (h : SqT K H a xs) : SqT K H' a xs := by
  rcases h with (h | ⟨o, h⟩) | h
  · exact .inl (.inl (e _ _ h))
  · exact .inl (.inr ⟨o, e _ _ h⟩)
  · exact .inr h
end
/-- an exception object of a class of the program's own -/
def excO (C a : Addr) : HO := .ext fun h => ∃ oe : Obj, h.get? a = some oe ∧ oe.cls = .ref C ∧ oe.dict = none ∧ ∃ vs, oe.data = .fields vs
/-- where the classes stand -/
abbrev Adr := Ex → Addr
mutual
inductive At (K : PySem.W.Frag) (ad : Adr) (H : Hp) : D → V → Prop
  | non : At K ad H .non .non
  | bl (b : Bool) : At K ad H (.bl b) (.bl b)
  | int (i : Int) : At K ad H (.int i) (.int i)
  | str (x : Str) : At K ad H (.str x) (.str x)
  | lst {a : Addr} {vs : List V} {ds : List D} : SqL K H a vs → vs.length ≤ sizeLine → Ats K ad H ds vs → At K ad H (.lst ds) (.ref a)
  | tup {a : Addr} {vs : List V} {ds : List D} : SqT K H a vs → vs.length ≤ sizeLine → Ats K ad H ds vs → At K ad H (.tup ds) (.ref a)
  | exc {a : Addr} (e : Ex) : H a = some (excO (ad e) a) → At K ad H (.exc e) (.ref a)
inductive Ats (K : PySem.W.Frag) (ad : Adr) (H : Hp) : List D → List V → Prop
  | nil : Ats K ad H [] []
  | cons {d : D} {ds : List D} {v : V} {vs : List V} : At K ad H d v → Ats K ad H ds vs → Ats K ad H (d :: ds) (v :: vs)
end
section
variable {K : PySem.W.Frag} {ad : Adr} {H H' : Hp}
mutual
theorem At.mono (s : Same H H') : ∀ {d : D} {v : V}, At K ad H d v → At K ad H' d v
  | _, _, .non => .non
  | _, _, .bl b => .bl b
  | _, _, .int i => .int i
  | _, _, .str x => .str x
  | _, _, .lst h z hs => .lst (s.seq h) z (Ats.mono s hs)
  | _, _, .tup h z hs => .tup (seqT s h) z (Ats.mono s hs)
  | _, _, .exc e h => .exc e (s _ _ h)
theorem Ats.mono (s : Same H H') : ∀ {ds : List D} {vs : List V}, Ats K ad H ds vs → Ats K ad H' ds vs
  | _, _, .nil => .nil
  | _, _, .cons h hs => .cons (At.mono s h) (Ats.mono s hs)
end
theorem Ats.length : ∀ {ds : List D} {vs : List V}, Ats K ad H ds vs → ds.length = vs.length
  | _, _, .nil => rfl
  | _, _, .cons _ hs => by rw [List.length_cons, List.length_cons, Ats.length hs]
theorem Ats.get : ∀ {ds : List D} {vs : List V} {i : Nat} {d : D}, Ats K ad H ds vs → ds[i]? = some d → ∃ v, vs[i]? = some v ∧ At K ad H d v
  | _, _, _, _, .nil, e => by simp at e
  | _, _, 0, _, .cons h _, e => by simp at e; subst e; exact ⟨_, rfl, h⟩
  | _, _, i + 1, d, .cons _ hs, e => by
    obtain ⟨v, h1, h2⟩ := Ats.get (i := i) (d := d) hs (by simpa using e)
    exact ⟨v, by simpa using h1, h2⟩
theorem Ats.getV : ∀ {ds : List D} {vs : List V} {i : Nat} {v : V}, Ats K ad H ds vs → vs[i]? = some v → ∃ d, ds[i]? = some d ∧ At K ad H d v
  | _, _, _, _, .nil, e => by simp at e
  | _, _, 0, _, .cons h _, e => by simp at e; subst e; exact ⟨_, rfl, h⟩
  | _, _, i + 1, d, .cons _ hs, e => by
    obtain ⟨v, h1, h2⟩ := Ats.getV (i := i) (v := d) hs (by simpa using e)
    exact ⟨v, by simpa using h1, h2⟩
theorem Ats.append : ∀ {ds es : List D} {vs us : List V}, Ats K ad H ds vs → Ats K ad H es us → Ats K ad H (ds ++ es) (vs ++ us)
  | _, _, _, _, .nil, h => h
  | _, _, _, _, .cons h hs, g => .cons h (Ats.append hs g)
theorem Ats.take : ∀ {ds : List D} {vs : List V} (n : Nat), Ats K ad H ds vs → Ats K ad H (ds.take n) (vs.take n)
  | _, _, 0, _ => .nil
  | _, _, _ + 1, .nil => .nil
  | _, _, n + 1, .cons h hs => .cons h (Ats.take n hs)
theorem Ats.drop : ∀ {ds : List D} {vs : List V} (n : Nat), Ats K ad H ds vs → Ats K ad H (ds.drop n) (vs.drop n)
  | _, _, 0, h => h
  | _, _, _ + 1, .nil => .nil
  | _, _, n + 1, .cons _ hs => Ats.drop n hs
theorem Ats.set {d : D} {v : V} (h : At K ad H d v) : ∀ {ds : List D} {vs : List V} (i : Nat), Ats K ad H ds vs → Ats K ad H (ds.set i d) (vs.set i v)
  | _, _, _, .nil => .nil
  | _, _, 0, .cons _ hs => .cons h hs
  | _, _, i + 1, .cons g hs => .cons g (Ats.set h i hs)
theorem Ats.reverse : ∀ {ds : List D} {vs : List V}, Ats K ad H ds vs → Ats K ad H ds.reverse vs.reverse
  | _, _, .nil => .nil
  | _, _, .cons h hs => by
    rw [List.reverse_cons, List.reverse_cons]
    exact (Ats.reverse hs).append (.cons h .nil)
theorem Ats.one {d : D} {vs : List V} (h : Ats K ad H [d] vs) : ∃ v, vs = [v] ∧ At K ad H d v := by
  cases h with
  | cons h hs =>
    cases hs
    exact ⟨_, rfl, h⟩
theorem Ats.two {d e : D} {vs : List V} (h : Ats K ad H [d, e] vs) : ∃ v u, vs = [v, u] ∧ At K ad H d v ∧ At K ad H e u := by
  cases h with
  | cons h hs =>
    obtain ⟨u, rfl, g⟩ := hs.one
    exact ⟨_, _, rfl, h, g⟩
end

/-- neither list nor tuple nor exception -/
def flat : D → Bool
  | .lst _ => false
  | .tup _ => false
  | .exc _ => false
  | _ => true
/-- whose a thing is: fz anybody's (never changed); own a list that is ours alone, its items of a shape; tup a tuple of shapes; pin a list of ours that stands at a -/
inductive Sh where
  | fz | own (s : Sh) | tup (ss : List Sh) | pin (a : Addr)
mutual
inductive Rep (K : PySem.W.Frag) (ad : Adr) (H : Hp) (ex : Own) : Sh → D → V → List Addr → Prop
  | fz {d : D} {v : V} : At K ad (cut H ex) d v → Rep K ad H ex .fz d v []
  | own {s : Sh} {ds : List D} {a : Addr} {vs : List V} {fp : List Addr} : ex a → H a = some (.lst vs) → vs.length ≤ sizeLine → Reps K ad H ex (List.replicate ds.length s) ds vs fp → Rep K ad H ex (.own s) (.lst ds) (.ref a) (a :: fp)
  | flt {s : Sh} {d : D} {v : V} : flat d = true → At K ad (cut H ex) d v → Rep K ad H ex (.own s) d v []
  | tup {ss : List Sh} {ds : List D} {a : Addr} {vs : List V} {fp : List Addr} : SqT K (cut H ex) a vs → vs.length ≤ sizeLine → Reps K ad H ex ss ds vs fp → Rep K ad H ex (.tup ss) (.tup ds) (.ref a) fp
  | pin {ds : List D} {a : Addr} {vs : List V} : ex a → H a = some (.lst vs) → vs.length ≤ sizeLine → Ats K ad (cut H ex) ds vs → Rep K ad H ex (.pin a) (.lst ds) (.ref a) [a]
inductive Reps (K : PySem.W.Frag) (ad : Adr) (H : Hp) (ex : Own) : List Sh → List D → List V → List Addr → Prop
  | nil : Reps K ad H ex [] [] [] []
  | cons {s : Sh} {ss : List Sh} {d : D} {ds : List D} {v : V} {vs : List V} {f fs : List Addr} : Rep K ad H ex s d v f → Reps K ad H ex ss ds vs fs → Reps K ad H ex (s :: ss) (d :: ds) (v :: vs) (f ++ fs)
end
section
variable {K : PySem.W.Frag} {ad : Adr} {H H' : Hp} {ex ex' : Own}
-- kept: what is not owned, and the owned things at fp
mutual
theorem Rep.keep (s : Same (cut H ex) (cut H' ex')) : ∀ {sh : Sh} {d : D} {v : V} {fp : List Addr}, Rep K ad H ex sh d v fp → (∀ a ∈ fp, ex' a ∧ H' a = H a) → Rep K ad H' ex' sh d v fp
  | _, _, _, _, .fz h, _ => .fz (h.mono s)
  | _, _, _, _, .own _ h z hs, k => .own (k _ List.mem_cons_self).1 ((k _ List.mem_cons_self).2.trans h) z (Reps.keep s hs fun a z => k a (List.mem_cons_of_mem _ z))
  | _, _, _, _, .flt f h, _ => .flt f (h.mono s)
  | _, _, _, _, .tup h z hs, k => .tup (seqT s h) z (Reps.keep s hs k)
  | _, _, _, _, .pin _ h z hs, k => .pin (k _ List.mem_cons_self).1 ((k _ List.mem_cons_self).2.trans h) z (hs.mono s)
theorem Reps.keep (s : Same (cut H ex) (cut H' ex')) : ∀ {ss : List Sh} {ds : List D} {vs : List V} {fp : List Addr}, Reps K ad H ex ss ds vs fp → (∀ a ∈ fp, ex' a ∧ H' a = H a) → Reps K ad H' ex' ss ds vs fp
  | _, _, _, _, .nil, _ => .nil
  | _, _, _, _, .cons h hs, k => .cons (Rep.keep s h fun a z => k a (List.mem_append_left _ z)) (Reps.keep s hs fun a z => k a (List.mem_append_right _ z))
end
mutual
theorem Rep.in : ∀ {sh : Sh} {d : D} {v : V} {fp : List Addr}, Rep K ad H ex sh d v fp → ∀ a ∈ fp, ex a ∧ ∃ o, H a = some o
  | _, _, _, _, .fz _, _, z => by cases z
  | _, _, _, _, .own e h _ hs, a, z => by
    rcases List.mem_cons.mp z with z | z
    · subst z
      exact ⟨e, _, h⟩
    · exact Reps.in hs a z
  | _, _, _, _, .flt _ _, _, z => by cases z
  | _, _, _, _, .tup _ _ hs, a, z => Reps.in hs a z
  | _, _, _, _, .pin e h _ _, a, z => by
    have z := List.mem_singleton.mp z
    subst z
    exact ⟨e, _, h⟩
theorem Reps.in : ∀ {ss : List Sh} {ds : List D} {vs : List V} {fp : List Addr}, Reps K ad H ex ss ds vs fp → ∀ a ∈ fp, ex a ∧ ∃ o, H a = some o
  | _, _, _, _, .nil, _, z => by cases z
  | _, _, _, _, .cons h hs, a, z => (List.mem_append.mp z).elim (fun z => Rep.in h a z) fun z => Reps.in hs a z
end
theorem Rep.mono {sh : Sh} {d : D} {v : V} {fp : List Addr} (r : Rep K ad H ex sh d v fp) (l : Le H ex H' ex') : Rep K ad H' ex' sh d v fp :=
  r.keep l.cuts fun a z => by
    obtain ⟨h1, o, h2⟩ := r.in a z
    exact ⟨l.keep a h1, (l.same a o h2).trans h2.symm⟩
theorem Reps.mono {sh : List Sh} {d : List D} {v : List V} {fp : List Addr} (r : Reps K ad H ex sh d v fp) (l : Le H ex H' ex') : Reps K ad H' ex' sh d v fp :=
  r.keep l.cuts fun a z => by
    obtain ⟨h1, o, h2⟩ := r.in a z
    exact ⟨l.keep a h1, (l.same a o h2).trans h2.symm⟩
-- in the heap without what is still owned it is anybody's
mutual
theorem Rep.at {G : Hp} (s : Same (cut H ex) G) : ∀ {sh : Sh} {d : D} {v : V} {fp : List Addr}, Rep K ad H ex sh d v fp → (∀ a ∈ fp, G a = H a) → At K ad G d v
  | _, _, _, _, .fz h, _ => h.mono s
  | _, _, _, _, .own _ h z hs, k => .lst (SqL.of ((k _ List.mem_cons_self).trans h)) z (Reps.at s hs fun a z => k a (List.mem_cons_of_mem _ z))
  | _, _, _, _, .flt _ h, _ => h.mono s
  | _, _, _, _, .tup h z hs, k => .tup (seqT s h) z (Reps.at s hs k)
  | _, _, _, _, .pin _ h z hs, k => .lst (SqL.of ((k _ List.mem_cons_self).trans h)) z (hs.mono s)
theorem Reps.at {G : Hp} (s : Same (cut H ex) G) : ∀ {ss : List Sh} {ds : List D} {vs : List V} {fp : List Addr}, Reps K ad H ex ss ds vs fp → (∀ a ∈ fp, G a = H a) → Ats K ad G ds vs
  | _, _, _, _, .nil, _ => .nil
  | _, _, _, _, .cons h hs, k => .cons (Rep.at s h fun a z => k a (List.mem_append_left _ z)) (Reps.at s hs fun a z => k a (List.mem_append_right _ z))
end
/-- ex without fp -/
def less (ex : Own) (fp : List Addr) : Own := fun b => ex b ∧ b ∉ fp
theorem less_cut {fp : List Addr} : Same (cut H ex) (cut H (less ex fp)) := fun b o h => by
  obtain ⟨n, e⟩ := of_cut h
  exact cut_of (fun z => n z.1) e
theorem Rep.freeze {sh : Sh} {d : D} {v : V} {fp : List Addr} (r : Rep K ad H ex sh d v fp) : At K ad (cut H (less ex fp)) d v :=
  r.at less_cut fun a z => by
    obtain ⟨_, o, h⟩ := r.in a z
    rw [h]
    exact cut_of (fun q => q.2 z) h
/-- items that are anybody's -/
theorem Reps.fzs : ∀ {n : Nat} {ds : List D} {vs : List V} {fp : List Addr}, Reps K ad H ex (List.replicate n .fz) ds vs fp → fp = [] ∧ Ats K ad (cut H ex) ds vs
  | 0, _, _, _, h => by cases h; exact ⟨rfl, .nil⟩
  | n + 1, _, _, _, h => by
    rw [List.replicate_succ] at h
    cases h with
    | cons h hs =>
      cases h with
      | fz h =>
        obtain ⟨e, g⟩ := Reps.fzs hs
        subst e
        exact ⟨rfl, .cons h g⟩
theorem Ats.reps : ∀ {ds : List D} {vs : List V}, Ats K ad (cut H ex) ds vs → Reps K ad H ex (List.replicate ds.length .fz) ds vs []
  | _, _, .nil => .nil
  | _, _, .cons h hs => Reps.cons (f := []) (.fz h) (Ats.reps hs)
end

theorem rep_fz {K : PySem.W.Frag} {ad : Adr} {H : Hp} {ex : Own} {d : D} {v : V} {fp : List Addr} (r : Rep K ad H ex .fz d v fp) : At K ad (cut H ex) d v := by
  cases r with
  | fz h => exact h
/-! ### frames -/
abbrev Env := List (Option D)
abbrev Shs := List (Nat × Sh)
def sh (G : Shs) (i : Nat) : Sh := match G.lookup i with
  | some s => s
  | none => .fz
structure Fra (K : PySem.W.Frag) (ad : Adr) (G : Shs) (ex0 : Own) (ρ : Env) (σ : L2.St) (H : Hp) (ex : Own) : Prop where
  len : ρ.length = σ.length
  exok : ∀ b, ex b → ∃ o, H b = some o
  slots : ∃ fps : Nat → List Addr, (∀ i d, ρ[i]? = some (some d) → ∃ v, σ[i]? = some (some v) ∧ Rep K ad H ex (sh G i) d v (fps i)) ∧
    (∀ i, (fps i).Nodup) ∧ (∀ i j a, i ≠ j → a ∈ fps i → a ∉ fps j) ∧ ∀ i a, a ∈ fps i → ex a ∧ ¬ ex0 a
section
variable {K : PySem.W.Frag} {ad : Adr} {G : Shs} {ex0 ex ex' : Own} {ρ : Env} {σ : L2.St} {H H' : Hp}
theorem Fra.mono (f : Fra K ad G ex0 ρ σ H ex) (l : Le H ex H' ex') : Fra K ad G ex0 ρ σ H' ex' := by
  obtain ⟨fps, h1, h2, h3, h4⟩ := f.slots
  refine ⟨f.len, fun b h => ?_, fps, fun i d e => ?_, h2, h3, fun i a z => ?_⟩
  · rcases l.new b h with q | ⟨_, q⟩
    · obtain ⟨o, q⟩ := f.exok b q
      exact ⟨o, l.same b o q⟩
    · exact q
  · obtain ⟨v, e1, r⟩ := h1 i d e
    exact ⟨v, e1, r.mono l⟩
  · exact ⟨l.keep a (h4 i a z).1, (h4 i a z).2⟩
theorem Fra.fz (f : Fra K ad G ex0 ρ σ H ex) {i : Nat} {d : D} (e : ρ[i]? = some (some d)) (g : sh G i = .fz) : ∃ v, σ[i]? = some (some v) ∧ At K ad (cut H ex) d v := by
  obtain ⟨fps, h1, _⟩ := f.slots
  obtain ⟨v, e1, r⟩ := h1 i d e
  rw [g] at r
  exact ⟨v, e1, rep_fz r⟩
/-- .. with a new thing of one's own -/
theorem Fra.setN {Ha : Hp} {exa : Own} (f : Fra K ad G ex0 ρ σ Ha exa) (l : Le Ha exa H ex) {i : Nat} {d : D} {v : V} {fp : List Addr} (r : Rep K ad H ex (sh G i) d v fp) (nd : fp.Nodup) (nw : ∀ a ∈ fp, ¬ exa a) (n0 : ∀ a ∈ fp, ¬ ex0 a) :
    Fra K ad G ex0 (ρ.set i (some d)) (σ.set i (some v)) H ex := by
  obtain ⟨fps, h1, h2, h3, h4⟩ := f.slots
  have f' := f.mono l
  refine ⟨by rw [List.length_set, List.length_set, f.len], f'.exok, fun j => if j = i then fp else fps j, fun j d' e => ?_, fun j => ?_, fun j k a hjk hj hk => ?_, fun j a hj => ?_⟩
  · by_cases hj : j = i
    · subst hj
      have hl : j < ρ.length := by
        have := (List.getElem?_eq_some_iff.mp e).1
        simpa using this
      rw [List.getElem?_set_self hl] at e
      cases e
      refine ⟨v, List.getElem?_set_self (by rw [← f.len]; exact hl), ?_⟩
      dsimp only
      rw [if_pos rfl]
      exact r
    · rw [List.getElem?_set_ne (Ne.symm hj)] at e
      obtain ⟨v', e1, r'⟩ := h1 j d' e
      refine ⟨v', by rw [List.getElem?_set_ne (Ne.symm hj)]; exact e1, ?_⟩
      dsimp only
      rw [if_neg hj]
      exact r'.mono l
  · dsimp only
    split
    · exact nd
    · exact h2 j
  · dsimp only at hj hk
    by_cases ji : j = i
    · rw [if_pos ji] at hj
      have ki : k ≠ i := fun z => hjk (ji.trans z.symm)
      rw [if_neg ki] at hk
      exact nw a hj (h4 k a hk).1
    · rw [if_neg ji] at hj
      by_cases ki : k = i
      · rw [if_pos ki] at hk
        exact nw a hk (h4 j a hj).1
      · rw [if_neg ki] at hk
        exact h3 j k a hjk hj hk
  · dsimp only at hj
    split at hj
    · exact ⟨(r.in a hj).1, n0 a hj⟩
    · exact ⟨l.keep a (h4 j a hj).1, (h4 j a hj).2⟩
/-- .. with what anybody may hold -/
theorem Fra.setF (f : Fra K ad G ex0 ρ σ H ex) {i : Nat} {d : D} {v : V} (g : sh G i = .fz) (h : At K ad (cut H ex) d v) : Fra K ad G ex0 (ρ.set i (some d)) (σ.set i (some v)) H ex :=
  f.setN (fp := []) (Le.refl _ _) (by rw [g]; exact .fz h) List.nodup_nil (fun _ z => by cases z) (fun _ z => by cases z)
/-- a slot is forgotten -/
theorem Fra.drop (f : Fra K ad G ex0 ρ σ H ex) {i : Nat} (o : Option V) : Fra K ad G ex0 (ρ.set i none) (σ.set i o) H ex := by
  obtain ⟨fps, h1, h2, h3, h4⟩ := f.slots
  refine ⟨by rw [List.length_set, List.length_set, f.len], f.exok, fps, fun j d e => ?_, h2, h3, h4⟩
  by_cases hj : j = i
  · subst hj
    by_cases hl : j < ρ.length
    · rw [List.getElem?_set_self hl] at e
      cases e
    · rw [List.getElem?_eq_none (by simpa using hl)] at e
      cases e
  · rw [List.getElem?_set_ne (Ne.symm hj)] at e
    rw [List.getElem?_set_ne (Ne.symm hj)]
    exact h1 j d e
def wipeR (ρ : Env) : List Nat → Env
  | [] => ρ
  | v :: vs => (wipeR ρ vs).set v none
theorem Fra.wipe (f : Fra K ad G ex0 ρ σ H ex) : ∀ vs : List Nat, Fra K ad G ex0 (wipeR ρ vs) (L2.wipe σ vs) H ex
  | [] => f
  | v :: vs => (Fra.wipe f vs).drop none
end

/-! ### expressions -/
/-- what follows an expression: its value stands for d -/
def Post (K : PySem.W.Frag) (ad : Adr) (H : Hp) (ex : Own) (s : Sh) (Q : VK) (d : D) : Prop :=
  ∀ v H' ex' fp, Le H ex H' ex' → Rep K ad H' ex' s d v fp → fp.Nodup → (∀ a ∈ fp, ¬ ex a) → Q v H'
/-- the wish for refusals -/
abbrev Wi := Ex → L2.St → Hp → Prop
def Exc (w : Wi) (σ : L2.St) (H : Hp) (ex : Own) (e : Ex) : Prop := ∀ H' ex', Le H ex H' ex' → w e σ H'
theorem Exc.mono {w : Wi} {σ : L2.St} {H H1 : Hp} {ex ex1 : Own} {e : Ex} (h : Exc w σ H ex e) (l : Le H ex H1 ex1) : Exc w σ H1 ex1 e := fun H' ex' l' => h H' ex' (l.trans l')
/-- e's value, from slots that stand for ρ, stands for f ρ -/
def DE (X : Cx) (ad : Adr) (w : Wi) (G : Shs) (e : Expr) (s : Sh) (f : Env → R D) : Prop :=
  ∃ t, PE X e t ∧ ∀ ex0 ρ σ H ex Q, Fra X.K ad G ex0 ρ σ H ex → Sat (f ρ) (Post X.K ad H ex s Q) (Exc w σ H ex) → t σ H Q
/-- an argument list (of things that are anybody's) -/
def DA (X : Cx) (ad : Adr) (w : Wi) (G : Shs) (es : List Expr) (f : Env → R (List D)) : Prop :=
  ∃ t, PA X es t ∧ ∀ ex0 ρ σ H ex Q, Fra X.K ad G ex0 ρ σ H ex → Sat (f ρ) (fun ds => ∀ vs H' ex', Le H ex H' ex' → Ats X.K ad (cut H' ex') ds vs → Q vs H') (Exc w σ H ex) → t σ H Q
/-- a test -/
def DT (X : Cx) (ad : Adr) (w : Wi) (G : Shs) (e : Expr) (f : Env → R Bool) : Prop :=
  ∃ t, PT X e t ∧ ∀ ex0 ρ σ H ex Q, Fra X.K ad G ex0 ρ σ H ex → Sat (f ρ) (fun b => ∀ H' ex', Le H ex H' ex' → Q b H') (Exc w σ H ex) → t σ H Q
/-- .. whatever its whole is -/
def DW (X : Cx) (ad : Adr) (w : Wi) (G : Shs) (e : Expr) (f : Env → R Bool) : Prop :=
  ∃ t, PW X e t ∧ ∀ ex0 ρ σ H ex Q, Fra X.K ad G ex0 ρ σ H ex → Sat (f ρ) (fun b => ∀ H' ex', Le H ex H' ex' → Q b H') (Exc w σ H ex) → t σ H Q

section
variable {X : Cx} {ad : Adr} {w : Wi} {G : Shs} {pos : Pos}
theorem post_fz {K : PySem.W.Frag} {H : Hp} {ex : Own} {Q : VK} {d : D} (h : Post K ad H ex .fz Q d) {v : V} {H' : Hp} {ex' : Own} (l : Le H ex H' ex') (a : At K ad (cut H' ex') d v) : Q v H' :=
  h v H' ex' [] l (.fz a) List.nodup_nil fun _ z => by cases z
/-- the thing is given away -/
theorem de_fz {e : Expr} {s : Sh} {f : Env → R D} (h : DE X ad w G e s f) : DE X ad w G e .fz f := by
  obtain ⟨t, p, k⟩ := h
  refine ⟨t, p, fun ex0 ρ σ H ex Q fr q => k ex0 ρ σ H ex Q fr (q.imp (fun d q v H' ex' fp l r _ nw => ?_) fun _ z => z)⟩
  refine post_fz q (ex' := less ex' fp) ⟨l.same, fun b z => ⟨l.keep b z, fun m => nw b m z⟩, fun b z => l.new b z.1⟩ r.freeze

def dV (i : Nat) : Env → R D := fun ρ => match ρ[i]? with
  | some (some d) => .ok d
  | _ => .bad
def dC (d : D) : Env → R D := fun _ => .ok d
theorem de_var (i : Nat) {x : Str} (hN : X.N[i]? = some x := by rfl) (hg : sh G i = .fz := by rfl) (hv : Vis X.env.scope x := by first | exact Or.inl rfl | exact Or.inr (Or.inl rfl) | exact Or.inr (Or.inr rfl)) (hd : (x == ("__debug__" : Str)) = false := by decide)
    (hcd : (x == ("__classdict__" : Str)) = false := by decide) : DE X ad w G (.Name x pos) .fz (dV i) := by
  refine ⟨_, pe_var hN hv hd hcd, fun ex0 ρ σ H ex Q fr q => ?_⟩
  unfold dV at q
  split at q
  · rename_i d e
    obtain ⟨v, e1, a⟩ := fr.fz e hg
    exact ⟨v, e1, post_fz q (Le.refl _ _) a⟩
  · exact q.elim
theorem de_int {i : Int} {j} : DE X ad w G (.Constant (.int i) j pos) .fz (dC (.int i)) := ⟨_, pe_int, fun _ _ _ _ _ _ _ q => post_fz q (Le.refl _ _) (.int i)⟩
theorem de_bl {b : Bool} {j} : DE X ad w G (.Constant (.bool b) j pos) .fz (dC (.bl b)) := ⟨_, pe_bl, fun _ _ _ _ _ _ _ q => post_fz q (Le.refl _ _) (.bl b)⟩
theorem de_non {j} : DE X ad w G (.Constant .none j pos) .fz (dC .non) := ⟨_, pe_non, fun _ _ _ _ _ _ _ q => post_fz q (Le.refl _ _) .non⟩
theorem de_str {x : Str} {j} : DE X ad w G (.Constant (.str x) j pos) .fz (dC (.str x)) := ⟨_, pe_str, fun _ _ _ _ _ _ _ q => post_fz q (Le.refl _ _) (.str x)⟩

/-! ### operators -/
def d2 (o : D → D → R D) (f g : Env → R D) : Env → R D := fun ρ => (f ρ).bind fun x => (g ρ).bind fun y => o x y
def d1 (o : D → R D) (f : Env → R D) : Env → R D := fun ρ => (f ρ).bind o
/-- what is owned stands -/
def Exok (H : Hp) (ex : Own) : Prop := ∀ b, ex b → ∃ o, H b = some o
/-- an operator by data -/
def DOp (X : Cx) (ad : Adr) (fn : Value → Value → Sem Value) (s : Sh) (o : D → D → R D) : Prop :=
  ∃ r, OpR X fn r ∧ ∀ x y d e H ex Q, Exok H ex → At X.K ad (cut H ex) d x → At X.K ad (cut H ex) e y → Sat (o d e) (Post X.K ad H ex s Q) (fun _ => False) → r x y H Q
def DUn (X : Cx) (ad : Adr) (fn : Value → Sem Value) (o : D → R D) : Prop :=
  ∃ r, UnR X fn r ∧ ∀ x d H ex Q, Exok H ex → At X.K ad (cut H ex) d x → Sat (o d) (Post X.K ad H ex .fz Q) (fun _ => False) → r x H Q
theorem two_run {a b : Expr} {f g : Env → R D} {ta tb : TE} {r : R2} {s : Sh} {o : D → D → R D}
    (ka : ∀ ex0 ρ σ H ex Q, Fra X.K ad G ex0 ρ σ H ex → Sat (f ρ) (Post X.K ad H ex .fz Q) (Exc w σ H ex) → ta σ H Q)
    (kb : ∀ ex0 ρ σ H ex Q, Fra X.K ad G ex0 ρ σ H ex → Sat (g ρ) (Post X.K ad H ex .fz Q) (Exc w σ H ex) → tb σ H Q)
    (kr : ∀ x y d e H ex Q, Exok H ex → At X.K ad (cut H ex) d x → At X.K ad (cut H ex) e y → Sat (o d e) (Post X.K ad H ex s Q) (Exc w [] H ex) → r x y H Q)
    (no : ∀ d e c, o d e ≠ .exc c) : ∀ ex0 ρ σ H ex Q, Fra X.K ad G ex0 ρ σ H ex → Sat (d2 o f g ρ) (Post X.K ad H ex s Q) (Exc w σ H ex) → tOp r ta tb σ H Q := by
  intro ex0 ρ σ H ex Q fr q
  refine ka ex0 ρ σ H ex _ fr ?_
  unfold d2 at q
  rw [sat_bind] at q
  refine q.imp (fun d q v H1 ex1 fp l r1 _ _ => ?_) fun _ z => z
  have a1 := rep_fz r1
  refine kb ex0 ρ σ H1 ex1 _ (fr.mono l) ?_
  rw [sat_bind] at q
  refine q.imp (fun e q u H2 ex2 fp l2 r2 _ _ => ?_) fun _ z => z.mono l
  refine kr v u d e H2 ex2 Q ((fr.mono l).mono l2).exok (a1.mono l2.cuts) (rep_fz r2) ?_
  cases hh : o d e with
  | ok y =>
    rw [hh] at q
    exact fun v H' ex' fp l3 r3 nd nw => q v H' ex' fp ((l.trans l2).trans l3) r3 nd fun a z zz => nw a z ((l.trans l2).keep a zz)
  | exc c => exact absurd hh (no d e c)
  | bad => rw [hh] at q; exact q
theorem de_op {op : Operator} {a b : Expr} {f g : Env → R D} {s : Sh} {o : D → D → R D} (ho : DOp X ad (binaryOp op) s o) (ha : DE X ad w G a .fz f) (hb : DE X ad w G b .fz g) (no : ∀ d e c, o d e ≠ .exc c := by intro d e c; cases d <;> cases e <;> intro z <;> first | cases z | (revert z; dsimp only; split <;> intro z <;> cases z) | (revert z; dsimp only; split <;> (try split) <;> intro z <;> cases z)) :
    DE X ad w G (.BinOp a op b pos) s (d2 o f g) := by
  obtain ⟨r, hr, kr⟩ := ho
  obtain ⟨ta, pa, ka⟩ := ha
  obtain ⟨tb, pb, kb⟩ := hb
  refine ⟨_, pe_op hr pa pb, two_run (a := a) (b := b) ka kb (fun x y d e H ex Q h0 h1 h2 q => kr x y d e H ex Q h0 h1 h2 ?_) no⟩
  cases hh : o d e with
  | ok y => rw [hh] at q; exact q
  | exc c => exact absurd hh (no d e c)
  | bad => rw [hh] at q; exact q
theorem de_cmp {op : CmpOp} {a b : Expr} {f g : Env → R D} {s : Sh} {o : D → D → R D} (ho : DOp X ad (compareOp op) s o) (ha : DE X ad w G a .fz f) (hb : DE X ad w G b .fz g) (hm : behindInMarks op b = false) (no : ∀ d e c, o d e ≠ .exc c) :
    DE X ad w G (.Compare a [op] [b] pos) s (d2 o f g) := by
  obtain ⟨r, hr, kr⟩ := ho
  obtain ⟨ta, pa, ka⟩ := ha
  obtain ⟨tb, pb, kb⟩ := hb
  refine ⟨_, pe_cmpR hr pa pb hm, two_run (a := a) (b := b) ka kb (fun x y d e H ex Q h0 h1 h2 q => kr x y d e H ex Q h0 h1 h2 ?_) no⟩
  cases hh : o d e with
  | ok y => rw [hh] at q; exact q
  | exc c => exact absurd hh (no d e c)
  | bad => rw [hh] at q; exact q
/-- a bool as a test -/
def asB : D → R Bool
  | .bl b => .ok b
  | _ => .bad
def dB (f : Env → R D) : Env → R Bool := fun ρ => (f ρ).bind asB
theorem post_b {K : PySem.W.Frag} {H : Hp} {ex : Own} {Q : Bool → Hp → Prop} {d : D} {q : Ex → Prop} (h : Sat (asB d) (fun b => ∀ H' ex', Le H ex H' ex' → Q b H') q) : Post K ad H ex .fz (fun x H' => ∃ k, x = .bl k ∧ Q k H') d := by
  intro v H' ex' fp l r _ _
  have a := rep_fz r
  cases a with
  | bl b => exact ⟨b, rfl, h H' ex' l⟩
  | _ => exact h.elim
theorem dt_cmp {op : CmpOp} {a b : Expr} {f g : Env → R D} {o : D → D → R D} (ho : DOp X ad (compareOp op) .fz o) (ha : DE X ad w G a .fz f) (hb : DE X ad w G b .fz g) (hm : behindInMarks op b = false) (no : ∀ d e c, o d e ≠ .exc c) :
    DT X ad w G (.Compare a [op] [b] pos) (dB (d2 o f g)) := by
  obtain ⟨r, hr, kr⟩ := ho
  obtain ⟨ta, pa, ka⟩ := ha
  obtain ⟨tb, pb, kb⟩ := hb
  refine ⟨_, pt_cmpR hr pa pb hm, fun ex0 ρ σ H ex Q fr q => ?_⟩
  refine two_run (a := a) (b := b) (s := .fz) (o := o) ka kb (fun x y d e H ex Q h0 h1 h2 q => kr x y d e H ex Q h0 h1 h2 ?_) no ex0 ρ σ H ex _ fr ?_
  · cases hh : o d e with
    | ok y => rw [hh] at q; exact q
    | exc c => exact absurd hh (no d e c)
    | bad => rw [hh] at q; exact q
  · unfold dB at q
    rw [sat_bind] at q
    exact q.imp (fun d h => post_b h) fun _ z => z
/-- an expression as a test -/
theorem dt_val {e : Expr} {f : Env → R D} (h : DE X ad w G e .fz f) (he : ∀ whole, isTrue e X.env whole = (do let v ← whole; standAt e.pos; holding [v] (truthy v)) := by intro _; rfl) : DT X ad w G e (dB f) := by
  obtain ⟨t, p, k⟩ := h
  refine ⟨_, pt_val p he, fun ex0 ρ σ H ex Q fr q => ?_⟩
  refine k ex0 ρ σ H ex _ fr ?_
  unfold dB at q
  rw [sat_bind] at q
  exact q.imp (fun d h => post_b h) fun _ z => z
theorem dw_dt {e : Expr} {f : Env → R Bool} (h : DW X ad w G e f) : DT X ad w G e f := by
  obtain ⟨t, p, k⟩ := h
  exact ⟨t, p.pt, k⟩
def bAnd (f g : Env → R Bool) : Env → R Bool := fun ρ => (f ρ).bind fun b => if b = true then g ρ else .ok false
def bOr (f g : Env → R Bool) : Env → R Bool := fun ρ => (f ρ).bind fun b => if b = true then .ok true else g ρ
def bNot (f : Env → R Bool) : Env → R Bool := fun ρ => (f ρ).bind fun b => .ok (!b)
theorem dw_and1 {a : Expr} {f : Env → R Bool} (h : DT X ad w G a f) : DW X ad w G (.BoolOp .And [a] pos) f := by
  obtain ⟨t, p, k⟩ := h
  exact ⟨t, pw_and1 p, k⟩
theorem dw_or1 {a : Expr} {f : Env → R Bool} (h : DT X ad w G a f) : DW X ad w G (.BoolOp .Or [a] pos) f := by
  obtain ⟨t, p, k⟩ := h
  exact ⟨t, pw_or1 p, k⟩
theorem dw_and {a b : Expr} {rest : List Expr} {f g : Env → R Bool} (h : DT X ad w G a f) (h' : DW X ad w G (.BoolOp .And (b :: rest) pos) g) : DW X ad w G (.BoolOp .And (a :: b :: rest) pos) (bAnd f g) := by
  obtain ⟨t, p, k⟩ := h
  obtain ⟨t', p', k'⟩ := h'
  refine ⟨_, pw_and p p', fun ex0 ρ σ H ex Q fr q => ?_⟩
  refine k ex0 ρ σ H ex _ fr ?_
  unfold bAnd at q
  rw [sat_bind] at q
  refine q.imp (fun b q H' ex' l => ?_) fun _ z => z
  cases b with
  | true =>
    rw [if_pos rfl] at q ⊢
    exact k' ex0 ρ σ H' ex' _ (fr.mono l) (q.imp (fun c q H2 ex2 l2 => q H2 ex2 (l.trans l2)) fun _ z => z.mono l)
  | false =>
    rw [if_neg Bool.false_ne_true] at q ⊢
    exact q H' ex' l
theorem dw_or {a b : Expr} {rest : List Expr} {f g : Env → R Bool} (h : DT X ad w G a f) (h' : DW X ad w G (.BoolOp .Or (b :: rest) pos) g) : DW X ad w G (.BoolOp .Or (a :: b :: rest) pos) (bOr f g) := by
  obtain ⟨t, p, k⟩ := h
  obtain ⟨t', p', k'⟩ := h'
  refine ⟨_, pw_or p p', fun ex0 ρ σ H ex Q fr q => ?_⟩
  refine k ex0 ρ σ H ex _ fr ?_
  unfold bOr at q
  rw [sat_bind] at q
  refine q.imp (fun b q H' ex' l => ?_) fun _ z => z
  cases b with
  | false =>
    rw [if_neg Bool.false_ne_true] at q ⊢
    exact k' ex0 ρ σ H' ex' _ (fr.mono l) (q.imp (fun c q H2 ex2 l2 => q H2 ex2 (l.trans l2)) fun _ z => z.mono l)
  | true =>
    rw [if_pos rfl] at q ⊢
    exact q H' ex' l
theorem dt_not {a : Expr} {f : Env → R Bool} (h : DT X ad w G a f) : DT X ad w G (.UnaryOp .Not a pos) (bNot f) := by
  obtain ⟨t, p, k⟩ := h
  refine ⟨_, pt_not p, fun ex0 ρ σ H ex Q fr q => ?_⟩
  refine k ex0 ρ σ H ex _ fr ?_
  unfold bNot at q
  rw [sat_bind] at q
  exact q.imp (fun b q H' ex' l => q H' ex' l) fun _ z => z
/-- .. as values -/
def vAnd (f g : Env → R D) : Env → R D := fun ρ => (f ρ).bind fun x => (asB x).bind fun b => if b = true then g ρ else .ok (.bl false)
def vOr (f g : Env → R D) : Env → R D := fun ρ => (f ρ).bind fun x => (asB x).bind fun b => if b = true then .ok (.bl true) else g ρ
def vNot (f : Env → R D) : Env → R D := fun ρ => (f ρ).bind fun x => (asB x).bind fun b => .ok (.bl (!b))
theorem post_bv {K : PySem.W.Frag} {H : Hp} {ex : Own} {d : D} {q : Ex → Prop} {P : Bool → Prop} {Q : VK} (h : Sat (asB d) P q) (k : ∀ b H' ex', P b → Le H ex H' ex' → Q (.bl b) H') : Post K ad H ex .fz Q d := by
  intro v H' ex' fp l r _ _
  have a := rep_fz r
  cases a with
  | bl b => exact k b H' ex' h l
  | _ => exact h.elim
theorem de_one {op} {a : Expr} {f : Env → R D} {s : Sh} (h : DE X ad w G a s f) : DE X ad w G (.BoolOp op [a] pos) s f := by
  obtain ⟨t, p, k⟩ := h
  exact ⟨t, pe_one p, k⟩
theorem de_and {a b : Expr} {rest : List Expr} {f g : Env → R D} (h : DE X ad w G a .fz f) (h' : DE X ad w G (.BoolOp .And (b :: rest) pos) .fz g) : DE X ad w G (.BoolOp .And (a :: b :: rest) pos) .fz (vAnd f g) := by
  obtain ⟨t, p, k⟩ := h
  obtain ⟨t', p', k'⟩ := h'
  refine ⟨_, pe_and p p', fun ex0 ρ σ H ex Q fr q => ?_⟩
  refine k ex0 ρ σ H ex _ fr ?_
  unfold vAnd at q
  rw [sat_bind] at q
  refine q.imp (fun d q => ?_) fun _ z => z
  rw [sat_bind] at q
  refine post_bv q fun b H' ex' q l => ⟨b, rfl, ?_⟩
  cases b with
  | true =>
    rw [if_pos rfl] at q ⊢
    refine k' ex0 ρ σ H' ex' _ (fr.mono l) (q.imp (fun c q v H2 ex2 fp l2 r nd nw => ?_) fun _ z => z.mono l)
    exact q v H2 ex2 fp (l.trans l2) r nd fun a z zz => nw a z (l.keep a zz)
  | false =>
    rw [if_neg Bool.false_ne_true] at q ⊢
    exact post_fz q l (.bl false)
theorem de_or {a b : Expr} {rest : List Expr} {f g : Env → R D} (h : DE X ad w G a .fz f) (h' : DE X ad w G (.BoolOp .Or (b :: rest) pos) .fz g) : DE X ad w G (.BoolOp .Or (a :: b :: rest) pos) .fz (vOr f g) := by
  obtain ⟨t, p, k⟩ := h
  obtain ⟨t', p', k'⟩ := h'
  refine ⟨_, pe_or p p', fun ex0 ρ σ H ex Q fr q => ?_⟩
  refine k ex0 ρ σ H ex _ fr ?_
  unfold vOr at q
  rw [sat_bind] at q
  refine q.imp (fun d q => ?_) fun _ z => z
  rw [sat_bind] at q
  refine post_bv q fun b H' ex' q l => ⟨b, rfl, ?_⟩
  cases b with
  | false =>
    rw [if_neg Bool.false_ne_true] at q ⊢
    refine k' ex0 ρ σ H' ex' _ (fr.mono l) (q.imp (fun c q v H2 ex2 fp l2 r nd nw => ?_) fun _ z => z.mono l)
    exact q v H2 ex2 fp (l.trans l2) r nd fun a z zz => nw a z (l.keep a zz)
  | true =>
    rw [if_pos rfl] at q ⊢
    exact post_fz q l (.bl true)
theorem de_not {a : Expr} {f : Env → R D} (h : DE X ad w G a .fz f) : DE X ad w G (.UnaryOp .Not a pos) .fz (vNot f) := by
  obtain ⟨t, p, k⟩ := h
  refine ⟨_, pe_not p, fun ex0 ρ σ H ex Q fr q => ?_⟩
  refine k ex0 ρ σ H ex _ fr ?_
  unfold vNot at q
  rw [sat_bind] at q
  refine q.imp (fun d q => ?_) fun _ z => z
  rw [sat_bind] at q
  exact post_bv q fun b H' ex' q l => ⟨b, rfl, post_fz q l (.bl _)⟩
theorem de_un {op : UnaryOp} {a : Expr} {f : Env → R D} {o : D → R D} (ho : DUn X ad (unaryOp op) o) (ha : DE X ad w G a .fz f) (no : ∀ d c, o d ≠ .exc c) : DE X ad w G (.UnaryOp op a pos) .fz (d1 o f) := by
  obtain ⟨r, hr, kr⟩ := ho
  obtain ⟨t, p, k⟩ := ha
  refine ⟨_, pe_un hr p, fun ex0 ρ σ H ex Q fr q => ?_⟩
  refine k ex0 ρ σ H ex _ fr ?_
  unfold d1 at q
  rw [sat_bind] at q
  refine q.imp (fun d q v H1 ex1 fp l r1 _ _ => ?_) fun _ z => z
  refine kr v d H1 ex1 Q (fr.mono l).exok (rep_fz r1) ?_
  cases hh : o d with
  | ok y =>
    rw [hh] at q
    exact fun v H' ex' fp l3 r3 nd nw => q v H' ex' fp (l.trans l3) r3 nd fun a z zz => nw a z (l.keep a zz)
  | exc c => exact absurd hh (no d c)
  | bad => rw [hh] at q; exact q

/-! ### arguments -/
def dNil : Env → R (List D) := fun _ => .ok []
def dCons (f : Env → R D) (g : Env → R (List D)) : Env → R (List D) := fun ρ => (f ρ).bind fun d => (g ρ).bind fun ds => .ok (d :: ds)
theorem da_nil : DA X ad w G [] dNil := ⟨_, pa_nil, fun _ _ _ _ _ _ _ q => q [] _ _ (Le.refl _ _) .nil⟩
theorem da_cons {e : Expr} {es : List Expr} {f : Env → R D} {g : Env → R (List D)} (h : DE X ad w G e .fz f) (h' : DA X ad w G es g) (hs : starEach (e :: es) X.env = (false, eval e X.env) :: starEach es X.env := by rfl) : DA X ad w G (e :: es) (dCons f g) := by
  obtain ⟨t, p, k⟩ := h
  obtain ⟨t', p', k'⟩ := h'
  refine ⟨_, pa_cons p p' hs, fun ex0 ρ σ H ex Q fr q => ?_⟩
  refine k ex0 ρ σ H ex _ fr ?_
  unfold dCons at q
  rw [sat_bind] at q
  refine q.imp (fun d q v H1 ex1 fp l r1 _ _ => ?_) fun _ z => z
  refine k' ex0 ρ σ H1 ex1 _ (fr.mono l) ?_
  rw [sat_bind] at q
  exact q.imp (fun ds q vs H2 ex2 l2 a2 => q (v :: vs) H2 ex2 (l.trans l2) (.cons ((rep_fz r1).mono l2.cuts) a2)) fun _ z => z.mono l
end
end DL

set_option Elab.async false
set_option linter.all false
set_option maxRecDepth 100000
set_option maxHeartbeats 4000000
set_option autoImplicit false
/-! DL2: statements, loops, comprehensions, defs over the data layer. -/
namespace DL
open PySem PySem.Spec PyProof.Rows L2

/-- what a statement comes to -/
inductive Out where
  | nx (ρ : Env) | rt (d : D) | xc (e : Ex) (ρ : Env) | bad
def Out.seq (o : Out) (k : Env → Out) : Out := match o with
  | .nx ρ => k ρ
  | .rt d => .rt d
  | .xc e ρ => .xc e ρ
  | .bad => .bad
@[simp] theorem seq_nx (ρ : Env) (k : Env → Out) : (Out.nx ρ).seq k = k ρ := rfl
@[simp] theorem seq_rt (d : D) (k : Env → Out) : (Out.rt d).seq k = .rt d := rfl
@[simp] theorem seq_xc (e : Ex) (ρ : Env) (k : Env → Out) : (Out.xc e ρ).seq k = .xc e ρ := rfl
@[simp] theorem seq_bad (k : Env → Out) : (Out.bad).seq k = .bad := rfl
/-- an expression, then -/
def R.then {α : Type} (x : R α) (ρ : Env) (k : α → Out) : Out := match x with
  | .ok a => k a
  | .exc e => .xc e ρ
  | .bad => .bad
@[simp] theorem then_ok {α : Type} (a : α) (ρ : Env) (k : α → Out) : (R.ok a).then ρ k = k a := rfl
@[simp] theorem then_exc {α : Type} (e : Ex) (ρ : Env) (k : α → Out) : (R.exc e : R α).then ρ k = .xc e ρ := rfl
@[simp] theorem then_bad {α : Type} (ρ : Env) (k : α → Out) : (R.bad : R α).then ρ k = .bad := rfl

def Mo (H : Hp) (ex : Own) (H' : Hp) (ex' : Own) : Prop := Same (cut H ex) (cut H' ex')
/-- what stands for ρ at the slots that are anybody's -/
structure Frz (K : PySem.W.Frag) (ad : Adr) (G : Shs) (ρ : Env) (σ : L2.St) (H : Hp) (ex : Own) : Prop where
  len : ρ.length = σ.length
  exok : ∀ b, ex b → ∃ o, H b = some o
  slots : ∀ i d, sh G i = .fz → ρ[i]? = some (some d) → ∃ v, σ[i]? = some (some v) ∧ At K ad (cut H ex) d v
section
variable {K : PySem.W.Frag} {ad : Adr} {G : Shs} {ex0 ex ex' : Own} {ρ : Env} {σ : L2.St} {H H' H0 : Hp}
theorem Fra.frz (f : Fra K ad G ex0 ρ σ H ex) : Frz K ad G ρ σ H ex := ⟨f.len, f.exok, fun i d g e => f.fz e g⟩
theorem Frz.mono (f : Frz K ad G ρ σ H ex) (l : Le H ex H' ex') : Frz K ad G ρ σ H' ex' := by
  refine ⟨f.len, fun b h => ?_, fun i d g e => ?_⟩
  · rcases l.new b h with q | ⟨_, q⟩
    · obtain ⟨o, q⟩ := f.exok b q
      exact ⟨o, l.same b o q⟩
    · exact q
  · obtain ⟨v, e1, a⟩ := f.slots i d g e
    exact ⟨v, e1, a.mono l.cuts⟩
theorem Frz.up {G' : Shs} (f : Frz K ad G' ρ σ H ex) (h : ∀ i, sh G i = .fz → sh G' i = .fz) : Frz K ad G ρ σ H ex := ⟨f.len, f.exok, fun i d g e => f.slots i d (h i g) e⟩
theorem Mo.refl : Mo H ex H ex := Same.refl _
theorem Mo.trans {H1 H2 : Hp} {ex1 ex2 : Own} (a : Mo H ex H1 ex1) (b : Mo H1 ex1 H2 ex2) : Mo H ex H2 ex2 := Same.trans a b
theorem Le.mo (l : Le H ex H' ex') : Mo H ex H' ex' := l.cuts
end
/-- what is wanted behind a statement -/
def Ok (K : PySem.W.Frag) (ad : Adr) (w : Wi) (rs : Sh) (G G' : Shs) (H0 : Hp) (ex0 : Own) (H : Hp) (ex : Own) (De : Ends) : Out → Prop
  | .nx ρ' => ∀ σ' H' ex', Le H0 ex0 H' ex' → Mo H ex H' ex' → Fra K ad G' ex0 ρ' σ' H' ex' → De.nx σ' H'
  | .rt d => ∀ v H' ex' fp, Le H0 ex0 H' ex' → Mo H ex H' ex' → Rep K ad H' ex' rs d v fp → fp.Nodup → (∀ a ∈ fp, ¬ ex0 a) → De.rt v H'
  | .xc c ρ' => ∀ σ' H' ex', Le H0 ex0 H' ex' → Mo H ex H' ex' → Frz K ad G ρ' σ' H' ex' → w c σ' H'
  | .bad => False
def SD (X : Cx) (ad : Adr) (w : Wi) (rs : Sh) (G : Shs) (st : Stmt) (g : Env → Out) : Prop :=
  ∃ t, PS X st t ∧ ∀ H0 ex0 ρ σ H ex De, Le H0 ex0 H ex → Fra X.K ad G ex0 ρ σ H ex → Ok X.K ad w rs G G H0 ex0 H ex De (g ρ) → t De σ H
def SDs (X : Cx) (ad : Adr) (w : Wi) (rs : Sh) (G G' : Shs) (sts : List Stmt) (g : Env → Out) : Prop :=
  ∃ t, PSs X sts t ∧ ∀ H0 ex0 ρ σ H ex De, Le H0 ex0 H ex → Fra X.K ad G ex0 ρ σ H ex → Ok X.K ad w rs G G' H0 ex0 H ex De (g ρ) → t De σ H

section
variable {K : PySem.W.Frag} {ad : Adr} {w : Wi} {rs : Sh} {G G' : Shs} {H0 H H1 : Hp} {ex0 ex ex1 : Own} {De De' : Ends} {o : Out}
/-- the same from a later state -/
theorem Ok.from (h : Ok K ad w rs G G' H0 ex0 H ex De o) (m : Mo H ex H1 ex1) : Ok K ad w rs G G' H0 ex0 H1 ex1 De o := by
  cases o with
  | nx ρ => exact fun σ' H' ex' l m' f => h σ' H' ex' l (m.trans m') f
  | rt d => exact fun v H' ex' fp l m' r => h v H' ex' fp l (m.trans m') r
  | xc c ρ => exact fun σ' H' ex' l m' f => h σ' H' ex' l (m.trans m') f
  | bad => exact h
end

section
variable {X : Cx} {ad : Adr} {w : Wi} {rs : Sh} {G G' : Shs} {pos : Pos}
def oNx : Env → Out := fun ρ => .nx ρ
def oSeq (g h : Env → Out) : Env → Out := fun ρ => (g ρ).seq h
theorem sds_nil : SDs X ad w rs G G [] oNx := ⟨_, pss_nil, fun H0 ex0 ρ σ H ex De l f h => h σ H ex l Mo.refl f⟩
theorem sds_cons {st : Stmt} {rest : List Stmt} {g h : Env → Out} (a : SD X ad w rs G st g) (b : SDs X ad w rs G G' rest h) : SDs X ad w rs G G' (st :: rest) (oSeq g h) := by
  obtain ⟨t, p, k⟩ := a
  obtain ⟨u, p', k'⟩ := b
  refine ⟨_, pss_cons p p', fun H0 ex0 ρ σ H ex De l f q => ?_⟩
  refine k H0 ex0 ρ σ H ex _ l f ?_
  unfold oSeq at q
  cases e : g ρ with
  | nx ρ1 =>
    rw [e] at q
    exact fun σ1 H1 ex1 l1 m1 f1 => k' H0 ex0 ρ1 σ1 H1 ex1 De l1 f1 (q.from m1)
  | rt d => rw [e] at q; exact q
  | xc c ρ1 => rw [e] at q; exact q
  | bad => rw [e] at q; exact q
theorem sds_one {st : Stmt} {g : Env → Out} (a : SD X ad w rs G st g) : SDs X ad w rs G G [st] g := by
  obtain ⟨t, p, k⟩ := a
  exact ⟨t, pss_one p, k⟩
theorem sh_filter {i j : Nat} (hj : j ≠ i) : ∀ {G : Shs}, sh (G.filter fun p => p.1 != i) j = sh G j := by
  intro G
  have : List.lookup j (G.filter fun p => p.1 != i) = List.lookup j G := by
    induction G with
    | nil => rfl
    | cons q G ih =>
      obtain ⟨m, s⟩ := q
      by_cases hm : m = i
      · subst hm
        rw [List.filter_cons_of_neg (by simp), ih, List.lookup_cons]
        have : (j == m) = false := by simpa using hj
        rw [this]
      · rw [List.filter_cons_of_pos (by simpa using hm), List.lookup_cons, List.lookup_cons, ih]
  unfold sh
  rw [this]
theorem sh_filter_self {i : Nat} {G : Shs} : sh (G.filter fun p => p.1 != i) i = .fz := by
  have : List.lookup i (G.filter fun p => p.1 != i) = none := by
    rw [List.lookup_eq_none_iff]
    intro p hp
    have := (List.mem_filter.mp hp).2
    simp at this ⊢
    exact fun z => this z.symm
  unfold sh
  rw [this]
/-- a slot's list becomes anybody's -/
theorem sds_frz (i : Nat) {sts : List Stmt} {g : Env → Out} (a : SDs X ad w rs (G.filter fun p => p.1 != i) G' sts g) : SDs X ad w rs G G' sts g := by
  obtain ⟨t, p, k⟩ := a
  have look : ∀ j, j ≠ i → sh (G.filter fun p => p.1 != i) j = sh G j := fun j hj => sh_filter hj
  have at_i : sh (G.filter fun p => p.1 != i) i = .fz := sh_filter_self
  have up : ∀ j, sh G j = .fz → sh (G.filter fun p => p.1 != i) j = .fz := fun j h => by
    by_cases hj : j = i
    · rw [hj]; exact at_i
    · rw [look j hj]; exact h
  refine ⟨t, p, fun H0 ex0 ρ σ H ex De l f q => ?_⟩
  obtain ⟨fps, h1, h2, h3, h4⟩ := f.slots
  have mo : Same (cut H ex) (cut H (less ex (fps i))) := less_cut
  have l' : Le H0 ex0 H (less ex (fps i)) := by
    refine ⟨l.same, fun b z => ⟨l.keep b z, fun m => (h4 i b m).2 z⟩, fun b z => l.new b z.1⟩
  have f' : Fra X.K ad (G.filter fun p => p.1 != i) ex0 ρ σ H (less ex (fps i)) := by
    refine ⟨f.len, fun b z => f.exok b z.1, fun j => if j = i then [] else fps j, fun j d e => ?_, fun j => ?_, fun j k' a hjk hj hk => ?_, fun j a hj => ?_⟩
    · obtain ⟨v, e1, r⟩ := h1 j d e
      refine ⟨v, e1, ?_⟩
      by_cases hj : j = i
      · subst hj
        dsimp only
        rw [if_pos rfl, at_i]
        exact .fz r.freeze
      · dsimp only
        rw [if_neg hj, look j hj]
        exact r.keep mo fun a z => ⟨⟨(h4 j a z).1, h3 j i a hj z⟩, rfl⟩
    · dsimp only
      split
      · exact List.nodup_nil
      · exact h2 j
    · dsimp only at hj hk
      split at hj
      · cases hj
      · split at hk
        · cases hk
        · exact h3 j k' a hjk hj hk
    · dsimp only at hj
      split at hj
      · cases hj
      · rename_i hji
        exact ⟨⟨(h4 j a hj).1, h3 j i a hji hj⟩, (h4 j a hj).2⟩
  refine k H0 ex0 ρ σ H (less ex (fps i)) De l' f' ?_
  cases e : g ρ with
  | nx ρ1 =>
    rw [e] at q
    exact fun σ1 H1 ex1 l1 m1 f1 => q σ1 H1 ex1 l1 (mo.trans m1) f1
  | rt d => rw [e] at q; exact fun v H1 ex1 fp l1 m1 r => q v H1 ex1 fp l1 (mo.trans m1) r
  | xc c ρ1 => rw [e] at q; exact fun σ1 H1 ex1 l1 m1 f1 => q σ1 H1 ex1 l1 (mo.trans m1) (f1.up up)
  | bad => rw [e] at q; exact q

/-! ### expressions in statements -/
theorem sat_then {α : Type} {x : R α} {ρ : Env} {k : α → Out} {σ : L2.St} {H0 H : Hp} {ex0 ex : Own} {De : Ends} {p : α → Prop} (l : Le H0 ex0 H ex) (f : Fra X.K ad G ex0 ρ σ H ex) (h : Ok X.K ad w rs G G' H0 ex0 H ex De (x.then ρ k))
    (hp : ∀ a, Ok X.K ad w rs G G' H0 ex0 H ex De (k a) → p a) : Sat x p (Exc w σ H ex) := by
  cases x with
  | ok a => exact hp a h
  | exc c => exact fun H' ex' l' => h σ H' ex' (l.trans l') l'.cuts (f.frz.mono l')
  | bad => exact h
def oRet (f : Env → R D) : Env → Out := fun ρ => (f ρ).then ρ .rt
theorem sds_ret {e : Expr} {f : Env → R D} (h : DE X ad w G e rs f) : SDs X ad w rs G G' [.Return (some e) pos] (oRet f) := by
  obtain ⟨t, p, k⟩ := h
  refine ⟨_, pss_one (ps_ret p), fun H0 ex0 ρ σ H ex De l f q => ?_⟩
  refine k ex0 ρ σ H ex _ f (sat_then l f q fun d q => ?_)
  intro v H' ex' fp l' r nd nw
  exact q v H' ex' fp (l.trans l') l'.cuts r nd fun a z zz => nw a z (l.keep a zz)
/-- a list of one's own is told -/
theorem sds_retO (i : Nat) {x : Str} {p1 : Pos} (hN : X.N[i]? = some x := by rfl) (hg : sh G i = rs := by rfl) (hv : Vis X.env.scope x := by first | exact Or.inl rfl | exact Or.inr (Or.inl rfl) | exact Or.inr (Or.inr rfl)) (hd : (x == ("__debug__" : Str)) = false := by decide)
    (hcd : (x == ("__classdict__" : Str)) = false := by decide) : SDs X ad w rs G G' [.Return (some (.Name x p1)) pos] (oRet (dV i)) := by
  refine ⟨_, pss_one (ps_ret (pe_var hN hv hd hcd)), fun H0 ex0 ρ σ H ex De l f q => ?_⟩
  unfold oRet dV at q
  cases e : ρ[i]? with
  | none => rw [e] at q; exact q.elim
  | some o =>
    cases o with
    | none => rw [e] at q; exact q.elim
    | some d =>
      rw [e] at q
      obtain ⟨fps, h1, h2, h3, h4⟩ := f.slots
      obtain ⟨v, e1, r⟩ := h1 i d e
      rw [hg] at r
      exact ⟨v, e1, q v H ex (fps i) l Mo.refl r (h2 i) fun a z => (h4 i a z).2⟩
def oRetN : Env → Out := fun _ => .rt .non
theorem sds_retN : SDs X ad w .fz G G' [.Return none pos] oRetN := ⟨_, pss_one ps_retN, fun H0 ex0 ρ σ H ex De l f q => q .non H ex [] l Mo.refl (.fz .non) List.nodup_nil fun _ z => by cases z⟩
theorem sd_pass : SD X ad w rs G (.Pass pos) oNx := ⟨_, ps_pass, fun H0 ex0 ρ σ H ex De l f q => q σ H ex l Mo.refl f⟩
def oDrop (f : Env → R D) : Env → Out := fun ρ => (f ρ).then ρ fun _ => .nx ρ
theorem sd_drop {e : Expr} {f : Env → R D} {s : Sh} (h : DE X ad w G e s f) (hs : swapsWith e none pos.line X.env = pure false := by rfl) : SD X ad w rs G (.Expr e pos) (oDrop f) := by
  obtain ⟨t, p, k⟩ := h
  refine ⟨_, ps_expr p hs, fun H0 ex0 ρ σ H ex De l f q => ?_⟩
  refine k ex0 ρ σ H ex _ f (sat_then l f q fun d q => ?_)
  intro v H' ex' fp l' r nd nw
  exact q σ H' ex' (l.trans l') l'.cuts (f.mono l')
def oIf (c : Env → R Bool) (g h : Env → Out) : Env → Out := fun ρ => (c ρ).then ρ fun b => if b = true then g ρ else h ρ
theorem sd_if {c : Expr} {a b : List Stmt} {fc : Env → R Bool} {g h : Env → Out} (hc : DT X ad w G c fc) (ha : SDs X ad w rs G G a g) (hb : SDs X ad w rs G G b h) : SD X ad w rs G (.If c a b pos) (oIf fc g h) := by
  obtain ⟨t, p, k⟩ := hc
  obtain ⟨ta, pa, ka⟩ := ha
  obtain ⟨tb, pb, kb⟩ := hb
  refine ⟨_, ps_if p pa pb, fun H0 ex0 ρ σ H ex De l f q => ?_⟩
  refine k ex0 ρ σ H ex _ f (sat_then l f q fun d q => ?_)
  intro H' ex' l'
  cases d with
  | true =>
    rw [if_pos rfl] at q ⊢
    exact ka H0 ex0 ρ σ H' ex' De (l.trans l') (f.mono l') (q.from l'.cuts)
  | false =>
    rw [if_neg Bool.false_ne_true] at q ⊢
    exact kb H0 ex0 ρ σ H' ex' De (l.trans l') (f.mono l') (q.from l'.cuts)
def oSet (i : Nat) (f : Env → R D) : Env → Out := fun ρ => (f ρ).then ρ fun d => .nx (ρ.set i (some d))
/-- x = e -/
theorem sd_set (i : Nat) {x : Str} {e : Expr} {p1 : Pos} {s : Sh} {f : Env → R D} (h : DE X ad w G e s f) (hN : X.N.Nodup) (hi : X.N[i]? = some x := by rfl) (hx : Loc X.env.scope x := by first | exact Or.inl rfl | exact Or.inr rfl) (hg : sh G i = s := by rfl) (hs : swapsWith e (some (.Name x p1)) pos.line X.env = pure false := by rfl)
    (hf : X.fn x = true ∨ X.env.scope.names.lookup x = some .local := by first | exact .inl rfl | exact .inr rfl | assumption) : SD X ad w rs G (.Assign [.Name x p1] e pos) (oSet i f) := by
  obtain ⟨t, p, k⟩ := h
  refine ⟨_, ps_set hN hi hx p hs hf, fun H0 ex0 ρ σ H ex De l f q => ?_⟩
  refine k ex0 ρ σ H ex _ f (sat_then l f q fun d q => ?_)
  intro v H' ex' fp l' r nd nw
  exact q (σ.set i (some v)) H' ex' (l.trans l') l'.cuts (f.setN l' (by rw [hg]; exact r) nd nw fun a z zz => nw a z (l.keep a zz))

/-! ### targets -/
/-- a target takes d -/
def DG (X : Cx) (ad : Adr) (G : Shs) (tg : Expr) (vs : List Nat) (h : D → Env → R Env) : Prop :=
  ∃ g, PG X tg g ∧ ∀ ex0 ρ σ H ex d v Q, Fra X.K ad G ex0 ρ σ H ex → At X.K ad (cut H ex) d v →
    Sat (h d ρ) (fun ρ' => ∀ σ', Fra X.K ad G ex0 ρ' σ' H ex → (∀ us : List Nat, (∀ i ∈ vs, i ∈ us) → L2.wipe σ' us = L2.wipe σ us) → Q σ' H) (fun _ => False) → g v σ H Q
theorem wipe_ext {σ τ : L2.St} (hl : σ.length = τ.length) : ∀ {us : List Nat}, (∀ j, j ∉ us → σ[j]? = τ[j]?) → L2.wipe σ us = L2.wipe τ us := by
  intro us h
  apply List.ext_getElem?
  intro j
  by_cases hj : j ∈ us
  · have a : ∀ (s : L2.St) (vs : List Nat), j ∈ vs → (L2.wipe s vs)[j]? = if j < s.length then some none else none := by
      intro s vs
      induction vs with
      | nil => intro z; cases z
      | cons v vs ih =>
        intro z
        unfold L2.wipe
        by_cases e : v = j
        · subst e
          rw [List.getElem?_set]
          simp only [if_true, wipe_length]
        · rw [List.getElem?_set_ne e]
          exact ih ((List.mem_cons.mp z).resolve_left fun q => e q.symm)
    rw [a σ us hj, a τ us hj, hl]
  · rw [wipe_out hj, wipe_out hj]
    exact h j hj
def tN (i : Nat) : D → Env → R Env := fun d ρ => .ok (ρ.set i (some d))
theorem dg_name (i : Nat) {x : Str} (hN : X.N.Nodup) (hi : X.N[i]? = some x := by rfl) (hx : Loc X.env.scope x := by first | exact Or.inl rfl | exact Or.inr rfl) (hg : sh G i = .fz := by rfl)
    (hf : X.fn x = true ∨ X.env.scope.names.lookup x = some .local := by first | exact .inl rfl | exact .inr rfl | assumption) : DG X ad G (.Name x pos) [i] (tN i) := by
  refine ⟨_, pg_name hN hi hx hf, fun ex0 ρ σ H ex d v Q f a q => q (σ.set i (some v)) (f.setF hg a) fun us hu => ?_⟩
  refine wipe_ext (by simp) fun j hj => ?_
  rw [List.getElem?_set_ne]
  intro e
  exact hj (e ▸ hu i (by simp))
/-- several targets -/
def DGs (X : Cx) (ad : Adr) (G : Shs) (ts : List Expr) (vs : List Nat) (h : List D → Env → R Env) : Prop :=
  ∃ g, PGs X ts g ∧ ∀ ex0 ρ σ H ex ds us Q, Fra X.K ad G ex0 ρ σ H ex → Ats X.K ad (cut H ex) ds us →
    Sat (h ds ρ) (fun ρ' => ∀ σ', Fra X.K ad G ex0 ρ' σ' H ex → (∀ us : List Nat, (∀ i ∈ vs, i ∈ us) → L2.wipe σ' us = L2.wipe σ us) → Q σ' H) (fun _ => False) → g us σ H Q
def tNil' : List D → Env → R Env := fun ds ρ => match ds with
  | [] => .ok ρ
  | _ => .bad
def tCons' (h : D → Env → R Env) (k : List D → Env → R Env) : List D → Env → R Env := fun ds ρ => match ds with
  | d :: ds => (h d ρ).bind (k ds)
  | [] => .bad
theorem dgs_nil : DGs X ad G [] [] tNil' := by
  refine ⟨_, pgs_nil, fun ex0 ρ σ H ex ds us Q f a q => ?_⟩
  cases a with
  | nil => exact ⟨rfl, q σ f fun _ _ => rfl⟩
  | cons _ _ => exact q.elim
theorem dgs_cons {e : Expr} {es : List Expr} {vs vs' : List Nat} {h : D → Env → R Env} {k : List D → Env → R Env} (a : DG X ad G e vs h) (b : DGs X ad G es vs' k)
    (hs : (assignEach (e :: es) X.env).map (·.2) = assign e X.env :: (assignEach es X.env).map (·.2) := by rfl) : DGs X ad G (e :: es) (vs ++ vs') (tCons' h k) := by
  obtain ⟨g, p, kg⟩ := a
  obtain ⟨g', p', kg'⟩ := b
  refine ⟨_, pgs_cons p p' hs, fun ex0 ρ σ H ex ds us Q f a q => ?_⟩
  cases a with
  | nil => exact q.elim
  | cons a as =>
    refine ⟨_, _, rfl, kg ex0 ρ σ H ex _ _ _ f a ?_⟩
    unfold tCons' at q
    rw [sat_bind] at q
    refine q.imp (fun ρ1 q σ1 f1 w1 => ?_) fun _ z => z
    refine kg' ex0 ρ1 σ1 H ex _ _ Q f1 as (q.imp (fun ρ2 q σ2 f2 w2 => q σ2 f2 fun us hu => ?_) fun _ z => z)
    rw [w2 us fun i z => hu i (List.mem_append_right _ z), w1 us fun i z => hu i (List.mem_append_left _ z)]
def tT (k : List D → Env → R Env) : D → Env → R Env := fun d ρ => match d with
  | .tup ds => k ds ρ
  | _ => .bad
theorem tNil_len {ds : List D} {ρ ρ' : Env} (h : tNil' ds ρ = .ok ρ') : ds.length = 0 := by
  cases ds with
  | nil => rfl
  | cons _ _ => cases h
/-- how many targets -/
def Cnt (k : List D → Env → R Env) (n : Nat) : Prop := ∀ ds ρ ρ', k ds ρ = .ok ρ' → ds.length = n
theorem cnt_nil : Cnt tNil' 0 := fun _ _ _ h => tNil_len h
theorem cnt_cons {h : D → Env → R Env} {k : List D → Env → R Env} {n : Nat} (c : Cnt k n) : Cnt (tCons' h k) (n + 1) := fun ds ρ ρ' e => by
  cases ds with
  | nil => cases e
  | cons d ds =>
    unfold tCons' at e
    dsimp only at e
    cases q : h d ρ with
    | ok ρ1 =>
      rw [q] at e
      rw [List.length_cons, c ds ρ1 ρ' e]
    | exc c => rw [q] at e; cases e
    | bad => rw [q] at e; cases e
theorem dg_tup {es : List Expr} {kk : Nat} {vs : List Nat} {k : List D → Env → R Env} {n : Nat} (hc : X.calm = true) (c : Cnt k n) (a : DGs X ad G es vs k)
    (hn : (assignEach es X.env).length = n := by rfl) (hst : (assignEach es X.env).findIdx? (·.1) = none := by rfl) : DG X ad G (.Tuple es kk pos) vs (tT k) := by
  obtain ⟨g, p, kg⟩ := a
  refine ⟨_, pg_tup hc p hn hst, fun ex0 ρ σ H ex d v Q f a q => ?_⟩
  cases a with
  | @tup a' us ds h _ hs =>
    refine ⟨a', us, rfl, seqT cut_same h, ?_, kg ex0 ρ σ H ex _ _ Q f hs q⟩
    unfold tT at q
    dsimp only at q
    rw [← hs.length]
    cases e : k ds ρ with
    | ok ρ' => exact c ds ρ ρ' e
    | exc c => rw [e] at q; exact q.elim
    | bad => rw [e] at q; exact q.elim
  | _ => exact q.elim
def outOf : R Env → Out
  | .ok ρ => .nx ρ
  | _ => .bad
def oAsg (h : D → Env → R Env) (f : Env → R D) : Env → Out := fun ρ => (f ρ).then ρ fun d => outOf (h d ρ)
/-- target = e -/
theorem sd_asg {tg e : Expr} {vs : List Nat} {h : D → Env → R Env} {f : Env → R D} (he : DE X ad w G e .fz f) (hg : DG X ad G tg vs h) (hs : swapsWithSole [tg] e pos.line X.env = pure false := by rfl) (hw : swappedStores [tg] e X.env = pure none := by rfl)
    (h1 : (assignEach [tg] X.env).map (·.2) = [assign tg X.env] := by rfl) : SD X ad w rs G (.Assign [tg] e pos) (oAsg h f) := by
  obtain ⟨t, p, k⟩ := he
  obtain ⟨g, pg, kg⟩ := hg
  refine ⟨_, ps_asg p pg hs hw h1, fun H0 ex0 ρ σ H ex De l f q => ?_⟩
  refine k ex0 ρ σ H ex _ f (sat_then l f q fun d q => ?_)
  intro v H' ex' fp l' r nd nw
  refine kg ex0 ρ σ H' ex' d v _ (f.mono l') (rep_fz r) ?_
  cases e : h d ρ with
  | ok ρ' => rw [e] at q; exact fun σ' f' _ => q σ' H' ex' (l.trans l') l'.cuts f'
  | exc c => rw [e] at q; exact q
  | bad => rw [e] at q; exact q
end
end DL

set_option Elab.async false
set_option linter.all false
set_option maxRecDepth 100000
set_option maxHeartbeats 4000000
set_option autoImplicit false
/-! DL3: what is walked, for, comprehensions, lists of one's own that change, calls, defs. -/
namespace DL
open PySem PySem.Spec PyProof.Rows L2

/-- what a loop walks: the data of its items -/
def DI (X : Cx) (ad : Adr) (w : Wi) (G : Shs) (tg iter : Expr) (f : Env → R (List D)) : Prop :=
  ∃ wi, PI X tg iter wi ∧ ∀ ex0 ρ σ H ex Rr, Fra X.K ad G ex0 ρ σ H ex →
    Sat (f ρ) (fun ds => ∀ J H1 ex1 n Gd Y, Le H ex H1 ex1 → n = ds.length → n ≤ sizeLine → Walk J n Gd Y → (∀ H' ex', Mo H1 ex1 H' ex' → Gd H') →
      (∀ i H' ex' x H'', i < n → Mo H1 ex1 H' ex' → (∀ b, ex' b → ∃ o, H' b = some o) → Y i H' x H'' → ∃ d, ds[i]? = some d ∧ Le H' ex' H'' ex' ∧ At X.K ad (cut H'' ex') d x) → Rr J H1) (Exc w σ H ex) → wi σ H Rr

/-- .. of a comprehension: nothing that stands is changed meanwhile -/
def DJ (X : Cx) (ad : Adr) (w : Wi) (G : Shs) (tg iter : Expr) (f : Env → R (List D)) : Prop :=
  ∃ wi, PI X tg iter wi ∧ ∀ ex0 ρ σ H ex Rr, Fra X.K ad G ex0 ρ σ H ex →
    Sat (f ρ) (fun ds => ∀ J H1 ex1 n Gd Y, Le H ex H1 ex1 → n = ds.length → n ≤ sizeLine → Walk J n Gd Y → (∀ H' ex', Mo H1 ex1 H' ex' ∧ Same H1 H' → Gd H') →
      (∀ i H' ex' x H'', i < n → Mo H1 ex1 H' ex' ∧ Same H1 H' → (∀ b, ex' b → ∃ o, H' b = some o) → Y i H' x H'' → ∃ d, ds[i]? = some d ∧ Le H' ex' H'' ex' ∧ At X.K ad (cut H'' ex') d x) → Rr J H1) (Exc w σ H ex) → wi σ H Rr
theorem dj_of {X : Cx} {ad : Adr} {w : Wi} {G : Shs} {tg iter : Expr} {f : Env → R (List D)} (h : DI X ad w G tg iter f) : DJ X ad w G tg iter f := by
  obtain ⟨wi, p, k⟩ := h
  refine ⟨wi, p, fun ex0 ρ σ H ex Rr fr q => k ex0 ρ σ H ex Rr fr (q.imp (fun ds q J H1 ex1 n Gd Y l hn hz wk hG hY => ?_) fun _ z => z)⟩
  exact q J H1 ex1 n Gd Y l hn hz wk (fun H' ex' m => hG H' ex' m.1) fun i H' ex' x H'' hi m hx y => hY i H' ex' x H'' hi m.1 hx y
section
variable {X : Cx} {ad : Adr} {w : Wi} {rs : Sh} {G G' : Shs} {pos : Pos} {tg : Expr}
def itL : D → R (List D)
  | .lst ds => .ok ds
  | _ => .bad
def itT : D → R (List D)
  | .tup ds => .ok ds
  | _ => .bad
def iL (f : Env → R D) : Env → R (List D) := fun ρ => (f ρ).bind itL
def iT (f : Env → R D) : Env → R (List D) := fun ρ => (f ρ).bind itT
theorem di_list {e : Expr} {f : Env → R D} (h : DE X ad w G e .fz f) : DI X ad w G tg e (iL f) := by
  obtain ⟨t, p, k⟩ := h
  refine ⟨_, pi_list p, fun ex0 ρ σ H ex Rr fr q => ?_⟩
  refine k ex0 ρ σ H ex _ fr ?_
  unfold iL at q
  rw [sat_bind] at q
  refine q.imp (fun d q v H1 ex1 fp l r _ _ => ?_) fun _ z => z
  have a := rep_fz r
  cases a with
  | @lst a vs ds h hz hs =>
    refine ⟨a, rfl, ⟨vs, cut_same.seq h⟩, q (Itl X.K a) H1 ex1 vs.length _ _ l hs.length.symm hz walk_list (fun H' ex' m => (Same.trans m cut_same).seq h) fun i H' ex' x H'' hi m _ y => ?_⟩
    obtain ⟨e1, e2⟩ := y
    subst e1
    obtain ⟨d, hd, ha⟩ := hs.getV e2
    exact ⟨d, hd, Le.refl _ _, ha.mono m⟩
  | _ => exact q.elim
theorem di_tup {e : Expr} {f : Env → R D} (h : DE X ad w G e .fz f) : DI X ad w G tg e (iT f) := by
  obtain ⟨t, p, k⟩ := h
  refine ⟨_, pi_tup p, fun ex0 ρ σ H ex Rr fr q => ?_⟩
  refine k ex0 ρ σ H ex _ fr ?_
  unfold iT at q
  rw [sat_bind] at q
  refine q.imp (fun d q v H1 ex1 fp l r _ _ => ?_) fun _ z => z
  have a := rep_fz r
  cases a with
  | @tup a vs ds h hz hs =>
    refine ⟨a, rfl, ⟨vs, seqT cut_same h⟩, q (Itt X.K a) H1 ex1 vs.length _ _ l hs.length.symm hz walk_tup (fun H' ex' m => seqT (Same.trans m cut_same) h) fun i H' ex' x H'' hi m _ y => ?_⟩
    obtain ⟨e1, e2⟩ := y
    subst e1
    obtain ⟨d, hd, ha⟩ := hs.getV e2
    exact ⟨d, hd, Le.refl _ _, ha.mono m⟩
  | _ => exact q.elim
def upTo (lo : Int) (n : Nat) : List D := (List.range n).map fun i => .int (lo + (i : Nat))
def itR1 : List D → R (List D)
  | [.int j] => if -(2 ^ 62) ≤ j ∧ j ≤ 16777216 then .ok (upTo 0 j.toNat) else .bad
  | _ => .bad
def itR2 : List D → R (List D)
  | [.int i, .int j] => if 0 ≤ i ∧ i ≤ 16777216 ∧ -(2 ^ 62) ≤ j ∧ j ≤ 16777216 then .ok (upTo i (j - i).toNat) else .bad
  | _ => .bad
def iA (o : List D → R (List D)) (f : Env → R (List D)) : Env → R (List D) := fun ρ => (f ρ).bind o
theorem range_turn {K : PySem.W.Frag} {lo : Int} {n : Nat} : ∀ i (H' : Hp) (ex' : Own) x H'', i < n → YFn (fun i => V.int (lo + i)) i H' x H'' → ∃ d, (upTo lo n)[i]? = some d ∧ Le H' ex' H'' ex' ∧ At K ad (cut H'' ex') d x := by
  intro i H' ex' x H'' hi y
  obtain ⟨e1, e2⟩ := y
  subst e1 e2
  refine ⟨.int (lo + i), ?_, Le.refl _ _, .int _⟩
  unfold upTo
  rw [List.getElem?_map, List.getElem?_range hi]
  rfl
theorem di_range1 {a : Expr} {f : Env → R (List D)} {p : Pos} (h : DA X ad w G [a] f) (hg : Gl X "range" := by rfl) (hm : X.mg "range" = none := by assumption) (hs : starEach [a] X.env = [(false, eval a X.env)] := by rfl) : DI X ad w G tg (.Call (.Name "range" p) [a] [] pos) (iA itR1 f) := by
  obtain ⟨t, pa, k⟩ := h
  refine ⟨_, pi_range1 hg hm pa hs, fun ex0 ρ σ H ex Rr fr q => ?_⟩
  refine k ex0 ρ σ H ex _ fr ?_
  unfold iA at q
  rw [sat_bind] at q
  refine q.imp (fun ds q vs H1 ex1 l a => ?_) fun _ z => z
  unfold itR1 at q
  split at q
  · rename_i j
    obtain ⟨v, rfl, a1⟩ := a.one
    cases a1
    split at q
    · rename_i hj
      refine ⟨j, rfl, hj.1, by omega, q (Itr 0 j.toNat) H1 ex1 j.toNat _ _ l ?_ (by rw [sizeLine_eq]; omega) walk_range (fun _ _ _ => trivial) fun i H' ex' x H'' hi _ _ y => range_turn i H' ex' x H'' hi y⟩
      unfold upTo
      rw [List.length_map, List.length_range]
    · exact q.elim
  · exact q.elim
theorem di_range2 {a b : Expr} {f : Env → R (List D)} {p : Pos} (h : DA X ad w G [a, b] f) (hg : Gl X "range" := by rfl) (hm : X.mg "range" = none := by assumption) (hs : starEach [a, b] X.env = [(false, eval a X.env), (false, eval b X.env)] := by rfl)
    (hs2 : starEach [b] X.env = [(false, eval b X.env)] := by rfl) : DI X ad w G tg (.Call (.Name "range" p) [a, b] [] pos) (iA itR2 f) := by
  obtain ⟨t, pa, k⟩ := h
  refine ⟨_, pi_range2 hg hm pa hs hs2, fun ex0 ρ σ H ex Rr fr q => ?_⟩
  refine k ex0 ρ σ H ex _ fr ?_
  unfold iA at q
  rw [sat_bind] at q
  refine q.imp (fun ds q vs H1 ex1 l a => ?_) fun _ z => z
  unfold itR2 at q
  split at q
  · rename_i i j
    obtain ⟨v, u, rfl, a1, a2⟩ := a.two
    cases a1
    cases a2
    split at q
    · rename_i hj
      refine ⟨i, j, rfl, by omega, q (Itr i (j - i).toNat) H1 ex1 (j - i).toNat _ _ l ?_ (by rw [sizeLine_eq]; omega) walk_range (fun _ _ _ => trivial) fun i H' ex' x H'' hi _ _ y => range_turn i H' ex' x H'' hi y⟩
      unfold upTo
      rw [List.length_map, List.length_range]
    · exact q.elim
  · exact q.elim
/-- enumerate(list), zip(list, list): pairs -/
def enumF : Nat → List D → List D
  | _, [] => []
  | n, d :: ds => .tup [.int n, d] :: enumF (n + 1) ds
theorem enumF_get : ∀ {ds : List D} {n i : Nat} {d : D}, ds[i]? = some d → (enumF n ds)[i]? = some (.tup [.int ((n + i : Nat)), d])
  | [], _, _, _, h => by simp at h
  | e :: ds, n, 0, d, h => by simp at h; subst h; rfl
  | e :: ds, n, i + 1, d, h => by
    show (enumF (n + 1) ds)[i]? = _
    rw [enumF_get (n := n + 1) (i := i) (d := d) (by simpa using h), show n + 1 + i = n + (i + 1) by omega]
theorem enumF_length : ∀ {ds : List D} {n : Nat}, (enumF n ds).length = ds.length
  | [], _ => rfl
  | _ :: ds, n => by
    show (enumF (n + 1) ds).length + 1 = ds.length + 1
    rw [enumF_length]
def itE : List D → R (List D)
  | [.lst ds] => .ok (enumF 0 ds)
  | _ => .bad
def itZ : List D → R (List D)
  | [.lst ds, .lst es] => .ok ((ds.zip es).map fun p => .tup [p.1, p.2])
  | _ => .bad
theorem pair_turn {K : PySem.W.Frag} {xs ys : Nat → Option V} {H' H'' : Hp} {ex' : Own} {i : Nat} {x : V} {d e : D} (y : YPair xs ys i H' x H'') (hexok : ∀ b, ex' b → ∃ o, H' b = some o) (h1 : ∀ v, xs i = some v → At K ad (cut H' ex') d v) (h2 : ∀ v, ys i = some v → At K ad (cut H' ex') e v) :
    Le H' ex' H'' ex' ∧ At K ad (cut H'' ex') (.tup [d, e]) x := by
  obtain ⟨T, x1, x2, rfl, hT, rfl, e1, e2⟩ := y
  have l : Le H' ex' (upd H' T (.tup [x1, x2])) ex' := Le.lay hT
  refine ⟨l, .tup (SqT.of (cut_of (fun z => ?_) upd_same)) (by show 2 ≤ sizeLine; rw [sizeLine_eq]; omega) (.cons ((h1 _ e1).mono l.cuts) (.cons ((h2 _ e2).mono l.cuts) .nil))⟩
  obtain ⟨o, q⟩ := hexok T z
  rw [hT] at q
  cases q
theorem di_enum {e : Expr} {f : Env → R (List D)} {p tpos : Pos} {elts : List Expr} {kk : Nat} (h : DA X ad w G [e] f) (hg : Gl X "enumerate" := by rfl) (hm : X.mg "enumerate" = none := by assumption) (hs : starEach [e] X.env = [(false, eval e X.env)] := by rfl) :
    DI X ad w G (.Tuple elts kk tpos) (.Call (.Name "enumerate" p) [e] [] pos) (iA itE f) := by
  obtain ⟨t, pa, k⟩ := h
  refine ⟨_, pi_enum hg hm pa hs, fun ex0 ρ σ H ex Rr fr q => ?_⟩
  refine k ex0 ρ σ H ex _ fr ?_
  unfold iA at q
  rw [sat_bind] at q
  refine q.imp (fun ds q vs H1 ex1 l a => ?_) fun _ z => z
  unfold itE at q
  split at q
  · rename_i ds
    obtain ⟨v, rfl, a1⟩ := a.one
    cases a1 with
    | @lst a3 vs _ h hz hs =>
      refine ⟨a3, vs, rfl, cut_same.seq h, q (Ite X.K a3) H1 ex1 vs.length _ _ l (by rw [enumF_length, hs.length]) hz walk_enum (fun H' ex' m => (Same.trans m cut_same).seq h) fun i H' ex' x H'' hi m hex y => ?_⟩
      have hi' : i < ds.length := by rw [hs.length]; exact hi
      refine ⟨_, enumF_get (d := ds[i]) (List.getElem?_eq_getElem hi'), ?_⟩
      refine pair_turn y hex (fun v e => ?_) fun v e => ?_
      · cases e
        rw [Nat.zero_add]
        exact .int _
      · obtain ⟨d', e1, a1⟩ := hs.getV e
        rw [List.getElem?_eq_getElem hi'] at e1
        cases e1
        exact a1.mono m
  · exact q.elim
theorem di_zip {e e2 : Expr} {f : Env → R (List D)} {p tpos : Pos} {elts : List Expr} {kk : Nat} (h : DA X ad w G [e, e2] f) (hg : Gl X "zip" := by rfl) (hm : X.mg "zip" = none := by assumption)
    (hs : starEach [e, e2] X.env = (false, eval e X.env) :: starEach [e2] X.env := by rfl) (hpl : (backTo pos (starEach [e2] X.env)).any (·.1) = false := by rfl) :
    DI X ad w G (.Tuple elts kk tpos) (.Call (.Name "zip" p) [e, e2] [] pos) (iA itZ f) := by
  obtain ⟨t, pa, k⟩ := h
  refine ⟨_, pi_zip hg hm pa hs hpl, fun ex0 ρ σ H ex Rr fr q => ?_⟩
  refine k ex0 ρ σ H ex _ fr ?_
  unfold iA at q
  rw [sat_bind] at q
  refine q.imp (fun ds q vs H1 ex1 l a => ?_) fun _ z => z
  unfold itZ at q
  split at q
  · rename_i ds es
    obtain ⟨v, u, rfl, a1, a2⟩ := a.two
    cases a1 with
    | @lst a3 vs _ h hz hs =>
      cases a2 with
      | @lst b us _ h' hz' hs' =>
        refine ⟨a3, b, vs, us, rfl, cut_same.seq h, cut_same.seq h', q (Itz X.K a3 b) H1 ex1 (min vs.length us.length) _ _ l (by rw [List.length_map, List.length_zip, hs.length, hs'.length]) (Nat.le_trans (Nat.min_le_left _ _) hz) (walk_zip rfl)
          (fun H' ex' m => ⟨(Same.trans m cut_same).seq h, (Same.trans m cut_same).seq h'⟩) fun i H' ex' x H'' hi m hex y => ?_⟩
        have hi1 : i < ds.length := by rw [hs.length]; omega
        have hi2 : i < es.length := by rw [hs'.length]; omega
        refine ⟨.tup [ds[i], es[i]], ?_, ?_⟩
        · have hz2 : (ds.zip es)[i]? = some (ds[i], es[i]) := List.getElem?_zip_eq_some.mpr ⟨List.getElem?_eq_getElem hi1, List.getElem?_eq_getElem hi2⟩
          rw [List.getElem?_map, hz2]
          rfl
        · refine pair_turn y hex (fun v e => ?_) fun v e => ?_
          · obtain ⟨d', e1, a1⟩ := hs.getV e
            rw [List.getElem?_eq_getElem hi1] at e1
            cases e1
            exact a1.mono m
          · obtain ⟨d', e1, a1⟩ := hs'.getV e
            rw [List.getElem?_eq_getElem hi2] at e1
            cases e1
            exact a1.mono m
  · exact q.elim
end

section
variable {X : Cx} {ad : Adr} {w : Wi} {rs : Sh} {G G' : Shs} {pos : Pos} {tg : Expr}
/-! ### for -/
def loop (h : D → Env → R Env) (g : Env → Out) : List D → Env → Out
  | [], ρ => .nx ρ
  | d :: ds, ρ => match h d ρ with
    | .ok ρ1 => (g ρ1).seq (loop h g ds)
    | _ => .bad
def oFor (f : Env → R (List D)) (h : D → Env → R Env) (g : Env → Out) : Env → Out := fun ρ => (f ρ).then ρ fun ds => loop h g ds ρ
theorem sd_for {iter : Expr} {body : List Stmt} {vs : List Nat} {f : Env → R (List D)} {h : D → Env → R Env} {g : Env → Out} (hp : PassesOwn (model X.prog X.w) X.A X.env X.xe) (hc : X.calm = true) (hi : DI X ad w G tg iter f) (hg : DG X ad G tg vs h) (hb : SDs X ad w rs G G body g)
    (hs : ∀ x, foldedSetIterable iter X.env x = pure x := by intro _; rfl) : SD X ad w rs G (.For tg iter body [] pos) (oFor f h g) := by
  obtain ⟨wi, pi, ki⟩ := hi
  obtain ⟨gt, pg, kg⟩ := hg
  obtain ⟨tb, pb, kb⟩ := hb
  refine ⟨_, ps_for hp hc pi pg pb hs, fun H0 ex0 ρ σ H ex De l f q => ?_⟩
  refine ki ex0 ρ σ H ex _ f (sat_then l f q fun ds q => ?_)
  intro J H1 ex1 n Gd Y l1 hn hz wk hG hY
  subst hn
  refine for_it wk (fun i σ' H' => ∃ ρ' ex', Le H0 ex0 H' ex' ∧ Mo H1 ex1 H' ex' ∧ Fra X.K ad G ex0 ρ' σ' H' ex' ∧ Ok X.K ad w rs G G H0 ex0 H' ex' De (loop h g (ds.drop i) ρ'))
    ⟨ρ, ex1, l.trans l1, Mo.refl, f.mono l1, q.from l1.cuts⟩ (fun i σ' H' _ ⟨_, ex', _, m, _⟩ => hG H' ex' m) ?_ ?_
  · rintro i x σ' H' H'' hi ⟨ρ', ex', l', m', f', q'⟩ y
    obtain ⟨d, hd, l2, a⟩ := hY i H' ex' x H'' hi m' f'.exok y
    have e : ds.drop i = d :: ds.drop (i + 1) := by
      have h1 := List.drop_eq_getElem_cons hi
      rw [h1]
      rw [List.getElem?_eq_getElem hi] at hd
      cases hd
      rfl
    rw [e] at q'
    unfold loop at q'
    refine kg ex0 ρ' σ' H'' ex' d x _ (f'.mono l2) a ?_
    cases hh : h d ρ' with
    | exc c => rw [hh] at q'; exact q'
    | bad => rw [hh] at q'; exact q'
    | ok ρ2 =>
      rw [hh] at q'
      intro σ2 f2 _
      have q2 := q'.from l2.cuts
      dsimp only at q2
      refine kb H0 ex0 ρ2 σ2 H'' ex' _ (l'.trans l2) f2 ?_
      cases hg' : g ρ2 with
      | nx ρ3 =>
        rw [hg'] at q2
        exact fun σ3 H3 ex3 l3 m3 f3 => ⟨ρ3, ex3, l3, (m'.trans l2.cuts).trans m3, f3, q2.from m3⟩
      | rt d => rw [hg'] at q2; exact q2
      | xc c ρ3 => rw [hg'] at q2; exact q2
      | bad => rw [hg'] at q2; exact q2
  · rintro σ' H' ⟨ρ', ex', l', m', f', q'⟩
    rw [List.drop_length] at q'
    exact q' σ' H' ex' l' Mo.refl f'

/-! ### while -/
def wloop (c : Env → R Bool) (g : Env → Out) : Nat → Env → Out
  | 0, _ => .bad
  | n + 1, ρ => (c ρ).then ρ fun b => if b = true then (g ρ).seq (wloop c g n) else .nx ρ
/-- with so many turns as fuel tells -/
def oWhile (fuel : Env → Nat) (c : Env → R Bool) (g : Env → Out) : Env → Out := fun ρ => wloop c g (fuel ρ) ρ
theorem sd_while {c : Expr} {body : List Stmt} {fc : Env → R Bool} {g : Env → Out} (fuel : Env → Nat) (hp : PassesOwn (model X.prog X.w) X.A X.env X.xe) (hc : DT X ad w G c fc) (hb : SDs X ad w rs G G body g) : SD X ad w rs G (.While c body [] pos) (oWhile fuel fc g) := by
  obtain ⟨tc, pc, kc⟩ := hc
  obtain ⟨tb, pb, kb⟩ := hb
  refine ⟨_, ps_while hp pc pb, fun H0 ex0 ρ σ H ex De l f q => ?_⟩
  refine ⟨fun m σ' H' => ∃ ρ' ex', Le H0 ex0 H' ex' ∧ Fra X.K ad G ex0 ρ' σ' H' ex' ∧ Ok X.K ad w rs G G H0 ex0 H' ex' De (wloop fc g m ρ'), ⟨fuel ρ, ρ, ex, l, f, q⟩, ?_⟩
  rintro m σ' H' ⟨ρ', ex', l', f', q'⟩
  cases m with
  | zero => exact q'.elim
  | succ m =>
    unfold wloop at q'
    refine kc ex0 ρ' σ' H' ex' _ f' (sat_then l' f' q' fun b q2 => ?_)
    intro H2 ex2 l2
    cases b with
    | false =>
      rw [if_neg Bool.false_ne_true] at q2 ⊢
      exact q2 σ' H2 ex2 (l'.trans l2) l2.cuts (f'.mono l2)
    | true =>
      rw [if_pos rfl] at q2 ⊢
      refine ⟨fun σ3 H3 => ∃ ρ3 ex3, Le H0 ex0 H3 ex3 ∧ Fra X.K ad G ex0 ρ3 σ3 H3 ex3 ∧ Ok X.K ad w rs G G H0 ex0 H3 ex3 De (wloop fc g m ρ3), fun σ3 H3 z => ⟨m, Nat.lt_succ_self m, z⟩, ?_⟩
      refine kb H0 ex0 ρ' σ' H2 ex2 _ (l'.trans l2) (f'.mono l2) ?_
      have q3 := q2.from l2.cuts
      cases hg' : g ρ' with
      | nx ρ3 =>
        rw [hg'] at q3
        exact fun σ3 H3 ex3 l3 m3 f3 => ⟨ρ3, ex3, l3, f3, q3.from m3⟩
      | rt d => rw [hg'] at q3; exact q3
      | xc c ρ3 => rw [hg'] at q3; exact q3
      | bad => rw [hg'] at q3; exact q3
end
end DL

set_option Elab.async false
set_option linter.all false
set_option maxRecDepth 100000
set_option maxHeartbeats 4000000
set_option autoImplicit false
/-! DL4: comprehensions, displays, lists of one's own that change, calls, defs. -/
namespace DL
open PySem PySem.Spec PyProof.Rows L2

section
variable {X : Cx}
theorem pe_up {e : Expr} {t t' : TE} (h : PE X e t) (k : ∀ σ H Q, t' σ H Q → t σ H Q) : PE X e t' := ⟨fun pins s σ H Q I q => h.run pins s σ H Q I (k σ H Q q)⟩
theorem pg_up {e : Expr} {t t' : TG} (h : PG X e t) (k : ∀ v σ H Q, t' v σ H Q → t v σ H Q) : PG X e t' := ⟨fun pins s σ H v u Q I r q => h.run pins s σ H v u Q I r (k v σ H Q q)⟩
theorem pt_up {e : Expr} {t t' : TT} (h : PT X e t) (k : ∀ σ H Q, t' σ H Q → t σ H Q) : PT X e t' := ⟨fun pins s σ H Q I q => h.run pins s σ H Q I (k σ H Q q)⟩
theorem pts_up {es : List Expr} {t t' : TT} (h : PTs X es t) (k : ∀ σ H Q, t' σ H Q → t σ H Q) : PTs X es t' := ⟨fun pins s σ H Q I q => h.run pins s σ H Q I (k σ H Q q)⟩
end
/-- the tests of a comprehension -/
def DTs (X : Cx) (ad : Adr) (w : Wi) (G : Shs) (es : List Expr) (f : Env → R Bool) : Prop :=
  ∃ t, PTs X es t ∧ ∀ ex0 ρ σ H ex Q, Fra X.K ad G ex0 ρ σ H ex → Sat (f ρ) (fun b => ∀ H' ex', Le H ex H' ex' → Q b H') (Exc w σ H ex) → t σ H Q
def bYes : Env → R Bool := fun _ => .ok true
section
variable {X : Cx} {ad : Adr} {w : Wi} {G : Shs}
theorem dts_nil : DTs X ad w G [] bYes := ⟨_, pts_nil, fun _ _ _ _ _ _ _ q => q _ _ (Le.refl _ _)⟩
theorem dts_one {c : Expr} {f : Env → R Bool} (h : DT X ad w G c f) : DTs X ad w G [c] f := by
  obtain ⟨t, p, k⟩ := h
  exact ⟨t, pts_one p, k⟩
end
/-- nothing is refused here -/
abbrev w0 : Wi := fun _ _ _ => False
/-- in every block of X -/
abbrev InBlk (X : Cx) (scope : Scope) (P : Cx → Prop) : Prop := ∀ (s : Shared) (H : Hp) (C : Addr) (cl : List (Str × Addr)) (fp : List Addr), P (X.blk s H scope (compEnvC scope cl C X.env) fp)
/-- the readings that hang on the data alone -/
def cE (K : PySem.W.Frag) (ad : Adr) (G : Shs) (s : Sh) (f : Env → R D) : TE := fun σ H Q => ∃ ex0 ρ ex, Fra K ad G ex0 ρ σ H ex ∧ Sat (f ρ) (Post K ad H ex s Q) (fun _ => False)
def cT (K : PySem.W.Frag) (ad : Adr) (G : Shs) (f : Env → R Bool) : TT := fun σ H Q => ∃ ex0 ρ ex, Fra K ad G ex0 ρ σ H ex ∧ Sat (f ρ) (fun b => ∀ H' ex', Le H ex H' ex' → Q b H') (fun _ => False)
def cG (K : PySem.W.Frag) (ad : Adr) (G : Shs) (vs : List Nat) (h : D → Env → R Env) : TG := fun v σ H Q => ∃ ex0 ρ ex d, Fra K ad G ex0 ρ σ H ex ∧ At K ad (cut H ex) d v ∧
  Sat (h d ρ) (fun ρ' => ∀ σ', Fra K ad G ex0 ρ' σ' H ex → (∀ us : List Nat, (∀ i ∈ vs, i ∈ us) → L2.wipe σ' us = L2.wipe σ us) → Q σ' H) (fun _ => False)
theorem sat_f {α : Type} {x : R α} {p : α → Prop} {q : Ex → Prop} (h : Sat x p (fun _ => False)) : Sat x p q := h.imp (fun _ z => z) fun _ z => z.elim

section
variable {X : Cx} {ad : Adr} {w : Wi} {rs : Sh} {G G' : Shs} {pos : Pos} {tg : Expr}
def lcF (vs : List Nat) (h : D → Env → R Env) (tst : Env → R Bool) (fe : Env → R D) (ρ : Env) : List D → R (List D)
  | [] => .ok []
  | d :: ds => match h d (wipeR ρ vs) with
    | .ok ρ1 => match tst ρ1 with
      | .ok b => if b = true then (match fe ρ1 with
          | .ok e => match lcF vs h tst fe ρ ds with
            | .ok es => .ok (e :: es)
            | _ => .bad
          | _ => .bad) else (match lcF vs h tst fe ρ ds with
            | .ok es => .ok es
            | _ => .bad)
      | _ => .bad
    | _ => .bad
def dLc (vs : List Nat) (fi : Env → R (List D)) (h : D → Env → R Env) (tst : Env → R Bool) (fe : Env → R D) : Env → R D := fun ρ => (fi ρ).bind fun ds => match lcF vs h tst fe ρ ds with
  | .ok es => .ok (.lst es)
  | _ => .bad
theorem wipe_idem {σ : L2.St} {vs : List Nat} : L2.wipe (L2.wipe σ vs) vs = L2.wipe σ vs := by
  refine wipe_ext (by rw [wipe_length]) fun j hj => ?_
  rw [wipe_out hj]
/-- what a comprehension's run comes to -/
theorem lc_run {wi : TI} {vs own : List Nat} {fi : Env → R (List D)} {h : D → Env → R Env} {tst : Env → R Bool} {fe : Env → R D} {ex0 : L2.St → Prop} (hv : ∀ i ∈ vs, i ∈ own)
    (ki : ∀ ex0 ρ σ H ex Rr, Fra X.K ad G ex0 ρ σ H ex → Sat (fi ρ) (fun ds => ∀ J H1 ex1 n Gd Y, Le H ex H1 ex1 → n = ds.length → n ≤ sizeLine → Walk J n Gd Y → (∀ H' ex', Mo H1 ex1 H' ex' ∧ Same H1 H' → Gd H') →
      (∀ i H' ex' x H'', i < n → Mo H1 ex1 H' ex' ∧ Same H1 H' → (∀ b, ex' b → ∃ o, H' b = some o) → Y i H' x H'' → ∃ d, ds[i]? = some d ∧ Le H' ex' H'' ex' ∧ At X.K ad (cut H'' ex') d x) → Rr J H1) (Exc w σ H ex) → wi σ H Rr) :
    ∀ ex0 ρ σ H ex Q, Fra X.K ad G ex0 ρ σ H ex → Sat (dLc own fi h tst fe ρ) (Post X.K ad H ex (.own .fz) Q) (Exc w σ H ex) → tLc wi (cG X.K ad G vs h) (cT X.K ad G tst) (cE X.K ad G .fz fe) own σ H Q := by
  intro ex0 ρ σ H ex Q fr q
  refine ki ex0 ρ σ H ex _ fr ?_
  unfold dLc at q
  rw [sat_bind] at q
  refine q.imp (fun ds q => ?_) fun _ z => z
  intro J H1 ex1 n Gd Y l1 hn hz wk hG hY Dl hD
  subst hn
  cases hes : lcF own h tst fe ρ ds with
  | exc c => rw [hes] at q; exact q.elim
  | bad => rw [hes] at q; exact q.elim
  | ok es =>
  rw [hes] at q
  have q : Post X.K ad H ex (.own .fz) Q (.lst es) := q
  have fr1 := fr.mono l1
  have nD : ¬ ex1 Dl := fun z => by
    obtain ⟨o, e⟩ := fr1.exok Dl z
    rw [hD] at e
    cases e
  have back : ∀ {H' : Hp} {ex' : Own}, Le (upd H1 Dl (.lst [])) (plus ex1 Dl) (upd H' Dl (.lst [])) ex' → Same H1 H' := fun {H' ex'} l' b o e => by
    have hb : b ≠ Dl := fun z => by rw [z, hD] at e; cases e
    have e2 := l'.same b o (by rw [upd_ne hb]; exact e)
    rw [upd_ne hb] at e2
    exact e2
  have len_le : ∀ (ds : List D) es, lcF own h tst fe ρ ds = .ok es → es.length ≤ ds.length := by
    intro ds
    induction ds with
    | nil => intro es e; cases e; exact Nat.le_refl _
    | cons d ds ih =>
      intro es e
      unfold lcF at e
      split at e
      · split at e
        · split at e
          · split at e
            · split at e
              · cases e
                rename_i es' e'
                have := ih es' e'
                simp only [List.length_cons]
                omega
              · cases e
            · cases e
          · split at e
            · cases e
              rename_i es' e'
              have := ih _ e'
              simp only [List.length_cons]
              omega
            · cases e
        · cases e
      · cases e
  refine lc_it wk (fun i H' => ∃ (ex' : Own) (done : List D) (rest : List D) (acc : List V), Le (upd H1 Dl (.lst [])) (plus ex1 Dl) (upd H' Dl (.lst [])) ex' ∧ ex' Dl ∧ H' Dl = some (.lst acc) ∧ Ats X.K ad (cut H' ex') done acc ∧
      done.length ≤ i ∧ lcF own h tst fe ρ (ds.drop i) = .ok rest ∧ es = done ++ rest) ?_ ?_ ?_ ?_
  · refine ⟨plus ex1 Dl, [], es, [], ?_, .inr rfl, upd_same, .nil, Nat.le_refl _, hes, rfl⟩
    rw [upd_upd]
    exact Le.refl _ _
  · rintro i H' _ ⟨ex', done, rest, acc, l', exD, hDl, ha, _, _, _⟩
    have m : Mo H1 ex1 H' ex' := by
      have m1 : Mo H1 ex1 (upd H1 Dl (.lst [])) (plus ex1 Dl) := (Le.own hD).cuts
      have m2 := l'.cuts
      intro b o hb
      have z := m2 b o (m1 b o hb)
      obtain ⟨n1, e1⟩ := of_cut z
      have : b ≠ Dl := fun e => n1 (e ▸ exD)
      rw [upd_ne this] at e1
      exact cut_of n1 e1
    exact hG H' ex' ⟨m, back l'⟩
  · rintro i x H' H'' hi ⟨ex', done, rest, acc, l', exD, hDl, ha, hdl, hrest, hsum⟩ y
    have m : Mo H1 ex1 H' ex' := by
      have m1 : Mo H1 ex1 (upd H1 Dl (.lst [])) (plus ex1 Dl) := (Le.own hD).cuts
      intro b o hb
      have z := l'.cuts b o (m1 b o hb)
      obtain ⟨n1, e1⟩ := of_cut z
      have : b ≠ Dl := fun e => n1 (e ▸ exD)
      rw [upd_ne this] at e1
      exact cut_of n1 e1
    have lH : Le (upd H1 Dl (.lst [])) (plus ex1 Dl) (upd H' Dl (.lst [])) ex' := l'
    have frH : Fra X.K ad G ex0 ρ σ H' ex' := by
      -- from H1 to H': the new list at Dl is owned, all else grows
      obtain ⟨fps, f1, f2, f3, f4⟩ := fr1.slots
      have bk : ∀ b, b ≠ Dl → ∀ o, (upd H' Dl (.lst [])) b = some o → H' b = some o := fun b hb o e => by rw [upd_ne hb] at e; exact e
      refine ⟨fr.len, fun b z => ?_, fps, fun j d e => ?_, f2, f3, fun j a z => ?_⟩
      · by_cases hb : b = Dl
        · subst hb
          exact ⟨_, hDl⟩
        · rcases l'.new b z with z1 | ⟨_, o, e⟩
          · rcases z1 with z1 | z1
            · obtain ⟨o, e⟩ := fr1.exok b z1
              have e2 := l'.same b o (by rw [upd_ne hb]; exact e)
              exact ⟨o, bk b hb o e2⟩
            · exact absurd z1 hb
          · exact ⟨o, bk b hb o e⟩
      · obtain ⟨v, e1, r⟩ := f1 j d e
        refine ⟨v, e1, r.keep m fun a z => ?_⟩
        obtain ⟨z1, o, z2⟩ := r.in a z
        have hb : a ≠ Dl := fun e => nD (e ▸ z1)
        exact ⟨l'.keep a (.inl z1), (bk a hb o (l'.same a o (by rw [upd_ne hb]; exact z2))).trans z2.symm⟩
      · exact ⟨l'.keep a (.inl (f4 j a z).1), (f4 j a z).2⟩
    obtain ⟨d, hd, l2, a⟩ := hY i H' ex' x H'' hi ⟨m, back l'⟩ frH.exok y
    have e : ds.drop i = d :: ds.drop (i + 1) := by
      rw [List.drop_eq_getElem_cons hi]
      rw [List.getElem?_eq_getElem hi] at hd
      cases hd
      rfl
    rw [e] at hrest
    unfold lcF at hrest
    have frW := (frH.mono l2).wipe own
    refine ⟨ex0, _, ex', d, frW, a, ?_⟩
    -- steps on from a state (H3, ex3) behind the turn's work
    have on : ∀ {Ha Hb : Hp} {exa exb : Own}, Le Ha exa Hb exb → Ha Dl = some (.lst acc) → exa Dl → Hb Dl = some (.lst acc) ∧ exb Dl := fun {Ha Hb exa exb} l hA xA => ⟨l.same _ _ hA, l.keep _ xA⟩
    have lay : ∀ {Hb : Hp} {exb : Own}, Le H' ex' Hb exb → Le (upd H1 Dl (.lst [])) (plus ex1 Dl) (upd Hb Dl (.lst [])) exb := fun {Hb exb} l => by
      refine l'.trans ⟨fun b o e => ?_, l.keep, fun b z => ?_⟩
      · by_cases hb : b = Dl
        · subst hb
          rw [upd_same] at e ⊢
          exact e
        · rw [upd_ne hb] at e ⊢
          exact l.same b o e
      · rcases l.new b z with z1 | ⟨z1, o, z2⟩
        · exact .inl z1
        · have hb : b ≠ Dl := fun e => by rw [e, hDl] at z1; cases z1
          exact .inr ⟨by rw [upd_ne hb]; exact z1, o, by rw [upd_ne hb]; exact z2⟩
    cases hh : h d (wipeR ρ own) with
    | exc c => rw [hh] at hrest; cases hrest
    | bad => rw [hh] at hrest; cases hrest
    | ok ρ1 =>
    rw [hh] at hrest
    dsimp only at hrest
    intro σ1 fr1' w1
    refine ⟨(w1 own hv).trans wipe_idem, ex0, ρ1, ex', fr1', ?_⟩
    cases ht : tst ρ1 with
    | exc c => rw [ht] at hrest; cases hrest
    | bad => rw [ht] at hrest; cases hrest
    | ok b =>
    rw [ht] at hrest
    dsimp only at hrest
    intro H3 ex3 l3
    cases b with
    | false =>
      rw [if_neg Bool.false_ne_true] at hrest ⊢
      have lt := l2.trans l3
      have k := on lt hDl exD
      refine ⟨ex3, done, rest, acc, lay lt, k.2, k.1, ha.mono lt.cuts, by omega, ?_, hsum⟩
      split at hrest
      · rename_i es' e'
        cases hrest
        exact e'
      · cases hrest
    | true =>
      rw [if_pos rfl] at hrest ⊢
      refine ⟨ex0, ρ1, ex3, fr1'.mono l3, ?_⟩
      cases hf : fe ρ1 with
      | exc c => rw [hf] at hrest; cases hrest
      | bad => rw [hf] at hrest; cases hrest
      | ok e1 =>
      rw [hf] at hrest
      dsimp only at hrest
      intro v H4 ex4 fp l4 r4 _ _
      have lt := (l2.trans l3).trans l4
      have k := on lt hDl exD
      split at hrest
      · rename_i es' e'
        cases hrest
        have hlen : acc.length < sizeLine := by
          have h1 := ha.length
          omega
        refine ⟨acc, k.1, hlen, ex4, done ++ [e1], es', acc ++ [v], ?_, k.2, upd_same, ?_, by rw [List.length_append, List.length_singleton]; omega, e', by rw [hsum, List.append_assoc]; rfl⟩
        · rw [upd_upd]
          exact lay lt
        · have mm : Same (cut H4 ex4) (cut (upd H4 Dl (.lst (acc ++ [v]))) ex4) := fun b o e => by
            obtain ⟨n1, e1⟩ := of_cut e
            have hb : b ≠ Dl := fun z => n1 (z ▸ k.2)
            exact cut_of n1 (by rw [upd_ne hb]; exact e1)
          exact ((ha.mono lt.cuts).append (.cons (rep_fz r4) .nil)).mono mm
      · cases hrest
  · rintro H' ⟨ex', done, rest, acc, l', exD, hDl, ha, hdl, hrest, hsum⟩
    rw [List.drop_length] at hrest
    cases hrest
    rw [List.append_nil] at hsum
    subst hsum
    have hza : acc.length ≤ sizeLine := by
      have h1 := ha.length
      omega
    have n1 : ∀ b o, H1 b = some o → b ≠ Dl := fun b o e z => by rw [z, hD] at e; cases e
    refine q (.ref Dl) H' ex' [Dl] ⟨fun b o e => ?_, fun b z => l'.keep b (.inl (l1.keep b z)), fun b z => ?_⟩ (.own exD hDl hza ?_) (by simp) fun a z => ?_
    · have e1 := l1.same b o e
      have hb := n1 b o e1
      have e2 := l'.same b o (by rw [upd_ne hb]; exact e1)
      rw [upd_ne hb] at e2
      exact e2
    · by_cases hb : b = Dl
      · subst hb
        exact .inr ⟨l1.same.free hD, _, hDl⟩
      · rcases l'.new b z with (z1 | z1) | ⟨z1, o, z2⟩
        · rcases l1.new b z1 with z3 | ⟨z3, o, z4⟩
          · exact .inl z3
          · have e2 := l'.same b o (by rw [upd_ne hb]; exact z4)
            rw [upd_ne hb] at e2
            exact .inr ⟨z3, o, e2⟩
        · exact absurd z1 hb
        · rw [upd_ne hb] at z1 z2
          exact .inr ⟨l1.same.free z1, o, z2⟩
    · exact ha.reps
    · have z : a = Dl := by simpa using z
      subst z
      exact fun x => nD (l1.keep _ x)
/-- a comprehension -/
theorem de_lc {elt iter : Expr} {ifs : List Expr} {scope : Scope} (own : List (Str × Nat)) {vs : List Nat} {fi : Env → R (List D)} {h : D → Env → R Env} {tst : Env → R Bool} {fe : Env → R D} (hc : X.calm = true) (hN : X.N.Nodup) (ok : blkC X.N X.env.scope scope own = true)
    (hi : DJ X ad w G tg iter fi) (hg : InBlk X scope fun Y => DG Y ad G tg vs h) (ht : InBlk X scope fun Y => DTs Y ad w0 G ifs tst) (he : InBlk X scope fun Y => DE Y ad w0 G elt .fz fe) (hv : ∀ i ∈ vs, i ∈ own.map (·.2) := by decide) (hs : ∀ x, foldedSetIterable iter X.env x = pure x := by intro _; rfl) :
    DE X ad w G (.ListComp elt [⟨tg, iter, ifs, 0⟩] scope pos) (.own .fz) (dLc (own.map (·.2)) fi h tst fe) := by
  obtain ⟨wi, pi, ki⟩ := hi
  refine ⟨_, pe_lc (own := own) (g := cG X.K ad G vs h) (tt := cT X.K ad G tst) (te := cE X.K ad G .fz fe) hc hN pi (blkOk_by ok) (fun s H C cl fp => ?_) (fun s H C cl fp => ?_) (fun s H C cl fp => ?_) hs, lc_run (ex0 := fun _ => True) hv ki⟩
  · obtain ⟨t, p, k⟩ := hg s H C cl fp
    exact pg_up p fun v σ H Q ⟨ex0, ρ, ex, d, f, a, q⟩ => k ex0 ρ σ H ex d v Q f a q
  · obtain ⟨t, p, k⟩ := ht s H C cl fp
    exact pts_up p fun σ H Q ⟨ex0, ρ, ex, f, q⟩ => k ex0 ρ σ H ex Q f (sat_f q)
  · obtain ⟨t, p, k⟩ := he s H C cl fp
    exact pe_up p fun σ H Q ⟨ex0, ρ, ex, f, q⟩ => k ex0 ρ σ H ex Q f (sat_f q)
/-- y = a comprehension, on one line -/
theorem sd_setLc (i : Nat) {y : Str} {py : Pos} {spos : Pos} {elt iter : Expr} {ifs : List Expr} {scope : Scope} (own : List (Str × Nat)) {vs : List Nat} {fi : Env → R (List D)} {h : D → Env → R Env} {tst : Env → R Bool} {fe : Env → R D} (hc : X.calm = true) (hN : X.N.Nodup) (ok : blkC X.N X.env.scope scope own = true)
    (hi : DJ X ad w G tg iter fi) (hg : InBlk X scope fun Y => DG Y ad G tg vs h) (ht : InBlk X scope fun Y => DTs Y ad w0 G ifs tst) (he : InBlk X scope fun Y => DE Y ad w0 G elt .fz fe) (hsw : swapsWith (.ListComp elt [⟨tg, iter, ifs, 0⟩] scope pos) (some (.Name y py)) spos.line X.env = pure true)
    (hy : X.N[i]? = some y := by rfl) (hyl : X.env.scope.names.lookup y = some .local := by rfl) (hsh : sh G i = .own .fz := by rfl) (hv : ∀ i ∈ vs, i ∈ own.map (·.2) := by decide) (hs : ∀ x, foldedSetIterable iter X.env x = pure x := by intro _; rfl) :
    SD X ad w rs G (.Assign [.Name y py] (.ListComp elt [⟨tg, iter, ifs, 0⟩] scope pos) spos) (oSet i (dLc (own.map (·.2)) fi h tst fe)) := by
  obtain ⟨wi, pi, ki⟩ := hi
  refine ⟨_, ps_setLc (own := own) (g := cG X.K ad G vs h) (tt := cT X.K ad G tst) (te := cE X.K ad G .fz fe) hc hN hy hyl hsw pi (blkOk_by ok) (fun s H C cl fp => ?_) (fun s H C cl fp => ?_) (fun s H C cl fp => ?_) hs, fun H0 ex0 ρ σ H ex De l f q => ?_⟩
  · obtain ⟨t, p, k⟩ := hg s H C cl fp
    exact pg_up p fun v σ H Q ⟨ex0, ρ, ex, d, f, a, q⟩ => k ex0 ρ σ H ex d v Q f a q
  · obtain ⟨t, p, k⟩ := ht s H C cl fp
    exact pts_up p fun σ H Q ⟨ex0, ρ, ex, f, q⟩ => k ex0 ρ σ H ex Q f (sat_f q)
  · obtain ⟨t, p, k⟩ := he s H C cl fp
    exact pe_up p fun σ H Q ⟨ex0, ρ, ex, f, q⟩ => k ex0 ρ σ H ex Q f (sat_f q)
  · refine lc_run (ex0 := fun _ => True) hv ki ex0 ρ σ H ex _ f (sat_then l f q fun d q => ?_)
    intro v H' ex' fp l' r nd nw
    exact q (σ.set i (some v)) H' ex' (l.trans l') l'.cuts (f.setN l' (by rw [hsh]; exact r) nd nw fun a z zz => nw a z (l.keep a zz))
/-- .. given away -/
theorem sd_setLcF (i : Nat) {y : Str} {py : Pos} {spos : Pos} {elt iter : Expr} {ifs : List Expr} {scope : Scope} (own : List (Str × Nat)) {vs : List Nat} {fi : Env → R (List D)} {h : D → Env → R Env} {tst : Env → R Bool} {fe : Env → R D} (hc : X.calm = true) (hN : X.N.Nodup) (ok : blkC X.N X.env.scope scope own = true)
    (hi : DJ X ad w G tg iter fi) (hg : InBlk X scope fun Y => DG Y ad G tg vs h) (ht : InBlk X scope fun Y => DTs Y ad w0 G ifs tst) (he : InBlk X scope fun Y => DE Y ad w0 G elt .fz fe) (hsw : swapsWith (.ListComp elt [⟨tg, iter, ifs, 0⟩] scope pos) (some (.Name y py)) spos.line X.env = pure true)
    (hy : X.N[i]? = some y := by rfl) (hyl : X.env.scope.names.lookup y = some .local := by rfl) (hsh : sh G i = .fz := by rfl) (hv : ∀ i ∈ vs, i ∈ own.map (·.2) := by decide) (hs : ∀ x, foldedSetIterable iter X.env x = pure x := by intro _; rfl) :
    SD X ad w rs G (.Assign [.Name y py] (.ListComp elt [⟨tg, iter, ifs, 0⟩] scope pos) spos) (oSet i (dLc (own.map (·.2)) fi h tst fe)) := by
  obtain ⟨wi, pi, ki⟩ := hi
  refine ⟨_, ps_setLc (own := own) (g := cG X.K ad G vs h) (tt := cT X.K ad G tst) (te := cE X.K ad G .fz fe) hc hN hy hyl hsw pi (blkOk_by ok) (fun s H C cl fp => ?_) (fun s H C cl fp => ?_) (fun s H C cl fp => ?_) hs, fun H0 ex0 ρ σ H ex De l f q => ?_⟩
  · obtain ⟨t, p, k⟩ := hg s H C cl fp
    exact pg_up p fun v σ H Q ⟨ex0, ρ, ex, d, f, a, q⟩ => k ex0 ρ σ H ex d v Q f a q
  · obtain ⟨t, p, k⟩ := ht s H C cl fp
    exact pts_up p fun σ H Q ⟨ex0, ρ, ex, f, q⟩ => k ex0 ρ σ H ex Q f (sat_f q)
  · obtain ⟨t, p, k⟩ := he s H C cl fp
    exact pe_up p fun σ H Q ⟨ex0, ρ, ex, f, q⟩ => k ex0 ρ σ H ex Q f (sat_f q)
  · refine lc_run (ex0 := fun _ => True) hv ki ex0 ρ σ H ex _ f (sat_then l f q fun d q => ?_)
    intro v H' ex' fp l' r nd nw
    have l2 : Le H ex H' (less ex' fp) := ⟨l'.same, fun b z => ⟨l'.keep b z, fun m => nw b m z⟩, fun b z => l'.new b z.1⟩
    exact q (σ.set i (some v)) H' (less ex' fp) (l.trans l2) l2.cuts ((f.mono l2).setF hsh r.freeze)
end
end DL

set_option Elab.async false
set_option linter.all false
set_option maxRecDepth 100000
set_option maxHeartbeats 4000000
set_option autoImplicit false
/-! DL5: lists of one's own that change; calls; defs. -/
namespace DL
open PySem PySem.Spec PyProof.Rows L2

section
variable {K : PySem.W.Frag} {ad : Adr} {G : Shs} {ex0 ex : Own} {ρ : Env} {σ : L2.St} {H H0 : Hp}
/-- a list of one's own: where it stands, and how it is written -/
theorem Fra.own (f : Fra K ad G ex0 ρ σ H ex) {i : Nat} {d : D} (e : ρ[i]? = some (some d)) (g : sh G i = .own .fz) (nf : flat d = false := by rfl) :
    ∃ a vs ds, d = .lst ds ∧ σ[i]? = some (some (.ref a)) ∧ ex a ∧ ¬ ex0 a ∧ H a = some (.lst vs) ∧ vs.length ≤ sizeLine ∧ Ats K ad (cut H ex) ds vs ∧
      ∀ ds' vs', vs'.length ≤ sizeLine → Ats K ad (cut H ex) ds' vs' → Fra K ad G ex0 (ρ.set i (some (.lst ds'))) σ (upd H a (.lst vs')) ex := by
  obtain ⟨fps, h1, h2, h3, h4⟩ := f.slots
  obtain ⟨v, e1, r⟩ := h1 i d e
  rw [g] at r
  generalize hfp : fps i = fp at r
  cases r with
  | flt z _ => rw [nf] at z; cases z
  | @own _ ds a vs fp' hex hH hz hs =>
    obtain ⟨e2, hA⟩ := hs.fzs
    subst e2
    have ha : a ∈ fps i := by rw [hfp]; exact List.mem_cons_self
    refine ⟨a, vs, ds, rfl, e1, hex, (h4 i a ha).2, hH, hz, hA, fun ds' vs' hz' hA' => ?_⟩
    have m : Same (cut H ex) (cut (upd H a (.lst vs')) ex) := fun b o q => by
      obtain ⟨n, q⟩ := of_cut q
      exact cut_of n (by rw [upd_ne (fun (z : b = a) => n (by rw [z]; exact hex))]; exact q)
    have hi : i < ρ.length := (List.getElem?_eq_some_iff.mp e).1
    refine ⟨by rw [List.length_set, f.len], fun b z => ?_, fps, fun j d' ej => ?_, h2, h3, h4⟩
    · by_cases hb : b = a
      · subst hb
        exact ⟨_, upd_same⟩
      · rw [upd_ne hb]
        exact f.exok b z
    · by_cases hj : j = i
      · subst hj
        rw [List.getElem?_set_self hi] at ej
        cases ej
        refine ⟨_, e1, ?_⟩
        rw [g, hfp]
        exact .own hex upd_same hz' (hA'.mono m).reps
      · rw [List.getElem?_set_ne (Ne.symm hj)] at ej
        obtain ⟨v', e2, r'⟩ := h1 j d' ej
        refine ⟨v', e2, r'.keep m fun b z => ⟨(h4 j b z).1, upd_ne fun q => ?_⟩⟩
        subst q
        exact h3 j i b hj z ha
theorem own_le {a : Addr} {o : HO} (l : Le H0 ex0 H ex) (h : ex a) (n : ¬ ex0 a) : Le H0 ex0 (upd H a o) ex := by
  have h0 : H0 a = none := by
    rcases l.new a h with z | z
    · exact absurd z n
    · exact z.1
  refine ⟨fun b u e => ?_, l.keep, fun b z => ?_⟩
  · rw [upd_ne (ne_of_none e h0)]
    exact l.same b u e
  · rcases l.new b z with z | ⟨z1, u, z2⟩
    · exact .inl z
    · by_cases hb : b = a
      · subst hb
        exact .inr ⟨z1, _, upd_same⟩
      · exact .inr ⟨z1, u, by rw [upd_ne hb]; exact z2⟩
theorem own_mo {a : Addr} {o : HO} (h : ex a) : Mo H ex (upd H a o) ex := fun b u q => by
  obtain ⟨n, q⟩ := of_cut q
  exact cut_of n (by rw [upd_ne (fun (z : b = a) => n (by rw [z]; exact h))]; exact q)
end

section
variable {X : Cx} {ad : Adr} {w : Wi} {rs : Sh} {G G' : Shs} {pos : Pos} {tg : Expr}
def isL : D → R (List D)
  | .lst ds => .ok ds
  | _ => .bad
/-- a method of the list at slot i, called for what it changes: by the list ahead and the argument's data the list behind -/
def oMut (i : Nat) (o : List D → List D → R (List D)) (f : Env → R (List D)) : Env → Out := fun ρ => match (dV i ρ).bind isL with
  | .ok xs => (f ρ).then ρ fun ds => match o xs ds with
    | .ok ys => .nx (ρ.set i (some (.lst ys)))
    | _ => .bad
  | _ => .bad
/-- such a method by values -/
def DMt (X : Cx) (ad : Adr) (id : String) (o : List D → List D → R (List D)) : Prop :=
  ∃ r, MtR X id r ∧ ∀ a vs us xs ds H ex Q, H a = some (.lst vs) → ex a → vs.length ≤ sizeLine → Ats X.K ad (cut H ex) xs vs → Ats X.K ad (cut H ex) ds us → Sat (o xs ds) (fun ys => ∀ vs' v, vs'.length ≤ sizeLine → Ats X.K ad (cut H ex) ys vs' → Q v (upd H a (.lst vs'))) (fun _ => False) → r (.ref a) us H Q
theorem slot_own {i : Nat} {ρ : Env} {xs : List D} (h : (dV i ρ).bind isL = .ok xs) : ρ[i]? = some (some (.lst xs)) := by
  unfold dV at h
  split at h
  · rename_i d e
    rw [e]
    cases d <;> first | (cases h; rfl) | cases h
  · cases h
theorem sd_mut (i : Nat) {x : Str} {p1 apos cpos : Pos} {name : Str} {id : String} {e : Expr} {es : List Expr} {f : Env → R (List D)} {o : List D → List D → R (List D)} (hm : DMt X ad id o) (slot : Slot "list" name id) (hty : typeOf (.builtin id) = pure (.type "method_descriptor")) (ha : DA X ad w G (e :: es) f)
    (hN : X.N[i]? = some x := by rfl) (hg : sh G i = .own .fz := by rfl) (hv : Vis X.env.scope x := by first | exact Or.inl rfl | exact Or.inr (Or.inl rfl) | exact Or.inr (Or.inr rfl)) (hd : (x == ("__debug__" : Str)) = false := by decide) (hcd : (x == ("__classdict__" : Str)) = false := by decide)
    (hbase : attributeBase (.Name x p1) name X.env (eval (.Name x p1) X.env) = eval (.Name x p1) X.env := by rfl)
    (hfew : ((backTo cpos (starEach (e :: es) X.env)).all (fun x => !x.1) && (backToKw cpos (keywordEach [] X.env)).all (fun x => x.1.isSome)
      && decide ((e :: es).length + ([] : List Keyword).length + (if ([] : List Keyword).isEmpty then 0 else 1) < 30)) = true := by rfl)
    (hline : (apos.endLine == cpos.line) = true := by rfl) (hs : starEach (e :: es) X.env = (false, eval e X.env) :: starEach es X.env := by rfl) (hplain : (backTo cpos (starEach es X.env)).any (·.1) = false := by rfl)
    (hsw : swapsWith (.Call (.Attribute (.Name x p1) name apos) (e :: es) [] cpos) none pos.line X.env = pure false := by rfl) :
    SD X ad w rs G (.Expr (.Call (.Attribute (.Name x p1) name apos) (e :: es) [] cpos) pos) (oMut i o f) := by
  obtain ⟨r, mr, kr⟩ := hm
  obtain ⟨t, pa, k⟩ := ha
  refine ⟨_, ps_expr (pe_bm PySem.F.plainAttrs_list slot hty mr (pe_var hN hv hd hcd) pa hbase hfew hline hs hplain) hsw, fun H0 ex0 ρ σ H ex De l f q => ?_⟩
  unfold oMut at q
  cases e1 : (dV i ρ).bind isL with
  | exc c => rw [e1] at q; exact q.elim
  | bad => rw [e1] at q; exact q.elim
  | ok xs =>
  rw [e1] at q
  have er := slot_own e1
  obtain ⟨a, vs, ds, ed, eσ, hex, hn, hH, hz, hA, _⟩ := f.own er hg
  cases ed
  refine ⟨_, eσ, .inl ⟨rfl, _, SqL.of hH⟩, ?_⟩
  refine k ex0 ρ σ H ex _ f (sat_then l f q fun ds q => ?_)
  intro us H2 ex2 l2 hA2
  have f2 := f.mono l2
  obtain ⟨a', vs', ds', ed, eσ', hex', hn', hH', hz', hA', wr⟩ := f2.own er hg
  cases ed
  rw [eσ] at eσ'
  cases eσ'
  refine kr a vs' us xs ds H2 ex2 _ hH' hex' hz' hA' hA2 ?_
  cases ho : o xs ds with
  | exc c => rw [ho] at q; exact q
  | bad => rw [ho] at q; exact q
  | ok ys =>
    rw [ho] at q
    intro vs2 v hz2 hA3
    exact q σ _ ex2 (own_le (l.trans l2) hex' hn') (l2.cuts.trans (own_mo hex')) (wr ys vs2 hz2 hA3)
/-- .. without arguments -/
theorem sd_mut0 (i : Nat) {x : Str} {p1 apos cpos : Pos} {name : Str} {id : String} {o : List D → List D → R (List D)} (hm : DMt X ad id o) (slot : Slot "list" name id) (hty : typeOf (.builtin id) = pure (.type "method_descriptor"))
    (hN : X.N[i]? = some x := by rfl) (hg : sh G i = .own .fz := by rfl) (hv : Vis X.env.scope x := by first | exact Or.inl rfl | exact Or.inr (Or.inl rfl) | exact Or.inr (Or.inr rfl)) (hd : (x == ("__debug__" : Str)) = false := by decide) (hcd : (x == ("__classdict__" : Str)) = false := by decide)
    (hbase : attributeBase (.Name x p1) name X.env (eval (.Name x p1) X.env) = eval (.Name x p1) X.env := by rfl) (hline : (apos.endLine == cpos.line) = true := by rfl)
    (hsw : swapsWith (.Call (.Attribute (.Name x p1) name apos) [] [] cpos) none pos.line X.env = pure false := by rfl) :
    SD X ad w rs G (.Expr (.Call (.Attribute (.Name x p1) name apos) [] [] cpos) pos) (oMut i o dNil) := by
  obtain ⟨r, mr, kr⟩ := hm
  refine ⟨_, ps_expr (pe_bm0 PySem.F.plainAttrs_list slot hty mr (pe_var hN hv hd hcd) hbase hline) hsw, fun H0 ex0 ρ σ H ex De l f q => ?_⟩
  unfold oMut at q
  cases e1 : (dV i ρ).bind isL with
  | exc c => rw [e1] at q; exact q.elim
  | bad => rw [e1] at q; exact q.elim
  | ok xs =>
  rw [e1] at q
  have er := slot_own e1
  obtain ⟨a, vs, ds, ed, eσ, hex, hn, hH, hz, hA, wr⟩ := f.own er hg
  cases ed
  refine ⟨_, eσ, .inl ⟨rfl, _, SqL.of hH⟩, ?_⟩
  refine kr a vs [] xs [] H ex _ hH hex hz hA .nil ?_
  dsimp only [dNil, then_ok] at q
  cases ho : o xs [] with
  | exc c => rw [ho] at q; exact q
  | bad => rw [ho] at q; exact q
  | ok ys =>
    rw [ho] at q
    intro vs2 v hz2 hA3
    exact q σ _ ex (own_le l hex hn) (own_mo hex) (wr ys vs2 hz2 hA3)
def mAppend (xs ds : List D) : R (List D) := match ds with
  | [d] => if xs.length < 16777216 then .ok (xs ++ [d]) else .bad
  | _ => .bad
theorem dmt_append : DMt X ad "list.append" mAppend := by
  refine ⟨_, mt_append, fun a vs us xs ds H ex Q hH hex hz hA hB q => ?_⟩
  unfold mAppend at q
  split at q
  · rename_i d
    obtain ⟨v, rfl, a1⟩ := hB.one
    split at q
    · rename_i hl
      rw [hA.length] at hl
      refine ⟨a, vs, v, rfl, rfl, hH, by rw [sizeLine_eq]; exact hl, q _ _ ?_ (hA.append (.cons a1 .nil))⟩
      rw [List.length_append, List.length_singleton, sizeLine_eq]
      exact hl
    · exact q.elim
  · exact q.elim
def mPop (xs ds : List D) : R (List D) := match ds with
  | [] => if xs.length = 0 then .bad else .ok xs.dropLast
  | _ => .bad
theorem Ats.dropLast {K : PySem.W.Frag} {H : Hp} {ds : List D} {vs : List V} (h : Ats K ad H ds vs) : Ats K ad H ds.dropLast vs.dropLast := by
  rw [List.dropLast_eq_take, List.dropLast_eq_take, h.length]
  exact h.take _
theorem dmt_pop : DMt X ad "list.pop" mPop := by
  refine ⟨_, mt_pop, fun a vs us xs ds H ex Q hH hex hz hA hB q => ?_⟩
  unfold mPop at q
  split at q
  · cases hB
    split at q
    · exact q.elim
    · rename_i hl
      have hl' : vs.length - 1 < vs.length := by
        have := hA.length
        omega
      exact ⟨a, vs, vs[vs.length - 1], rfl, rfl, hH, List.getElem?_eq_getElem hl', q _ _ (by rw [List.length_dropLast]; omega) hA.dropLast⟩
  · exact q.elim
def mClear (_ : List D) (ds : List D) : R (List D) := match ds with
  | [] => .ok []
  | _ => .bad
theorem dmt_clear : DMt X ad "list.clear" mClear := by
  refine ⟨_, mt_clear, fun a vs us xs ds H ex Q hH hex hz hA hB q => ?_⟩
  unfold mClear at q
  split at q
  · cases hB
    exact ⟨a, vs, rfl, rfl, hH, q [] _ (Nat.zero_le _) .nil⟩
  · exact q.elim
def mInsert (xs ds : List D) : R (List D) := match ds with
  | [.int i, d] => if xs.length < 16777216 ∧ 0 ≤ i ∧ i ≤ 16777216 then .ok (xs.take i.toNat ++ [d] ++ xs.drop i.toNat) else .bad
  | _ => .bad
theorem dmt_insert : DMt X ad "list.insert" mInsert := by
  refine ⟨_, mt_insert, fun a vs us xs ds H ex Q hH hex hz hA hB q => ?_⟩
  unfold mInsert at q
  split at q
  · rename_i i d
    obtain ⟨u, v, rfl, a1, a2⟩ := hB.two
    cases a1
    split at q
    · rename_i hl
      rw [hA.length] at hl
      have h3 : (i : Int) < 2 ^ 63 := by have := hl.2.2; omega
      refine ⟨a, vs, i, v, rfl, rfl, hH, by rw [sizeLine_eq]; exact hl.1, hl.2.1, h3, q _ _ ?_ (((hA.take _).append (.cons a2 .nil)).append (hA.drop _))⟩
      rw [List.length_append, List.length_append, List.length_take, List.length_drop, List.length_singleton, sizeLine_eq]
      have := hl.1
      omega
    · exact q.elim
  · exact q.elim
theorem ixN_nat {n : Nat} {k : Int} (h0 : 0 ≤ k) (h : k < n) : ixN n k = some k.toNat := by
  unfold ixN
  rw [if_pos h0, if_pos (by omega)]
def mPopAt (xs ds : List D) : R (List D) := match ds with
  | [.int i] => if 0 ≤ i ∧ i < xs.length then .ok (xs.eraseIdx i.toNat) else .bad
  | _ => .bad
theorem Ats.eraseIdx {K : PySem.W.Frag} {H : Hp} : ∀ {ds : List D} {vs : List V} (n : Nat), Ats K ad H ds vs → Ats K ad H (ds.eraseIdx n) (vs.eraseIdx n)
  | _, _, _, .nil => .nil
  | _, _, 0, .cons _ hs => hs
  | _, _, n + 1, .cons h hs => .cons h (Ats.eraseIdx n hs)
theorem dmt_popAt : DMt X ad "list.pop" mPopAt := by
  refine ⟨_, mt_popAt, fun a vs us xs ds H ex Q hH hex hz hA hB q => ?_⟩
  unfold mPopAt at q
  split at q
  · rename_i i
    obtain ⟨u, rfl, a1⟩ := hB.one
    cases a1
    split at q
    · rename_i hl
      rw [hA.length] at hl
      have hi : i.toNat < vs.length := by omega
      have hz' : vs.length ≤ 16777216 := by rw [← sizeLine_eq]; exact hz
      have h1 := (ixN_seq (ixN_nat hl.1 hl.2)).1
      refine ⟨a, vs, i, i.toNat, vs[i.toNat], rfl, rfl, hH, by omega, by omega, h1, List.getElem?_eq_getElem hi, ?_⟩
      exact q _ _ (by rw [List.length_eraseIdx]; split <;> omega) (hA.eraseIdx _)
    · exact q.elim
  · exact q.elim
def mExtend (xs ds : List D) : R (List D) := match ds with
  | [.lst es] => if xs.length + es.length ≤ 16777216 then .ok (xs ++ es) else .bad
  | _ => .bad
/-! ### x[i] = e -/
def oSetItem (i : Nat) (fk : Env → R D) (f : Env → R D) : Env → Out := fun ρ => (f ρ).then ρ fun d => match (dV i ρ).bind isL with
  | .ok xs => (fk ρ).then ρ fun k => match k with
    | .int k => if 0 ≤ k ∧ k < xs.length then .nx (ρ.set i (some (.lst (xs.set k.toNat d)))) else .bad
    | _ => .bad
  | _ => .bad
theorem sd_setItem (i : Nat) {x : Str} {p1 p2 : Pos} {ke e : Expr} {fk f : Env → R D} (he : DE X ad w G e .fz f) (hk : DE X ad w G ke .fz fk) (hN : X.N[i]? = some x := by rfl) (hg : sh G i = .own .fz := by rfl) (hv : Vis X.env.scope x := by first | exact Or.inl rfl | exact Or.inr (Or.inl rfl) | exact Or.inr (Or.inr rfl)) (hd : (x == ("__debug__" : Str)) = false := by decide) (hcd : (x == ("__classdict__" : Str)) = false := by decide)
    (ha : ∀ v, assign (.Subscript (.Name x p1) ke p2) X.env v = (do
      let ov ← holding [v] (eval (.Name x p1) X.env)
      let iv ← holding [v, ov] (eval ke X.env)
      standAt p2
      holding [v, ov, iv] (setItem ov iv v)
      release [v, ov, iv] []) := by intro _; rfl)
    (hs : swapsWithSole [.Subscript (.Name x p1) ke p2] e pos.line X.env = pure false := by rfl) (hw : swappedStores [.Subscript (.Name x p1) ke p2] e X.env = pure none := by rfl)
    (h1 : (assignEach [.Subscript (.Name x p1) ke p2] X.env).map (·.2) = [assign (.Subscript (.Name x p1) ke p2) X.env] := by rfl) :
    SD X ad w rs G (.Assign [.Subscript (.Name x p1) ke p2] e pos) (oSetItem i fk f) := by
  obtain ⟨t, p, k⟩ := he
  obtain ⟨tk, pk, kk⟩ := hk
  refine ⟨_, ps_asg p (pg_sub (pe_var hN hv hd hcd) pk set_list ha) hs hw h1, fun H0 ex0 ρ σ H ex De l f q => ?_⟩
  refine k ex0 ρ σ H ex _ f (sat_then l f q fun d q => ?_)
  intro v H1 ex1 fp l1 r nd nw
  have a1 := rep_fz r
  have f1 := f.mono l1
  have lt1 := l.trans l1
  have q := q.from l1.cuts
  cases e1 : (dV i ρ).bind isL with
  | exc c => rw [e1] at q; exact q.elim
  | bad => rw [e1] at q; exact q.elim
  | ok xs =>
  rw [e1] at q
  have er := slot_own e1
  obtain ⟨a, vs, ds, ed, eσ, hex, hn, hH, hz, hA, _⟩ := f1.own er hg
  cases ed
  refine ⟨_, eσ, ?_⟩
  refine kk ex0 ρ σ H1 ex1 _ f1 (sat_then lt1 f1 q fun kd q => ?_)
  intro kv H2 ex2 fp2 l2 r2 _ _
  have a2 := rep_fz r2
  cases a2 with
  | int kz =>
    dsimp only at q
    split at q
    · rename_i hk
      have f2 := f1.mono l2
      obtain ⟨a', vs', ds', ed, eσ', hex', hn', hH', hz', hA', wr⟩ := f2.own er hg
      cases ed
      rw [eσ] at eσ'
      cases eσ'
      rw [hA'.length] at hk
      refine ⟨a, vs', kz, kz.toNat, rfl, rfl, hH', ixN_nat hk.1 hk.2, ?_⟩
      exact q σ _ ex2 (own_le (lt1.trans l2) hex' hn') (l2.cuts.trans (own_mo hex')) (wr _ _ (by rw [List.length_set]; exact hz') (hA'.set (a1.mono l2.cuts) _))
    · exact q.elim
  | _ => exact q.elim

/-! ### calls of defs -/
/-- a def over data -/
def spD (K : PySem.W.Frag) (ad : Adr) (n : Nat) (rs : Sh) (F : List D → R D) : Sp := fun vs H Q E => vs.length = n ∧ ∃ ex ds, (∀ b, ex b → ∃ o, H b = some o) ∧ Ats K ad (cut H ex) ds vs ∧
  Sat (F ds) (Post K ad H ex rs Q) (fun c => ∀ H', Same H H' → E (.ref (ad c)) none H')
/-- the def x of the module computes F -/
structure Cal (P : Program) (wd : World) (K : PySem.W.Frag) (mg : Str → Option Value) (base : Heap) (ad : Adr) (k : Nat) (x : Str) (n : Nat) (rs : Sh) (F : List D → R D) : Prop where
  ex : ∃ f fd ps, FnOk P wd K mg base (L2.CX P wd) k f fd ps (spD K ad n rs F) ∧ mg x = some (.ref f) ∧ PySem.W.keepIn K (.ref f) = true ∧ Binds K fd ps []
/-- refusals are taken -/
def Tk (X : Cx) (ad : Adr) (w : Wi) : Prop := ∃ W, Takes X W ∧ ∀ c σ H, w c σ H → W (.ref (ad c)) none σ H
theorem tk0 : Tk X ad w0 := ⟨_, takes0, fun _ _ _ z => z⟩
def dCall (F : List D → R D) (f : Env → R (List D)) : Env → R D := fun ρ => (f ρ).bind F
theorem de_call {k j n : Nat} {x : Str} {p : Pos} {F : List D → R D} {e : Expr} {es : List Expr} {f : Env → R (List D)} {s : Sh} (c : Cal X.prog X.w X.K X.mg X.base ad k x n s F) (hr : Room j X.A) (hk : k ≤ j) (tk : Tk X ad w) (ha : DA X ad w G (e :: es) f) (hl : (e :: es).length = n := by rfl) (hg : Gl X x := by rfl)
    (hdb : (x == ("__debug__" : Str)) = false := by decide) (he : starEach (e :: es) X.env = (false, eval e X.env) :: starEach es X.env := by rfl) (hpl : (backTo pos (starEach es X.env)).any (·.1) = false := by rfl) (hn : ∀ ρ ds, f ρ = .ok ds → ds.length = n) :
    DE X ad w G (.Call (.Name x p) (e :: es) [] pos) s (dCall F f) := by
  obtain ⟨fa, fd, ps, F1, hm, hkp, hb⟩ := c.ex
  obtain ⟨W, hW, lk⟩ := tk
  obtain ⟨t, pa, ka⟩ := ha
  refine ⟨_, pe_callS F1 (hr.mono hk) hg hm hkp hb (fun σ => passAt hW σ) pa hdb he hpl, fun ex0 ρ σ H ex Q fr q => ?_⟩
  refine ka ex0 ρ σ H ex _ fr ?_
  unfold dCall at q
  rw [sat_bind] at q
  cases e1 : f ρ with
  | exc c => rw [e1] at q; exact q
  | bad => rw [e1] at q; exact q
  | ok ds =>
    rw [e1] at q
    intro vs H1 ex1 l a
    refine ⟨by rw [← a.length]; exact hn ρ ds e1, ex1, ds, (fr.mono l).exok, a, ?_⟩
    refine Sat.imp (show Sat (F ds) (Post X.K ad H ex s Q) (Exc w σ H ex) from q) (fun d q v H2 ex2 fp l2 r nd nw => ?_) fun c q H2 sm => ?_
    · exact q v H2 ex2 fp (l.trans l2) r nd fun a z zz => nw a z (l.keep a zz)
    · exact lk c σ H2 (q H2 ex1 (l.trans ⟨sm, fun _ z => z, fun _ z => .inl z⟩))
end
end DL

set_option Elab.async false
set_option linter.all false
set_option maxRecDepth 100000
set_option maxHeartbeats 4000000
set_option autoImplicit false
/-! DL6: a def over data; operators; built-in functions. -/
namespace DL
open PySem PySem.Spec PyProof.Rows L2

/-- a def's run: by its arguments' data; m more slots; z where it falls through -/
def runD (m : Nat) (z : R D) (g : Env → Out) : List D → R D := fun ds => match g (ds.map some ++ List.replicate m none) with
  | .nx _ => z
  | .rt d => .ok d
  | .xc e _ => .exc e
  | .bad => .bad
/-- the wish of a def's frame -/
abbrev wOf (ad : Adr) (E : XK) : Wi := fun c _ H => E (.ref (ad c)) none H
section
variable {P : Program} {wd : World} {K : PySem.W.Frag} {mg : Str → Option Value} {base : Heap} {ad : Adr}
theorem Ats.some_get {H : Hp} {ds : List D} {vs : List V} {m m' : Nat} (a : Ats K ad H ds vs) {i : Nat} {d : D} (e : (ds.map some ++ List.replicate m none)[i]? = some (some d)) : ∃ v, (vs.map some ++ List.replicate m' none)[i]? = some (some v) ∧ At K ad H d v := by
  have hi : i < ds.length := by
    by_cases hi : i < ds.length
    · exact hi
    · rw [List.getElem?_append_right (by simpa using hi), List.getElem?_replicate] at e
      split at e <;> cases e
  rw [List.getElem?_append_left (by simpa using hi), List.getElem?_map] at e
  obtain ⟨d', e1, e2⟩ := Option.map_eq_some_iff.mp e
  cases e2
  obtain ⟨v, e3, h⟩ := a.get e1
  refine ⟨v, ?_, h⟩
  rw [List.getElem?_append_left (by rw [List.length_map, ← a.length]; exact hi), List.getElem?_map, e3]
  rfl
theorem fn_mk {x : Str} {st : Stmt} {f : Addr} {fd : FuncData} {N ps : List Str} {k n : Nat} (m : Nat) {rs : Sh} (G : Shs) {G' : Shs} {z : R D} {g : Env → Out} (F : Fun K x x st f fd) (S : FnScope N ps (defScope st)) (hn : ps.length = n) (hN : N.length = n + m)
    (hz : z = .bad ∨ (z = .ok .non ∧ rs = .fz))
    (body : ∀ (cdv : Value) (A : Around) (outer : List PySem.Env) (s : Shared) (H : Hp) (E : XK), Room k (A.deeper (envOfC x (defScope st) s.heap.objs.size f cdv)) →
      Tk (cxOf (L2.CX P wd) P wd K mg base N x (defScope st) f cdv A outer s H E) ad (wOf ad E) → PassesOwn (model P wd) (A.deeper (envOfC x (defScope st) s.heap.objs.size f cdv)) (envOfC x (defScope st) s.heap.objs.size f cdv) (cxOf (L2.CX P wd) P wd K mg base N x (defScope st) f cdv A outer s H E).xe →
      SDs (cxOf (L2.CX P wd) P wd K mg base N x (defScope st) f cdv A outer s H E) ad (wOf ad E) rs G G' (defBody st) g)
    (hG : ((List.range n).all fun i => (G.lookup i).isNone) = true := by rfl) :
    FnOk P wd K mg base (L2.CX P wd) (k + 1) f fd ps (spD K ad n rs (runD m z g)) := by
  refine F.okX S (fun vs H Q E h => h.1.trans hn.symm) (fun cdv A outer s H vs Q E hr h => ?_)
  obtain ⟨hl, ex, ds, hex, ha, q⟩ := h
  obtain ⟨t, p, kk⟩ := body cdv A outer s H E hr ⟨fun cls d _ H => E cls d H, takes_of rfl rfl rfl rfl, fun c σ H h => h⟩ (passes_of rfl)
  refine ⟨t, p, ?_⟩
  have hpl : N.length - vs.length = m := by omega
  unfold L2.start
  rw [hpl]
  refine kk H ex (ds.map some ++ List.replicate m none) (vs.map some ++ List.replicate m none) H ex _ (Le.refl _ _) ⟨by simp [ha.length], hex, fun _ => [], fun i d e => ?_, fun _ => List.nodup_nil, fun _ _ _ _ z => absurd z (by simp), fun _ _ z => absurd z (by simp)⟩ ?_
  · obtain ⟨v, e1, h⟩ := ha.some_get (m' := m) e
    refine ⟨v, e1, ?_⟩
    have hi : i < n := by
      by_cases hi : i < ds.length
      · rw [← hl, ← ha.length]; exact hi
      · rw [List.getElem?_append_right (by simpa using hi), List.getElem?_replicate] at e
        split at e <;> cases e
    have hs : sh G i = .fz := by
      have := List.all_eq_true.mp hG i (List.mem_range.mpr hi)
      unfold sh
      cases e2 : G.lookup i with
      | none => rfl
      | some s => rw [e2] at this; cases this
    rw [hs]
    exact .fz h
  · unfold runD at q
    cases e : g (ds.map some ++ List.replicate m none) with
    | nx ρ1 =>
      rw [e] at q
      intro σ' H' ex' l _ _
      rcases hz with hz | ⟨hz, hr⟩
      · rw [hz] at q; exact q.elim
      · rw [hz] at q
        subst hr
        exact post_fz (d := .non) q l .non
    | rt d => rw [e] at q; exact fun v H' ex' fp l _ r nd nw => q v H' ex' fp l r nd nw
    | xc c ρ1 => rw [e] at q; exact fun σ' H' ex' l _ _ => q H' l.same
    | bad => rw [e] at q; exact q
theorem cal_mk {x : Str} {st : Stmt} {f : Addr} {fd : FuncData} {N ps : List Str} {k n : Nat} (m : Nat) {rs : Sh} (G : Shs) {G' : Shs} {z : R D} {g : Env → Out} (F : Fun K x x st f fd) (hm : mg x = some (.ref f)) (hb : Binds K fd ps []) (S : FnScope N ps (defScope st)) (hn : ps.length = n) (hN : N.length = n + m)
    (hz : z = .bad ∨ (z = .ok .non ∧ rs = .fz))
    (body : ∀ (cdv : Value) (A : Around) (outer : List PySem.Env) (s : Shared) (H : Hp) (E : XK), Room k (A.deeper (envOfC x (defScope st) s.heap.objs.size f cdv)) →
      Tk (cxOf (L2.CX P wd) P wd K mg base N x (defScope st) f cdv A outer s H E) ad (wOf ad E) → PassesOwn (model P wd) (A.deeper (envOfC x (defScope st) s.heap.objs.size f cdv)) (envOfC x (defScope st) s.heap.objs.size f cdv) (cxOf (L2.CX P wd) P wd K mg base N x (defScope st) f cdv A outer s H E).xe →
      SDs (cxOf (L2.CX P wd) P wd K mg base N x (defScope st) f cdv A outer s H E) ad (wOf ad E) rs G G' (defBody st) g)
    (hG : ((List.range n).all fun i => (G.lookup i).isNone) = true := by rfl) :
    Cal P wd K mg base ad (k + 1) x n rs (runD m z g) := ⟨f, fd, ps, fn_mk m G F S hn hN hz body hG, hm, F.kp, hb⟩
/-- .. with another function, where it tells something -/
theorem Cal.to {k n : Nat} {x : Str} {rs : Sh} {F F' : List D → R D} (c : Cal P wd K mg base ad k x n rs F) (h : ∀ ds, F' ds ≠ .bad → F ds = F' ds) : Cal P wd K mg base ad k x n rs F' := by
  obtain ⟨f, fd, ps, Fk, h1, h2, h3⟩ := c.ex
  refine ⟨f, fd, ps, Fk.imp fun vs H Q E ⟨hl, ex, ds, hex, ha, q⟩ => ⟨hl, ex, ds, hex, ha, ?_⟩, h1, h2, h3⟩
  rw [h ds]
  · exact q
  · intro z
    rw [z] at q
    exact q
theorem Cal.up {k k' n : Nat} {x : Str} {rs : Sh} {F : List D → R D} (c : Cal P wd K mg base ad k x n rs F) (h : k ≤ k') : Cal P wd K mg base ad k' x n rs F := by
  obtain ⟨f, fd, ps, Fk, h1, h2, h3⟩ := c.ex
  exact ⟨f, fd, ps, Fk.mono h, h1, h2, h3⟩
end

/-! ### operators -/
section
variable {X : Cx} {ad : Adr} {w : Wi} {G : Shs} {pos : Pos}
/-- ints by a rule -/
theorem dop_int {fn : Value → Value → Sem Value} {C : Int → Int → Prop} {g : Int → Int → Int} {c : Int → Int → Bool} (h : OpR X fn (rI C fun i j => .int (g i j))) (hc : ∀ i j, c i j = true → C i j) :
    DOp X ad fn .fz (fun d e => match d, e with | .int i, .int j => if c i j = true then .ok (.int (g i j)) else .bad | _, _ => .bad) := by
  refine ⟨_, h, fun x y d e H ex Q hx a b q => ?_⟩
  cases a <;> cases b <;> first | exact q.elim | skip
  rename_i i j
  dsimp only at q
  split at q
  · rename_i hh
    exact ⟨i, j, rfl, rfl, hc i j hh, post_fz q (Le.refl _ _) (.int _)⟩
  · exact q.elim
def oSub : D → D → R D
  | .int i, .int j => .ok (.int (i - j))
  | _, _ => .bad
theorem dop_sub : DOp X ad (binaryOp .Sub) .fz oSub := by
  refine ⟨_, op_sub, fun x y d e H ex Q hx a b q => ?_⟩
  cases a <;> cases b <;> first | exact q.elim | skip
  exact ⟨_, _, rfl, rfl, post_fz q (Le.refl _ _) (.int _)⟩
def oMod : D → D → R D
  | .int i, .int j => if 0 < j then .ok (.int (i % j)) else .bad
  | _, _ => .bad
theorem dop_mod : DOp X ad (binaryOp .Mod) .fz oMod := by
  refine ⟨_, op_mod, fun x y d e H ex Q hx a b q => ?_⟩
  cases a <;> cases b <;> first | exact q.elim | skip
  unfold oMod at q
  dsimp only at q
  split at q
  · rename_i hh
    exact ⟨_, _, rfl, rfl, hh, post_fz q (Le.refl _ _) (.int _)⟩
  · exact q.elim
def oDiv : D → D → R D
  | .int i, .int j => if 0 < j ∧ j.natAbs.log2 < 9000 then .ok (.int (i / j)) else .bad
  | _, _ => .bad
theorem dop_div : DOp X ad (binaryOp .FloorDiv) .fz oDiv := by
  refine ⟨_, op_fdivW, fun x y d e H ex Q hx a b q => ?_⟩
  cases a <;> cases b <;> first | exact q.elim | skip
  unfold oDiv at q
  dsimp only at q
  split at q
  · rename_i hh
    exact ⟨_, _, rfl, rfl, hh, post_fz q (Le.refl _ _) (.int _)⟩
  · exact q.elim
/-- an int by a def of the library: great powers -/
theorem op_powW : OpR X (binaryOp .Pow) (rI (fun i j => 0 ≤ j ∧ (Builtin.Int.intBits i : Int) * j ≤ 2 ^ 27) fun i j => .int (i ^ j.toNat)) := opI fun _ _ _ _ _ _ _ hc q => pow_int hc.1 hc.2 q
def oPow : D → D → R D
  | .int i, .int j => if 0 ≤ j ∧ (Builtin.Int.intBits i : Int) * j ≤ 2 ^ 27 then .ok (.int (i ^ j.toNat)) else .bad
  | _, _ => .bad
theorem dop_pow : DOp X ad (binaryOp .Pow) .fz oPow := by
  refine ⟨_, op_powW, fun x y d e H ex Q hx a b q => ?_⟩
  cases a <;> cases b <;> first | exact q.elim | skip
  unfold oPow at q
  dsimp only at q
  split at q
  · rename_i hh
    exact ⟨_, _, rfl, rfl, hh, post_fz q (Le.refl _ _) (.int _)⟩
  · exact q.elim
/-- list + list, wherever they stand -/
theorem op_catL : OpR X (binaryOp .Add) (fun x y H Q => ∃ l b xs zs, x = .ref l ∧ y = .ref b ∧ SqL X.K H l xs ∧ SqL X.K H b zs ∧ xs.length + zs.length ≤ sizeLine ∧ ∀ p, H p = none → Q (.ref p) (upd H p (.lst (xs ++ zs)))) := by
  intro pins s σ H x y v u Q I rx ry h
  obtain ⟨l, b, xs, zs, rfl, rfl, hH, hB, hz, q⟩ := h
  cases rx
  cases ry
  obtain ⟨its, r, ⟨⟨cls, dd, data, sl⟩, n, e, hc, hd, hs⟩, _⟩ := I.list hH
  obtain ⟨its2, r2, ⟨⟨cls2, dd2, data2, sl2⟩, n2, e2, hc2, hd2, hs2⟩, _⟩ := I.list hB
  simp only at hc hd hs hc2 hd2 hs2
  subst hc hd hs hc2 hd2 hs2
  have ez : its.toArray ++ its2.toArray = (its ++ its2).toArray := by simp
  refine concat_meets ⟨_, e, rfl⟩ ⟨_, e2, rfl⟩ noFill_list_add seq_list_add PySem.F.slot_list_add PySem.F.entry_list_add (PySem.F.args_list_add_2 _ _) (list_addW l b its.toArray its2.toArray n n2 none none sl sl2 (by rw [List.size_toArray, List.size_toArray, ← r.length, ← r2.length]; exact hz)) ⟨e, e2, ?_⟩
  rw [ez]
  refine ⟨.ref s.heap.objs.size, _, I.laid (t' := s.toks) (o := .lst (xs ++ zs)) (fun b o q => Heap.get?_push_of_some _ q) (Nat.le_refl _) ?_, rfl, q _ (I.hok.fresh (Nat.le_refl _))⟩
  exact ⟨by rw [List.length_append]; exact hz, _, 0, r.append r2, Heap.get?_push_size _ rfl⟩
def oAdd : D → D → R D
  | .int i, .int j => .ok (.int (i + j))
  | .str i, .str j => if i.length + j.length ≤ 16777216 then .ok (.str (i ++ j)) else .bad
  | .lst xs, .lst ys => if xs.length + ys.length ≤ 16777216 then .ok (.lst (xs ++ ys)) else .bad
  | .tup xs, .tup ys => if xs.length + ys.length ≤ 16777216 then .ok (.tup (xs ++ ys)) else .bad
  | _, _ => .bad
/-- a new list of things that are anybody's -/
theorem post_lst {K : PySem.W.Frag} {H : Hp} {ex : Own} {Q : VK} {ds : List D} {vs : List V} (q : Post K ad H ex (.own .fz) Q (.lst ds)) (h : Ats K ad (cut H ex) ds vs) (hz : vs.length ≤ sizeLine) (hex : ∀ b, ex b → ∃ o, H b = some o) {p : Addr} (hp : H p = none) : Q (.ref p) (upd H p (.lst vs)) := by
  have l : Le H ex (upd H p (.lst vs)) (plus ex p) := Le.own hp
  refine q _ _ (plus ex p) [p] l (.own (.inr rfl) upd_same hz (h.mono l.cuts).reps) (by simp) fun a z => ?_
  have z : a = p := by simpa using z
  subst z
  intro hx
  obtain ⟨o, e⟩ := hex a hx
  rw [hp] at e
  cases e
theorem post_lstF {K : PySem.W.Frag} {H : Hp} {ex : Own} {Q : VK} {ds : List D} {vs : List V} (q : Post K ad H ex .fz Q (.lst ds)) (h : Ats K ad (cut H ex) ds vs) (hz : vs.length ≤ sizeLine) (hex : ∀ b, ex b → ∃ o, H b = some o) {p : Addr} (hp : H p = none) : Q (.ref p) (upd H p (.lst vs)) := by
  have l : Le H ex (upd H p (.lst vs)) ex := Le.lay hp
  refine post_fz q l (.lst (SqL.of (cut_of (fun hx => ?_) upd_same)) hz (h.mono l.cuts))
  obtain ⟨o, e⟩ := hex p hx
  rw [hp] at e
  cases e
theorem post_tup {K : PySem.W.Frag} {H : Hp} {ex : Own} {Q : VK} {ds : List D} {vs : List V} (q : Post K ad H ex .fz Q (.tup ds)) (h : Ats K ad (cut H ex) ds vs) (hz : vs.length ≤ sizeLine) (hex : ∀ b, ex b → ∃ o, H b = some o) {p : Addr} (hp : H p = none) : Q (.ref p) (upd H p (.tup vs)) := by
  have l : Le H ex (upd H p (.tup vs)) ex := Le.lay hp
  refine post_fz q l (.tup (SqT.of (cut_of (fun hx => ?_) upd_same)) hz (h.mono l.cuts))
  obtain ⟨o, e⟩ := hex p hx
  rw [hp] at e
  cases e
end
end DL

set_option Elab.async false
set_option linter.all false
set_option maxRecDepth 100000
set_option maxHeartbeats 4000000
set_option autoImplicit false
/-! DL7: more operators, comparisons, displays, subscripts, built-in functions. -/
namespace DL
open PySem PySem.Spec PyProof.Rows L2
section
variable {X : Cx} {ad : Adr} {w : Wi} {G : Shs} {pos : Pos}
theorem sq16 {n : Nat} (h : n ≤ 16777216) : n ≤ sizeLine := by rw [sizeLine_eq]; exact h
theorem dop_add : DOp X ad (binaryOp .Add) .fz oAdd := by
  refine ⟨_, op_add.or (op_add_str.or (op_catL.or op_catA)), fun x y d e H ex Q hx a b q => ?_⟩
  cases a with
  | int i =>
    cases b <;> first | exact q.elim | exact .inl ⟨_, _, rfl, rfl, post_fz q (Le.refl _ _) (.int _)⟩
  | str i =>
    cases b <;> first | exact q.elim | skip
    unfold oAdd at q
    dsimp only at q
    split at q
    · rename_i hh
      exact .inr (.inl ⟨_, _, rfl, rfl, sq16 hh, post_fz q (Le.refl _ _) (.str _)⟩)
    · exact q.elim
  | lst h1 hz1 hs1 =>
    cases b <;> first | exact q.elim | skip
    rename_i h2 hz2 hs2
    unfold oAdd at q
    dsimp only at q
    split at q
    · rename_i hh
      rw [hs1.length, hs2.length] at hh
      refine .inr (.inr (.inl ⟨_, _, _, _, rfl, rfl, cut_same.seq h1, cut_same.seq h2, sq16 hh, fun p hp => ?_⟩))
      exact post_lstF q (hs1.append hs2) (by rw [List.length_append]; exact sq16 hh) hx hp
    · exact q.elim
  | tup h1 hz1 hs1 =>
    cases b <;> first | exact q.elim | skip
    rename_i h2 hz2 hs2
    unfold oAdd at q
    dsimp only at q
    split at q
    · rename_i hh
      have hh' := hh
      rw [hs1.length, hs2.length] at hh
      refine .inr (.inr (.inr ⟨_, _, _, _, rfl, rfl, seqT cut_same h1, seqT cut_same h2, sq16 hh, fun e => ?_, fun _ e => ?_, fun _ _ p hp => ?_⟩))
      · subst e
        cases hs1
        exact post_fz q (Le.refl _ _) (.tup h2 hz2 hs2)
      · subst e
        cases hs2
        rw [List.append_nil] at q
        exact post_fz q (Le.refl _ _) (.tup h1 hz1 hs1)
      · exact post_tup q (hs1.append hs2) (by rw [List.length_append]; exact sq16 hh) hx hp
    · exact q.elim
  | non => exact q.elim
  | bl b => exact q.elim
  | exc e h => exact q.elim
def oMul : D → D → R D
  | .int i, .int j => if i.natAbs.log2 + j.natAbs.log2 < 1000000 then .ok (.int (i * j)) else .bad
  | _, _ => .bad
theorem dop_mul : DOp X ad (binaryOp .Mult) .fz oMul := by
  refine ⟨_, op_mulW, fun x y d e H ex Q hx a b q => ?_⟩
  cases a <;> cases b <;> first | exact q.elim | skip
  unfold oMul at q
  dsimp only at q
  split at q
  · rename_i hh
    exact ⟨_, _, rfl, rfl, hh, post_fz q (Le.refl _ _) (.int _)⟩
  · exact q.elim
/-! comparisons -/
def oCmp (p : Int → Int → Bool) : D → D → R D
  | .int i, .int j => .ok (.bl (p i j))
  | _, _ => .bad
theorem dop_cmp {op : CmpOp} {p : Int → Int → Bool} (h : OpR X (compareOp op) (rI0 fun i j => .bl (p i j))) : DOp X ad (compareOp op) .fz (oCmp p) := by
  refine ⟨_, h, fun x y d e H ex Q hx a b q => ?_⟩
  cases a <;> cases b <;> first | exact q.elim | skip
  exact ⟨_, _, rfl, rfl, post_fz q (Le.refl _ _) (.bl _)⟩
abbrev oLt := oCmp fun i j => decide (i < j)
abbrev oLe := oCmp fun i j => decide (i ≤ j)
abbrev oGt := oCmp fun i j => decide (j < i)
abbrev oGe := oCmp fun i j => decide (j ≤ i)
theorem dop_lt : DOp X ad (compareOp .Lt) .fz oLt := dop_cmp op_lt
theorem dop_le : DOp X ad (compareOp .LtE) .fz oLe := dop_cmp op_le
theorem dop_gt : DOp X ad (compareOp .Gt) .fz oGt := dop_cmp op_gt
theorem dop_ge : DOp X ad (compareOp .GtE) .fz oGe := dop_cmp op_ge
theorem no_cmp {p : Int → Int → Bool} : ∀ d e c, oCmp p d e ≠ .exc c := by
  intro d e c z
  cases d <;> cases e <;> cases z
/-- rows of intL -/
def intL : List D → Option (List Int)
  | [] => some []
  | .int i :: ds => (intL ds).map (i :: ·)
  | _ => none
theorem ints_map (l : List Int) : intL (l.map .int) = some l := by
  induction l with
  | nil => rfl
  | cons i l ih =>
    show (intL (l.map .int)).map (i :: ·) = _
    rw [ih]
    rfl
theorem ints_of : ∀ {ds : List D} {ns : List Int}, intL ds = some ns → ds = ns.map .int
  | [], ns, h => by cases h; rfl
  | .int i :: ds, ns, h => by
    unfold intL at h
    cases e : intL ds with
    | none => rw [e] at h; cases h
    | some ms =>
      rw [e] at h
      cases h
      rw [ints_of e]
      rfl
  | .non :: _, _, h => by cases h
  | .bl _ :: _, _, h => by cases h
  | .str _ :: _, _, h => by cases h
  | .lst _ :: _, _, h => by cases h
  | .tup _ :: _, _, h => by cases h
  | .exc _ :: _, _, h => by cases h
theorem ats_ints {K : PySem.W.Frag} {H : Hp} : ∀ {ns : List Int} {vs : List V}, Ats K ad H (ns.map .int) vs → vs = ns.map .int
  | [], _, h => by cases h; rfl
  | n :: ns, _, h => by
    cases h with
    | cons h hs =>
      cases h
      rw [ats_ints hs]
      rfl
theorem ints_ats {K : PySem.W.Frag} {H : Hp} : ∀ (ns : List Int), Ats K ad H (ns.map .int) (ns.map .int)
  | [] => .nil
  | n :: ns => .cons (.int n) (ints_ats ns)
-- == of data
mutual
def toP : D → PyData
  | .non => .none
  | .bl b => .bool b
  | .int i => .int i
  | .str x => .str x
  | .lst xs => .list (toPs xs)
  | .tup xs => .tuple (toPs xs)
  | .exc _ => .dict []
def toPs : List D → List PyData
  | [] => []
  | d :: ds => toP d :: toPs ds
end
mutual
def noE : D → Bool
  | .lst xs => noEs xs
  | .tup xs => noEs xs
  | .exc _ => false
  | _ => true
def noEs : List D → Bool
  | [] => true
  | d :: ds => noE d && noEs ds
end
mutual
theorem At.dp {K : PySem.W.Frag} {H : Hp} : ∀ {d : D} {v : V}, At K ad H d v → noE d = true → Dp K H v (toP d)
  | _, _, .non, _ => .non
  | _, _, .bl b, _ => .bl b
  | _, _, .int i, _ => .int i
  | _, _, .str x, _ => .str x
  | _, _, .lst h _ hs, n => .lst h (Ats.dp hs n)
  | _, _, .tup h _ hs, n => .tup h (Ats.dp hs n)
  | _, _, .exc _ _, n => by cases n
theorem Ats.dp {K : PySem.W.Frag} {H : Hp} : ∀ {ds : List D} {vs : List V}, Ats K ad H ds vs → noEs ds = true → DpAll K H vs (toPs ds)
  | _, _, .nil, _ => .nil
  | _, _, .cons h hs, n => by
    unfold noEs at n
    rw [Bool.and_eq_true] at n
    exact .cons (At.dp h n.1) (Ats.dp hs n.2)
end
mutual
theorem Dp.mono {K : PySem.W.Frag} {H H' : Hp} (s : Same H H') : ∀ {v : V} {d : PyData}, Dp K H v d → Dp K H' v d
  | _, _, .non => .non
  | _, _, .bl b => .bl b
  | _, _, .int i => .int i
  | _, _, .str x => .str x
  | _, _, .lst h hs => .lst (s.seq h) (DpAll.mono s hs)
  | _, _, .tup h hs => .tup (seqT s h) (DpAll.mono s hs)
theorem DpAll.mono {K : PySem.W.Frag} {H H' : Hp} (s : Same H H') : ∀ {vs : List V} {ds : List PyData}, DpAll K H vs ds → DpAll K H' vs ds
  | _, _, .nil => .nil
  | _, _, .cons h hs => .cons (Dp.mono s h) (DpAll.mono s hs)
end
/-- may be compared -/
def okP (d : D) : Bool := noE d && SeqAt.shaped (toP d)
def deq (d e : D) : Bool := PyData.eqv (toP d) (toP e)
def oEq (d e : D) : R D := if okP d = true ∧ okP e = true then .ok (.bl (deq d e)) else .bad
def oNe (d e : D) : R D := if okP d = true ∧ okP e = true then .ok (.bl (!deq d e)) else .bad
theorem okP_dp {d : D} {K : PySem.W.Frag} {H : Hp} {ex : Own} {v : V} (h : okP d = true) (a : At K ad (cut H ex) d v) : Dp K H v (toP d) ∧ SeqAt.shaped (toP d) = true := by
  unfold okP at h
  rw [Bool.and_eq_true] at h
  exact ⟨Dp.mono cut_same (a.dp h.1), h.2⟩
theorem dop_eq (hu : X.A.units + 64 < cLine) : DOp X ad (compareOp .Eq) .fz oEq := by
  refine ⟨_, op_eqD hu, fun x y d e H ex Q hx a b q => ?_⟩
  unfold oEq at q
  split at q
  · rename_i hh
    have h1 := okP_dp hh.1 a
    have h2 := okP_dp hh.2 b
    exact ⟨_, _, h1.1, h2.1, h1.2, h2.2, post_fz q (Le.refl _ _) (.bl _)⟩
  · exact q.elim
theorem dop_ne (hu : X.A.units + 64 < cLine) : DOp X ad (compareOp .NotEq) .fz oNe := by
  refine ⟨_, op_neD hu, fun x y d e H ex Q hx a b q => ?_⟩
  unfold oNe at q
  split at q
  · rename_i hh
    have h1 := okP_dp hh.1 a
    have h2 := okP_dp hh.2 b
    exact ⟨_, _, h1.1, h2.1, h1.2, h2.2, post_fz q (Le.refl _ _) (.bl _)⟩
  · exact q.elim
theorem no_eq : ∀ d e c, oEq d e ≠ .exc c := by
  intro d e c z
  unfold oEq at z
  split at z <;> cases z
theorem no_ne : ∀ d e c, oNe d e ≠ .exc c := by
  intro d e c z
  unfold oNe at z
  split at z <;> cases z
/-- x in a list -/
def oIn (neg : Bool) (d e : D) : R D := match e with
  | .lst es => if okP d = true ∧ okP (.lst es) = true then .ok (.bl (if neg then !es.any (fun z => deq z d) else es.any (fun z => deq z d))) else .bad
  | _ => .bad
theorem toPs_map : ∀ es : List D, toPs es = es.map toP
  | [] => rfl
  | e :: es => by
    unfold toPs
    rw [toPs_map es]
    rfl
theorem dop_in (hu : X.A.units + 65 < cLine) : DOp X ad (compareOp .In) .fz (oIn false) := by
  refine ⟨_, op_inD hu, fun x y d e H ex Q hx a b q => ?_⟩
  unfold oIn at q
  split at q
  · rename_i es
    split at q
    · rename_i hh
      have h1 := okP_dp hh.1 a
      have h2 := okP_dp hh.2 b
      refine ⟨_, _, h1.1, h2.1, h1.2, h2.2, ?_⟩
      rw [toPs_map, List.any_map]
      exact post_fz q (Le.refl _ _) (.bl _)
    · exact q.elim
  · exact q.elim
theorem dop_notIn (hu : X.A.units + 65 < cLine) : DOp X ad (compareOp .NotIn) .fz (oIn true) := by
  refine ⟨_, op_notInD hu, fun x y d e H ex Q hx a b q => ?_⟩
  unfold oIn at q
  split at q
  · rename_i es
    split at q
    · rename_i hh
      have h1 := okP_dp hh.1 a
      have h2 := okP_dp hh.2 b
      refine ⟨_, _, h1.1, h2.1, h1.2, h2.2, ?_⟩
      rw [toPs_map, List.any_map]
      exact post_fz q (Le.refl _ _) (.bl _)
    · exact q.elim
  · exact q.elim
theorem no_in {neg : Bool} : ∀ d e c, oIn neg d e ≠ .exc c := by
  intro d e c z
  unfold oIn at z
  split at z
  · split at z <;> cases z
  · cases z
/-- is None -/
def isN : D → Bool
  | .non => true
  | _ => false
def oIs (d e : D) : R D := match e with
  | .non => .ok (.bl (isN d))
  | _ => .bad
def oIsNot (d e : D) : R D := match e with
  | .non => .ok (.bl (!isN d))
  | _ => .bad
theorem at_non {K : PySem.W.Frag} {H : Hp} {d : D} {v : V} (a : At K ad H d v) : decide (v = .non) = isN d := by
  cases a <;> rfl
theorem dop_is : DOp X ad (compareOp .Is) .fz oIs := by
  refine ⟨_, op_isN, fun x y d e H ex Q hx a b q => ?_⟩
  unfold oIs at q
  split at q
  · cases b
    refine ⟨rfl, ?_⟩
    rw [at_non a]
    exact post_fz q (Le.refl _ _) (.bl _)
  · exact q.elim
theorem dop_isNot : DOp X ad (compareOp .IsNot) .fz oIsNot := by
  refine ⟨_, op_notN, fun x y d e H ex Q hx a b q => ?_⟩
  unfold oIsNot at q
  split at q
  · cases b
    refine ⟨rfl, ?_⟩
    rw [at_non a]
    exact post_fz q (Le.refl _ _) (.bl _)
  · exact q.elim
theorem no_is : ∀ d e c, oIs d e ≠ .exc c := by
  intro d e c z
  unfold oIs at z
  split at z <;> cases z
theorem no_isNot : ∀ d e c, oIsNot d e ≠ .exc c := by
  intro d e c z
  unfold oIsNot at z
  split at z <;> cases z
def oNeg : D → R D
  | .int i => .ok (.int (-i))
  | _ => .bad
theorem dun_neg : DUn X ad (unaryOp .USub) oNeg := by
  refine ⟨_, un_neg, fun x d H ex Q hx a q => ?_⟩
  cases a <;> first | exact q.elim | exact ⟨_, rfl, post_fz q (Le.refl _ _) (.int _)⟩
theorem no_neg : ∀ d c, oNeg d ≠ .exc c := by
  intro d c z
  cases d <;> cases z
/-- a chain of two -/
def dChain (o o' : D → D → R D) (f g h : Env → R D) : Env → R D := fun ρ => (f ρ).bind fun x => (g ρ).bind fun y => (o x y).bind fun z => (asB z).bind fun b => if b = true then (h ρ).bind fun u => o' y u else .ok (.bl false)
theorem de_chain {op op' : CmpOp} {a b c : Expr} {f g h : Env → R D} {o o' : D → D → R D} (ho : DOp X ad (compareOp op) .fz o) (ho' : DOp X ad (compareOp op') .fz o') (ha : DE X ad w G a .fz f) (hb : DE X ad w G b .fz g) (hc : DE X ad w G c .fz h) (no : ∀ d e c, o d e ≠ .exc c) (no' : ∀ d e c, o' d e ≠ .exc c)
    (hm : lastMarks [op, op'] [b, c] = false := by with_unfolding_all rfl) : DE X ad w G (.Compare a [op, op'] [b, c] pos) .fz (dChain o o' f g h) := by
  obtain ⟨r, hr, kr⟩ := ho
  obtain ⟨r', hr', kr'⟩ := ho'
  obtain ⟨ta, pa, ka⟩ := ha
  obtain ⟨tb, pb, kb⟩ := hb
  obtain ⟨tc, pc, kc⟩ := hc
  refine ⟨_, pe_chain hr hr' pa pb pc hm, fun ex0 ρ σ H ex Q fr q => ?_⟩
  refine ka ex0 ρ σ H ex _ fr ?_
  unfold dChain at q
  rw [sat_bind] at q
  refine q.imp (fun d q v H1 ex1 fp l r1 _ _ => ?_) fun _ z => z
  have a1 := rep_fz r1
  refine kb ex0 ρ σ H1 ex1 _ (fr.mono l) ?_
  rw [sat_bind] at q
  refine q.imp (fun e q u H2 ex2 fp l2 r2 _ _ => ?_) fun _ z => z.mono l
  have a2 := rep_fz r2
  have f2 := (fr.mono l).mono l2
  refine kr v u d e H2 ex2 _ f2.exok (a1.mono l2.cuts) a2 ?_
  rw [sat_bind] at q
  cases hh : o d e with
  | exc c => exact absurd hh (no d e c)
  | bad => rw [hh] at q; exact q
  | ok y =>
    rw [hh] at q
    have q : Sat ((asB y).bind _) _ _ := q
    rw [sat_bind] at q
    show Post X.K ad H2 ex2 .fz _ y
    refine post_bv q fun bb H3 ex3 q l3 => ⟨bb, rfl, ?_⟩
    have lt := (l.trans l2).trans l3
    cases bb with
    | false =>
      rw [if_neg Bool.false_ne_true] at q ⊢
      exact post_fz q lt (.bl false)
    | true =>
      rw [if_pos rfl] at q ⊢
      refine kc ex0 ρ σ H3 ex3 _ (f2.mono l3) ?_
      rw [sat_bind] at q
      refine q.imp (fun z q v4 H4 ex4 fp4 l4 r4 _ _ => ?_) fun _ z => z.mono lt
      refine kr' u v4 e z H4 ex4 Q ((f2.mono l3).mono l4).exok (a2.mono (l3.trans l4).cuts) (rep_fz r4) ?_
      cases hh' : o' e z with
      | exc c => exact absurd hh' (no' e z c)
      | bad => rw [hh'] at q; exact q
      | ok y' =>
        rw [hh'] at q
        exact fun v H' ex' fp l5 r5 nd nw => q v H' ex' fp ((lt.trans l4).trans l5) r5 nd fun a z zz => nw a z ((lt.trans l4).keep a zz)

/-! ### displays -/
def dTup (f : Env → R (List D)) : Env → R D := fun ρ => (f ρ).bind fun ds => .ok (.tup ds)
def dLst (f : Env → R (List D)) : Env → R D := fun ρ => (f ρ).bind fun ds => .ok (.lst ds)
theorem de_tup {es : List Expr} {x1} {f : Env → R (List D)} {n : Nat} (h : DA X ad w G es f) (hn : ∀ ρ ds, f ρ = .ok ds → ds.length = n) (hz : n ≤ 16777216 := by decide) : DE X ad w G (.Tuple es x1 pos) .fz (dTup f) := by
  obtain ⟨t, p, k⟩ := h
  refine ⟨_, pe_tup p, fun ex0 ρ σ H ex Q fr q => ?_⟩
  refine k ex0 ρ σ H ex _ fr ?_
  unfold dTup at q
  rw [sat_bind] at q
  cases e : f ρ with
  | exc c => rw [e] at q; exact q
  | bad => rw [e] at q; exact q
  | ok ds =>
    rw [e] at q
    intro vs H1 ex1 l a
    have hl : vs.length ≤ sizeLine := by
      rw [← a.length, hn ρ ds e]
      exact sq16 hz
    refine ⟨hl, fun pp hp => ?_⟩
    have q : Post X.K ad H ex .fz Q (.tup ds) := q
    refine post_tup (ex := ex1) (fun v H' ex' fp l' r nd nw => q v H' ex' fp (l.trans l') r nd fun a z zz => nw a z (l.keep a zz)) a hl (fr.mono l).exok hp
theorem de_lst {es : List Expr} {f : Env → R (List D)} {n : Nat} (h : DA X ad w G es f) (hn : ∀ ρ ds, f ρ = .ok ds → ds.length = n) (hz : n ≤ 16777216 := by decide) : DE X ad w G (.List es pos) (.own .fz) (dLst f) := by
  obtain ⟨t, p, k⟩ := h
  refine ⟨_, pe_lst p, fun ex0 ρ σ H ex Q fr q => ?_⟩
  refine k ex0 ρ σ H ex _ fr ?_
  unfold dLst at q
  rw [sat_bind] at q
  cases e : f ρ with
  | exc c => rw [e] at q; exact q
  | bad => rw [e] at q; exact q
  | ok ds =>
    rw [e] at q
    intro vs H1 ex1 l a
    have hl : vs.length ≤ sizeLine := by
      rw [← a.length, hn ρ ds e]
      exact sq16 hz
    refine ⟨hl, fun pp hp => ?_⟩
    have q : Post X.K ad H ex (.own .fz) Q (.lst ds) := q
    refine post_lst (ex := ex1) (fun v H' ex' fp l' r nd nw => q v H' ex' fp (l.trans l') r nd fun a z zz => nw a z (l.keep a zz)) a hl (fr.mono l).exok hp
theorem cnt0 : ∀ (ρ : Env) ds, dNil ρ = .ok ds → ds.length = 0 := fun ρ ds h => by cases h; rfl
theorem cntS {f : Env → R D} {g : Env → R (List D)} {n : Nat} (h : ∀ ρ ds, g ρ = .ok ds → ds.length = n) : ∀ ρ ds, dCons f g ρ = .ok ds → ds.length = n + 1 := fun ρ ds e => by
  unfold dCons at e
  cases e1 : f ρ with
  | exc c => rw [e1] at e; cases e
  | bad => rw [e1] at e; cases e
  | ok d =>
    rw [e1, R.bind_ok] at e
    cases e2 : g ρ with
    | exc c => rw [e2] at e; cases e
    | bad => rw [e2] at e; cases e
    | ok ds' =>
      rw [e2] at e
      cases e
      rw [List.length_cons, h ρ ds' e2]

/-! ### subscripts -/
def getI (ds : List D) (k : Int) : R D := match atI ds k with
  | some d => .ok d
  | none => .bad
def oIx : D → D → R D
  | .lst ds, .int k => getI ds k
  | .tup ds, .int k => getI ds k
  | .str z, .int k => if 0 ≤ k ∧ k < z.length ∧ z.length ≤ 16777216 then (match z.cps.toList[k.toNat]? with | some c => .ok (.str ⟨#[c]⟩) | none => .bad) else .bad
  | _, _ => .bad
theorem atI_at {K : PySem.W.Frag} {H : Hp} {ds : List D} {vs : List V} (a : Ats K ad H ds vs) {k : Int} {d : D} (h : atI ds k = some d) : ∃ v, atI vs k = some v ∧ At K ad H d v := by
  unfold atI at h ⊢
  rw [a.length] at h
  cases e : ixN vs.length k with
  | none => rw [e] at h; cases h
  | some j =>
    rw [e] at h
    exact a.get h
theorem de_ix {a b : Expr} {f g : Env → R D} (ha : DE X ad w G a .fz f) (hb : DE X ad w G b .fz g) (hs : PlainIx b := by exact fun _ _ => rfl) : DE X ad w G (.Subscript a b pos) .fz (d2 oIx f g) := by
  obtain ⟨ta, pa, ka⟩ := ha
  obtain ⟨tb, pb, kb⟩ := hb
  refine ⟨_, pe_ix ix_seq pa pb hs, two_run (a := a) (b := b) ka kb (fun x y d e H ex Q hx h1 h2 q => ?_) ?_⟩
  · cases h1 with
    | lst h hz hs =>
      cases h2 <;> first | exact q.elim | skip
      unfold oIx getI at q
      dsimp only at q
      split at q
      · rename_i z e
        obtain ⟨v, e1, a1⟩ := atI_at hs e
        exact .inl ⟨_, _, _, v, rfl, rfl, cut_same.seq h, e1, post_fz q (Le.refl _ _) a1⟩
      · exact q.elim
    | tup h hz hs =>
      cases h2 <;> first | exact q.elim | skip
      unfold oIx getI at q
      dsimp only at q
      split at q
      · rename_i z e
        obtain ⟨v, e1, a1⟩ := atI_at hs e
        exact .inr (.inl ⟨_, _, _, v, rfl, rfl, seqT cut_same h, e1, post_fz q (Le.refl _ _) a1⟩)
      · exact q.elim
    | str z =>
      cases h2 <;> first | exact q.elim | skip
      unfold oIx at q
      dsimp only at q
      split at q
      · rename_i kk hk
        split at q
        · rename_i c e
          have e2 := atI_nat e
          rw [show ((kk.toNat : Nat) : Int) = kk by omega] at e2
          exact .inr (.inr ⟨z, _, c, rfl, rfl, sq16 hk.2.2, e2, post_fz q (Le.refl _ _) (.str _)⟩)
        · exact q.elim
      · exact q.elim
    | non => exact q.elim
    | bl b => exact q.elim
    | int i => exact q.elim
    | exc e h => exact q.elim
  · intro d e c z
    unfold oIx getI at z
    split at z <;> (try split at z) <;> (try split at z) <;> cases z
end
end DL

set_option Elab.async false
set_option linter.all false
set_option maxRecDepth 100000
set_option maxHeartbeats 4000000
set_option autoImplicit false
/-! DL8: things that are looked at where they stand (DU), lists with their items (DK); built-in functions over them. -/
namespace DL
open PySem PySem.Spec PyProof.Rows L2
/-- what follows: the value stands for d in the whole heap -/
def PostU (K : PySem.W.Frag) (ad : Adr) (H : Hp) (ex : Own) (Q : VK) (d : D) : Prop := ∀ v H' ex', Le H ex H' ex' → At K ad H' d v → Q v H'
def DU (X : Cx) (ad : Adr) (w : Wi) (G : Shs) (e : Expr) (f : Env → R D) : Prop :=
  ∃ t, PE X e t ∧ ∀ ex0 ρ σ H ex Q, Fra X.K ad G ex0 ρ σ H ex → Sat (f ρ) (PostU X.K ad H ex Q) (Exc w σ H ex) → t σ H Q
def DUA (X : Cx) (ad : Adr) (w : Wi) (G : Shs) (es : List Expr) (f : Env → R (List D)) : Prop :=
  ∃ t, PA X es t ∧ ∀ ex0 ρ σ H ex Q, Fra X.K ad G ex0 ρ σ H ex → Sat (f ρ) (fun ds => ∀ vs H' ex', Le H ex H' ex' → Ats X.K ad H' ds vs → Q vs H') (Exc w σ H ex) → t σ H Q
/-- a list whose items are anybody's -/
structure LsAt (K : PySem.W.Frag) (ad : Adr) (H : Hp) (ex : Own) (ds : List D) (v : V) : Prop where
  ex : ∃ a vs, v = .ref a ∧ SqL K H a vs ∧ vs.length ≤ sizeLine ∧ Ats K ad (cut H ex) ds vs
def DK (X : Cx) (ad : Adr) (w : Wi) (G : Shs) (e : Expr) (f : Env → R (List D)) : Prop :=
  ∃ t, PE X e t ∧ ∀ ex0 ρ σ H ex Q, Fra X.K ad G ex0 ρ σ H ex → Sat (f ρ) (fun ds => ∀ v H' ex', Le H ex H' ex' → LsAt X.K ad H' ex' ds v → Q v H') (Exc w σ H ex) → t σ H Q
section
variable {X : Cx} {ad : Adr} {w : Wi} {G : Shs} {pos : Pos}
theorem Rep.here {K : PySem.W.Frag} {H : Hp} {ex : Own} {s : Sh} {d : D} {v : V} {fp : List Addr} (r : Rep K ad H ex s d v fp) : At K ad H d v := r.at cut_same fun _ _ => rfl
theorem du_of {e : Expr} {s : Sh} {f : Env → R D} (h : DE X ad w G e s f) : DU X ad w G e f := by
  obtain ⟨t, p, k⟩ := h
  exact ⟨t, p, fun ex0 ρ σ H ex Q fr q => k ex0 ρ σ H ex Q fr (q.imp (fun d q v H' ex' fp l r _ _ => q v H' ex' l r.here) fun _ z => z)⟩
/-- the thing at a slot, whoever owns it -/
theorem du_var (i : Nat) {x : Str} (hN : X.N[i]? = some x := by rfl) (hv : Vis X.env.scope x := by first | exact Or.inl rfl | exact Or.inr (Or.inl rfl) | exact Or.inr (Or.inr rfl)) (hd : (x == ("__debug__" : Str)) = false := by decide)
    (hcd : (x == ("__classdict__" : Str)) = false := by decide) : DU X ad w G (.Name x pos) (dV i) := by
  refine ⟨_, pe_var hN hv hd hcd, fun ex0 ρ σ H ex Q fr q => ?_⟩
  unfold dV at q
  split at q
  · rename_i d e
    obtain ⟨fps, h1, _⟩ := fr.slots
    obtain ⟨v, e1, r⟩ := h1 i d e
    exact ⟨v, e1, q v H ex (Le.refl _ _) r.here⟩
  · exact q.elim
theorem dua_nil : DUA X ad w G [] dNil := ⟨_, pa_nil, fun _ _ _ _ _ _ _ q => q [] _ _ (Le.refl _ _) .nil⟩
theorem dua_cons {e : Expr} {es : List Expr} {f : Env → R D} {g : Env → R (List D)} (h : DU X ad w G e f) (h' : DUA X ad w G es g) (hs : starEach (e :: es) X.env = (false, eval e X.env) :: starEach es X.env := by rfl) : DUA X ad w G (e :: es) (dCons f g) := by
  obtain ⟨t, p, k⟩ := h
  obtain ⟨t', p', k'⟩ := h'
  refine ⟨_, pa_cons p p' hs, fun ex0 ρ σ H ex Q fr q => ?_⟩
  refine k ex0 ρ σ H ex _ fr ?_
  unfold dCons at q
  rw [sat_bind] at q
  refine q.imp (fun d q v H1 ex1 l a => ?_) fun _ z => z
  refine k' ex0 ρ σ H1 ex1 _ (fr.mono l) ?_
  rw [sat_bind] at q
  exact q.imp (fun ds q vs H2 ex2 l2 a2 => q (v :: vs) H2 ex2 (l.trans l2) (.cons (a.mono l2.same) a2)) fun _ z => z.mono l
def kL (f : Env → R D) : Env → R (List D) := fun ρ => (f ρ).bind isL
theorem dk_of {e : Expr} {s : Sh} {f : Env → R D} (h : DE X ad w G e s f) (hs : s = .fz ∨ s = .own .fz := by first | exact .inl rfl | exact .inr rfl) : DK X ad w G e (kL f) := by
  obtain ⟨t, p, k⟩ := h
  refine ⟨t, p, fun ex0 ρ σ H ex Q fr q => k ex0 ρ σ H ex Q fr ?_⟩
  unfold kL at q
  rw [sat_bind] at q
  refine q.imp (fun d q v H' ex' fp l r _ _ => ?_) fun _ z => z
  rcases hs with e | e
  · subst e
    have a := rep_fz r
    cases a with
    | lst h hz hs => exact q _ H' ex' l ⟨_, _, rfl, cut_same.seq h, hz, hs⟩
    | _ => exact q.elim
  · subst e
    cases r with
    | flt z _ => cases d <;> first | exact q.elim | cases z
    | own h1 h2 hz hs => exact q _ H' ex' l ⟨_, _, rfl, SqL.of h2, hz, hs.fzs.2⟩
theorem dk_own (i : Nat) {x : Str} (hN : X.N[i]? = some x := by rfl) (hg : sh G i = .own .fz := by rfl) (hv : Vis X.env.scope x := by first | exact Or.inl rfl | exact Or.inr (Or.inl rfl) | exact Or.inr (Or.inr rfl)) (hd : (x == ("__debug__" : Str)) = false := by decide)
    (hcd : (x == ("__classdict__" : Str)) = false := by decide) : DK X ad w G (.Name x pos) (kL (dV i)) := by
  refine ⟨_, pe_var hN hv hd hcd, fun ex0 ρ σ H ex Q fr q => ?_⟩
  unfold kL at q
  cases e1 : (dV i ρ).bind isL with
  | exc c =>
    rw [e1] at q
    unfold dV at e1
    split at e1
    · rename_i d _
      cases d <;> cases e1
    · cases e1
  | bad => rw [e1] at q; exact q.elim
  | ok xs =>
    rw [e1] at q
    obtain ⟨a, vs, ds, ed, eσ, hex, hn, hH, hz, hA, _⟩ := fr.own (slot_own e1) hg
    cases ed
    exact ⟨_, eσ, q _ H ex (Le.refl _ _) ⟨a, vs, rfl, SqL.of hH, hz, hA⟩⟩

/-! ### flat results -/
/-- d stands by itself -/
def Fl (ad : Adr) (d : D) (v : V) : Prop := ∀ (K : PySem.W.Frag) (H : Hp), At K ad H d v
theorem fl_int {i : Int} : Fl ad (.int i) (.int i) := fun _ _ => .int i
theorem fl_bl {b : Bool} : Fl ad (.bl b) (.bl b) := fun _ _ => .bl b
theorem fl_str {x : Str} : Fl ad (.str x) (.str x) := fun _ _ => .str x
theorem fl_non : Fl ad .non .non := fun _ _ => .non
/-- a built-in by values, its answer flat -/
def DCu (X : Cx) (ad : Adr) (fv : Value) (o : List D → R D) : Prop :=
  ∃ r, CallR X fv r ∧ ∀ vs ds H Q, Ats X.K ad H ds vs → Sat (o ds) (fun d => ∀ v, Fl ad d v → Q v H) (fun _ => False) → r vs H Q
def NoX (o : List D → R D) : Prop := ∀ ds c, o ds ≠ .exc c
theorem de_callBu {x : Str} {p : Pos} {id : String} {o : List D → R D} {e : Expr} {es : List Expr} {f : Env → R (List D)} (c : DCu X ad (.builtin id) o) (no : NoX o) (hv : bootBuiltins x = some (.builtin id)) (ha : DUA X ad w G (e :: es) f) (hm : X.mg x = none := by assumption) (hg : Gl X x := by rfl)
    (hn : x ≠ "__name__" := by decide) (hdb : (x == ("__debug__" : Str)) = false := by decide)
    (he : starEach (e :: es) X.env = (false, eval e X.env) :: starEach es X.env := by rfl) (hpl : (backTo pos (starEach es X.env)).any (·.1) = false := by rfl) : DE X ad w G (.Call (.Name x p) (e :: es) [] pos) .fz (dCall o f) := by
  obtain ⟨r, hr, kr⟩ := c
  obtain ⟨t, pa, ka⟩ := ha
  refine ⟨_, pe_callB hr hg hm hv pa hn hdb he hpl, fun ex0 ρ σ H ex Q fr q => ?_⟩
  refine ka ex0 ρ σ H ex _ fr ?_
  unfold dCall at q
  rw [sat_bind] at q
  refine q.imp (fun ds q vs H1 ex1 l a => kr vs ds H1 Q a ?_) fun _ z => z
  cases hh : o ds with
  | exc c => exact absurd hh (no ds c)
  | bad => rw [hh] at q; exact q
  | ok d => rw [hh] at q; exact fun v fl => post_fz q l (fl _ _)
theorem de_callTu {x : Str} {p : Pos} {T : String} {o : List D → R D} {e : Expr} {es : List Expr} {f : Env → R (List D)} (c : DCu X ad (.type T) o) (no : NoX o) (hv : bootBuiltins x = some (.type T)) (ha : DUA X ad w G (e :: es) f) (hm : X.mg x = none := by assumption) (hg : Gl X x := by rfl)
    (hn : x ≠ "__name__" := by decide) (hdb : (x == ("__debug__" : Str)) = false := by decide)
    (he : starEach (e :: es) X.env = (false, eval e X.env) :: starEach es X.env := by rfl) (hpl : (backTo pos (starEach es X.env)).any (·.1) = false := by rfl) : DE X ad w G (.Call (.Name x p) (e :: es) [] pos) .fz (dCall o f) := by
  obtain ⟨r, hr, kr⟩ := c
  obtain ⟨t, pa, ka⟩ := ha
  refine ⟨_, pe_callTy hr hg hm hv pa hn hdb he hpl, fun ex0 ρ σ H ex Q fr q => ?_⟩
  refine ka ex0 ρ σ H ex _ fr ?_
  unfold dCall at q
  rw [sat_bind] at q
  refine q.imp (fun ds q vs H1 ex1 l a => kr vs ds H1 Q a ?_) fun _ z => z
  cases hh : o ds with
  | exc c => exact absurd hh (no ds c)
  | bad => rw [hh] at q; exact q
  | ok d => rw [hh] at q; exact fun v fl => post_fz q l (fl _ _)
def oLen : List D → R D
  | [.lst ds] => .ok (.int ds.length)
  | [.tup ds] => .ok (.int ds.length)
  | [.str z] => if z.length ≤ 16777216 then .ok (.int z.length) else .bad
  | _ => .bad
theorem dcu_len : DCu X ad (.builtin "len") oLen := by
  refine ⟨_, call_len, fun vs ds H Q a q => ?_⟩
  unfold oLen at q
  split at q
  · obtain ⟨v, rfl, a1⟩ := a.one
    cases a1 with
    | lst h hz hs => exact ⟨_, _, rfl, .inl ⟨_, h, rfl⟩, by rw [← hs.length]; exact q _ fl_int⟩
  · obtain ⟨v, rfl, a1⟩ := a.one
    cases a1 with
    | tup h hz hs => exact ⟨_, _, rfl, .inr ⟨_, h, rfl⟩, by rw [← hs.length]; exact q _ fl_int⟩
  · obtain ⟨v, rfl, a1⟩ := a.one
    cases a1
    split at q
    · rename_i hh
      exact ⟨_, _, rfl, ⟨sq16 hh, rfl⟩, q _ fl_int⟩
    · exact q.elim
  · exact q.elim
theorem nox_len : NoX oLen := by
  intro ds c z
  unfold oLen at z
  split at z <;> (try split at z) <;> cases z
/-- lists of ints, of bools -/
def bools : List D → Option (List Bool)
  | [] => some []
  | .bl b :: ds => (bools ds).map (b :: ·)
  | _ => none
theorem bools_of : ∀ {ds : List D} {bs : List Bool}, bools ds = some bs → ds = bs.map .bl
  | [], bs, h => by cases h; rfl
  | .bl i :: ds, bs, h => by
    unfold bools at h
    cases e : bools ds with
    | none => rw [e] at h; cases h
    | some ms =>
      rw [e] at h
      cases h
      rw [bools_of e]
      rfl
  | .non :: _, _, h => by cases h
  | .int _ :: _, _, h => by cases h
  | .str _ :: _, _, h => by cases h
  | .lst _ :: _, _, h => by cases h
  | .tup _ :: _, _, h => by cases h
  | .exc _ :: _, _, h => by cases h
theorem bools_map (l : List Bool) : bools (l.map .bl) = some l := by
  induction l with
  | nil => rfl
  | cons i l ih =>
    show (bools (l.map .bl)).map (i :: ·) = _
    rw [ih]
    rfl
theorem ats_bools {K : PySem.W.Frag} {H : Hp} : ∀ {bs : List Bool} {vs : List V}, Ats K ad H (bs.map .bl) vs → vs = bs.map .bl
  | [], _, h => by cases h; rfl
  | n :: ns, _, h => by
    cases h with
    | cons h hs =>
      cases h
      rw [ats_bools hs]
      rfl
def oAll : List D → R D
  | [.lst ds] => match bools ds with | some bs => .ok (.bl (bs.all id)) | none => .bad
  | _ => .bad
def oAny : List D → R D
  | [.lst ds] => match bools ds with | some bs => .ok (.bl (bs.any id)) | none => .bad
  | _ => .bad
theorem dcu_all (hc : X.calm = true) : DCu X ad (.builtin "all") oAll := by
  refine ⟨_, cr_all hc, fun vs ds H Q a q => ?_⟩
  unfold oAll at q
  split at q
  · obtain ⟨v, rfl, a1⟩ := a.one
    cases a1 with
    | lst h hz hs =>
      split at q
      · rename_i bs e
        have e2 := bools_of e
        subst e2
        rw [ats_bools hs] at h
        exact ⟨_, bs, rfl, h, q _ fl_bl⟩
      · exact q.elim
  · exact q.elim
theorem dcu_any (hc : X.calm = true) : DCu X ad (.builtin "any") oAny := by
  refine ⟨_, cr_any hc, fun vs ds H Q a q => ?_⟩
  unfold oAny at q
  split at q
  · obtain ⟨v, rfl, a1⟩ := a.one
    cases a1 with
    | lst h hz hs =>
      split at q
      · rename_i bs e
        have e2 := bools_of e
        subst e2
        rw [ats_bools hs] at h
        exact ⟨_, bs, rfl, h, q _ fl_bl⟩
      · exact q.elim
  · exact q.elim
theorem nox_all : NoX oAll := by
  intro ds c z
  unfold oAll at z
  split at z <;> (try split at z) <;> cases z
theorem nox_any : NoX oAny := by
  intro ds c z
  unfold oAny at z
  split at z <;> (try split at z) <;> cases z
def oSum : List D → R D
  | [.lst ds] => match intL ds with | some ns => .ok (.int ns.sum) | none => .bad
  | _ => .bad
theorem dcu_sum (hc : X.calm = true) : DCu X ad (.builtin "sum") oSum := by
  refine ⟨_, cr_sum hc, fun vs ds H Q a q => ?_⟩
  unfold oSum at q
  split at q
  · obtain ⟨v, rfl, a1⟩ := a.one
    cases a1 with
    | lst h hz hs =>
      split at q
      · rename_i bs e
        have e2 := ints_of e
        subst e2
        rw [ats_ints hs] at h
        exact ⟨_, bs, rfl, h, q _ fl_int⟩
      · exact q.elim
  · exact q.elim
theorem nox_sum : NoX oSum := by
  intro ds c z
  unfold oSum at z
  split at z <;> (try split at z) <;> cases z
/-- the greatest, the least -/
def maxL : List Int → Int
  | [] => 0
  | [n] => n
  | n :: ns => if maxL ns > n then maxL ns else n
def minL : List Int → Int
  | [] => 0
  | [n] => n
  | n :: ns => if minL ns < n then minL ns else n
theorem maxL_mem : ∀ {ns : List Int}, ns ≠ [] → maxL ns ∈ ns ∧ ∀ y ∈ ns, y ≤ maxL ns
  | [], h => absurd rfl h
  | [n], _ => by simp [maxL]
  | n :: m :: ns, _ => by
    have ih := maxL_mem (ns := m :: ns) (by simp)
    unfold maxL
    split
    · rename_i hh
      refine ⟨List.mem_cons_of_mem _ ih.1, fun y hy => ?_⟩
      rcases List.mem_cons.mp hy with e | e
      · subst e; omega
      · exact ih.2 y e
    · rename_i hh
      refine ⟨List.mem_cons_self, fun y hy => ?_⟩
      rcases List.mem_cons.mp hy with e | e
      · omega
      · have := ih.2 y e
        omega
theorem minL_mem : ∀ {ns : List Int}, ns ≠ [] → minL ns ∈ ns ∧ ∀ y ∈ ns, minL ns ≤ y
  | [], h => absurd rfl h
  | [n], _ => by simp [minL]
  | n :: m :: ns, _ => by
    have ih := minL_mem (ns := m :: ns) (by simp)
    unfold minL
    split
    · rename_i hh
      refine ⟨List.mem_cons_of_mem _ ih.1, fun y hy => ?_⟩
      rcases List.mem_cons.mp hy with e | e
      · subst e; omega
      · exact ih.2 y e
    · rename_i hh
      refine ⟨List.mem_cons_self, fun y hy => ?_⟩
      rcases List.mem_cons.mp hy with e | e
      · omega
      · have := ih.2 y e
        omega
def oMax : List D → R D
  | [.int i, .int j] => .ok (.int (if j > i then j else i))
  | [.lst ds] => match intL ds with | some [] => .bad | some ns => .ok (.int (maxL ns)) | none => .bad
  | _ => .bad
def oMin : List D → R D
  | [.int i, .int j] => .ok (.int (if j < i then j else i))
  | [.lst ds] => match intL ds with | some [] => .bad | some ns => .ok (.int (minL ns)) | none => .bad
  | _ => .bad
theorem dcu_max (hc : X.calm = true) : DCu X ad (.builtin "max") oMax := by
  refine ⟨_, (call_max2 hc).or (cr_max hc), fun vs ds H Q a q => ?_⟩
  unfold oMax at q
  split at q
  · obtain ⟨v, u, rfl, a1, a2⟩ := a.two
    cases a1
    cases a2
    exact .inl ⟨_, _, rfl, q _ fl_int⟩
  · obtain ⟨v, rfl, a1⟩ := a.one
    cases a1 with
    | lst h hz hs =>
      split at q
      · exact q.elim
      · rename_i ns hne e
        have e2 := ints_of e
        subst e2
        rw [ats_ints hs] at h
        have hn : ns ≠ [] := hne
        refine .inr ⟨_, ns, rfl, h, List.length_pos_iff.mpr hn, fun m h1 h2 => ?_⟩
        have := maxL_mem hn
        have hm : m = maxL ns := by
          have h3 := this.2 m h1
          have h4 := h2 _ this.1
          omega
        rw [hm]
        exact q _ fl_int
      · exact q.elim
  · exact q.elim
theorem dcu_min (hc : X.calm = true) : DCu X ad (.builtin "min") oMin := by
  refine ⟨_, (call_min2 hc).or (cr_min hc), fun vs ds H Q a q => ?_⟩
  unfold oMin at q
  split at q
  · obtain ⟨v, u, rfl, a1, a2⟩ := a.two
    cases a1
    cases a2
    exact .inl ⟨_, _, rfl, q _ fl_int⟩
  · obtain ⟨v, rfl, a1⟩ := a.one
    cases a1 with
    | lst h hz hs =>
      split at q
      · exact q.elim
      · rename_i ns hne e
        have e2 := ints_of e
        subst e2
        rw [ats_ints hs] at h
        have hn : ns ≠ [] := hne
        refine .inr ⟨_, ns, rfl, h, List.length_pos_iff.mpr hn, fun m h1 h2 => ?_⟩
        have := minL_mem hn
        have hm : m = minL ns := by
          have h3 := this.2 m h1
          have h4 := h2 _ this.1
          omega
        rw [hm]
        exact q _ fl_int
      · exact q.elim
  · exact q.elim
theorem nox_min : NoX oMin := by
  intro ds c z
  unfold oMin at z
  split at z <;> (try split at z) <;> cases z
theorem nox_max : NoX oMax := by
  intro ds c z
  unfold oMax at z
  split at z <;> (try split at z) <;> cases z
def oAbs : List D → R D
  | [.int i] => .ok (.int (if i < 0 then -i else i))
  | _ => .bad
theorem dcu_abs : DCu X ad (.builtin "abs") oAbs := by
  refine ⟨_, call_abs, fun vs ds H Q a q => ?_⟩
  unfold oAbs at q
  split at q
  · obtain ⟨v, rfl, a1⟩ := a.one
    cases a1
    exact ⟨_, rfl, q _ fl_int⟩
  · exact q.elim
theorem nox_abs : NoX oAbs := by
  intro ds c z
  unfold oAbs at z
  split at z <;> cases z
def oInt : List D → R D
  | [.int i] => .ok (.int i)
  | [.bl b] => .ok (.int (if b = true then 1 else 0))
  | [.str a] => if a.length ≤ 640 then (match PySem.intText? a with | some n => .ok (.int n) | none => .bad) else .bad
  | _ => .bad
theorem dcu_int : DCu X ad (.type "int") oInt := by
  refine ⟨_, call_int1.or call_int_str, fun vs ds H Q a q => ?_⟩
  unfold oInt at q
  split at q
  · obtain ⟨v, rfl, a1⟩ := a.one
    cases a1
    exact .inl (.inl ⟨_, rfl, q _ fl_int⟩)
  · obtain ⟨v, rfl, a1⟩ := a.one
    cases a1
    exact .inl (.inr ⟨_, rfl, q _ fl_int⟩)
  · obtain ⟨v, rfl, a1⟩ := a.one
    cases a1
    split at q
    · rename_i hh
      split at q
      · rename_i n e
        exact .inr ⟨_, n, rfl, e, hh, q _ fl_int⟩
      · exact q.elim
    · exact q.elim
  · exact q.elim
theorem nox_int : NoX oInt := by
  intro ds c z
  unfold oInt at z
  split at z <;> (try split at z) <;> (try split at z) <;> cases z

/-! ### comparisons of things wherever they stand -/
def DOu (X : Cx) (ad : Adr) (fn : Value → Value → Sem Value) (o : D → D → R D) : Prop :=
  ∃ r, OpR X fn r ∧ ∀ x y d e H Q, At X.K ad H d x → At X.K ad H e y → Sat (o d e) (fun z => ∀ v, Fl ad z v → Q v H) (fun _ => False) → r x y H Q
theorem okP_dpU {d : D} {K : PySem.W.Frag} {H : Hp} {v : V} (h : okP d = true) (a : At K ad H d v) : Dp K H v (toP d) ∧ SeqAt.shaped (toP d) = true := by
  unfold okP at h
  rw [Bool.and_eq_true] at h
  exact ⟨a.dp h.1, h.2⟩
theorem dou_eq (hu : X.A.units + 64 < cLine) : DOu X ad (compareOp .Eq) oEq := by
  refine ⟨_, op_eqD hu, fun x y d e H Q a b q => ?_⟩
  unfold oEq at q
  split at q
  · rename_i hh
    have h1 := okP_dpU hh.1 a
    have h2 := okP_dpU hh.2 b
    exact ⟨_, _, h1.1, h2.1, h1.2, h2.2, q _ fl_bl⟩
  · exact q.elim
theorem dou_ne (hu : X.A.units + 64 < cLine) : DOu X ad (compareOp .NotEq) oNe := by
  refine ⟨_, op_neD hu, fun x y d e H Q a b q => ?_⟩
  unfold oNe at q
  split at q
  · rename_i hh
    have h1 := okP_dpU hh.1 a
    have h2 := okP_dpU hh.2 b
    exact ⟨_, _, h1.1, h2.1, h1.2, h2.2, q _ fl_bl⟩
  · exact q.elim
theorem dou_in (hu : X.A.units + 65 < cLine) : DOu X ad (compareOp .In) (oIn false) := by
  refine ⟨_, op_inD hu, fun x y d e H Q a b q => ?_⟩
  unfold oIn at q
  split at q
  · split at q
    · rename_i hh
      have h1 := okP_dpU hh.1 a
      have h2 := okP_dpU hh.2 b
      refine ⟨_, _, h1.1, h2.1, h1.2, h2.2, ?_⟩
      rw [toPs_map, List.any_map]
      exact q _ fl_bl
    · exact q.elim
  · exact q.elim
theorem dou_notIn (hu : X.A.units + 65 < cLine) : DOu X ad (compareOp .NotIn) (oIn true) := by
  refine ⟨_, op_notInD hu, fun x y d e H Q a b q => ?_⟩
  unfold oIn at q
  split at q
  · split at q
    · rename_i hh
      have h1 := okP_dpU hh.1 a
      have h2 := okP_dpU hh.2 b
      refine ⟨_, _, h1.1, h2.1, h1.2, h2.2, ?_⟩
      rw [toPs_map, List.any_map]
      exact q _ fl_bl
    · exact q.elim
  · exact q.elim
theorem twoU {a b : Expr} {f g : Env → R D} {ta tb : TE} {r : R2} {o : D → D → R D}
    (ka : ∀ ex0 ρ σ H ex Q, Fra X.K ad G ex0 ρ σ H ex → Sat (f ρ) (PostU X.K ad H ex Q) (Exc w σ H ex) → ta σ H Q)
    (kb : ∀ ex0 ρ σ H ex Q, Fra X.K ad G ex0 ρ σ H ex → Sat (g ρ) (PostU X.K ad H ex Q) (Exc w σ H ex) → tb σ H Q)
    (kr : ∀ x y d e H Q, At X.K ad H d x → At X.K ad H e y → Sat (o d e) (fun z => ∀ v, Fl ad z v → Q v H) (fun _ => False) → r x y H Q)
    (no : ∀ d e c, o d e ≠ .exc c) : ∀ ex0 ρ σ H ex Q, Fra X.K ad G ex0 ρ σ H ex → Sat (d2 o f g ρ) (Post X.K ad H ex .fz Q) (Exc w σ H ex) → tOp r ta tb σ H Q := by
  intro ex0 ρ σ H ex Q fr q
  refine ka ex0 ρ σ H ex _ fr ?_
  unfold d2 at q
  rw [sat_bind] at q
  refine q.imp (fun d q v H1 ex1 l a1 => ?_) fun _ z => z
  refine kb ex0 ρ σ H1 ex1 _ (fr.mono l) ?_
  rw [sat_bind] at q
  refine q.imp (fun e q u H2 ex2 l2 a2 => ?_) fun _ z => z.mono l
  refine kr v u d e H2 Q (a1.mono l2.same) a2 ?_
  cases hh : o d e with
  | ok y => rw [hh] at q; exact fun v fl => post_fz q (l.trans l2) (fl _ _)
  | exc c => exact absurd hh (no d e c)
  | bad => rw [hh] at q; exact q
theorem de_cmpU {op : CmpOp} {a b : Expr} {f g : Env → R D} {o : D → D → R D} (ho : DOu X ad (compareOp op) o) (ha : DU X ad w G a f) (hb : DU X ad w G b g) (hm : behindInMarks op b = false) (no : ∀ d e c, o d e ≠ .exc c) :
    DE X ad w G (.Compare a [op] [b] pos) .fz (d2 o f g) := by
  obtain ⟨r, hr, kr⟩ := ho
  obtain ⟨ta, pa, ka⟩ := ha
  obtain ⟨tb, pb, kb⟩ := hb
  exact ⟨_, pe_cmpR hr pa pb hm, twoU (a := a) (b := b) ka kb kr no⟩
theorem dt_cmpU {op : CmpOp} {a b : Expr} {f g : Env → R D} {o : D → D → R D} (ho : DOu X ad (compareOp op) o) (ha : DU X ad w G a f) (hb : DU X ad w G b g) (hm : behindInMarks op b = false) (no : ∀ d e c, o d e ≠ .exc c) :
    DT X ad w G (.Compare a [op] [b] pos) (dB (d2 o f g)) := by
  obtain ⟨r, hr, kr⟩ := ho
  obtain ⟨ta, pa, ka⟩ := ha
  obtain ⟨tb, pb, kb⟩ := hb
  refine ⟨_, pt_cmpR hr pa pb hm, fun ex0 ρ σ H ex Q fr q => ?_⟩
  refine twoU (a := a) (b := b) ka kb kr no ex0 ρ σ H ex _ fr ?_
  unfold dB at q
  rw [sat_bind] at q
  exact q.imp (fun d h => post_b h) fun _ z => z

/-! ### lists with their items -/
def oL (o : List D → R D) (f : Env → R (List D)) : Env → R D := fun ρ => (f ρ).bind o
theorem da_k {e : Expr} {f : Env → R (List D)} (h : DK X ad w G e f) (hs : starEach (e :: []) X.env = (false, eval e X.env) :: starEach [] X.env := by rfl) :
    ∃ t, PA X [e] t ∧ ∀ ex0 ρ σ H ex Q, Fra X.K ad G ex0 ρ σ H ex → Sat (f ρ) (fun ds => ∀ v H' ex', Le H ex H' ex' → LsAt X.K ad H' ex' ds v → Q [v] H') (Exc w σ H ex) → t σ H Q := by
  obtain ⟨t, p, k⟩ := h
  refine ⟨_, pa_cons p pa_nil hs, fun ex0 ρ σ H ex Q fr q => k ex0 ρ σ H ex _ fr q⟩
/-- tuple(x) of a list -/
theorem de_tupleL {p : Pos} {e : Expr} {f : Env → R (List D)} (h : DK X ad w G e f) (hm : X.mg "tuple" = none := by assumption) (hg : Gl X "tuple" := by rfl) (hs : starEach [e] X.env = (false, eval e X.env) :: starEach [] X.env := by rfl) (hpl : (backTo pos (starEach [] X.env)).any (·.1) = false := by rfl) :
    DE X ad w G (.Call (.Name "tuple" p) [e] [] pos) .fz (oL (fun ds => .ok (.tup ds)) f) := by
  obtain ⟨t, pa, k⟩ := da_k h hs
  refine ⟨_, pe_callTy call_tuple_of hg hm PyProof.Rows.boot_tuple pa (by decide) (by decide) hs hpl, fun ex0 ρ σ H ex Q fr q => ?_⟩
  refine k ex0 ρ σ H ex _ fr ?_
  unfold oL at q
  rw [sat_bind] at q
  refine q.imp (fun ds q v H1 ex1 l ⟨a, vs, e1, hq, hz, hA⟩ => ?_) fun _ z => z
  subst e1
  refine ⟨a, vs, rfl, .inl ⟨hq, fun pp hp => ?_⟩⟩
  have q : Post X.K ad H ex .fz Q (.tup ds) := q
  exact post_tup (ex := ex1) (fun v H' ex' fp l' r nd nw => q v H' ex' fp (l.trans l') r nd fun a z zz => nw a z (l.keep a zz)) hA hz (fr.mono l).exok hp
/-- list(x) of a list -/
theorem de_listL {p : Pos} {e : Expr} {f : Env → R (List D)} (h : DK X ad w G e f) (hm : X.mg "list" = none := by assumption) (hg : Gl X "list" := by rfl) (hs : starEach [e] X.env = (false, eval e X.env) :: starEach [] X.env := by rfl) (hpl : (backTo pos (starEach [] X.env)).any (·.1) = false := by rfl) :
    DE X ad w G (.Call (.Name "list" p) [e] [] pos) (.own .fz) (oL (fun ds => .ok (.lst ds)) f) := by
  obtain ⟨t, pa, k⟩ := da_k h hs
  refine ⟨_, pe_callTy call_list_of hg hm PyProof.Rows.boot_list pa (by decide) (by decide) hs hpl, fun ex0 ρ σ H ex Q fr q => ?_⟩
  refine k ex0 ρ σ H ex _ fr ?_
  unfold oL at q
  rw [sat_bind] at q
  refine q.imp (fun ds q v H1 ex1 l ⟨a, vs, e1, hq, hz, hA⟩ => ?_) fun _ z => z
  subst e1
  refine ⟨a, vs, rfl, .inl hq, fun pp hp => ?_⟩
  have q : Post X.K ad H ex (.own .fz) Q (.lst ds) := q
  exact post_lst (ex := ex1) (fun v H' ex' fp l' r nd nw => q v H' ex' fp (l.trans l') r nd fun a z zz => nw a z (l.keep a zz)) hA hz (fr.mono l).exok hp
/-- x[k] of a list -/
def ixK (f : Env → R (List D)) (g : Env → R D) : Env → R D := fun ρ => (f ρ).bind fun ds => (g ρ).bind fun k => match k with
  | .int k => getI ds k
  | _ => .bad
theorem de_ixK {a b : Expr} {f : Env → R (List D)} {g : Env → R D} (ha : DK X ad w G a f) (hb : DE X ad w G b .fz g) (hs : PlainIx b := by exact fun _ _ => rfl) : DE X ad w G (.Subscript a b pos) .fz (ixK f g) := by
  obtain ⟨ta, pa, ka⟩ := ha
  obtain ⟨tb, pb, kb⟩ := hb
  refine ⟨_, pe_ix ix_list pa pb hs, fun ex0 ρ σ H ex Q fr q => ?_⟩
  refine ka ex0 ρ σ H ex _ fr ?_
  unfold ixK at q
  rw [sat_bind] at q
  refine q.imp (fun ds q v H1 ex1 l ⟨a, vs, e1, hq, hz, hA⟩ => ?_) fun _ z => z
  subst e1
  refine kb ex0 ρ σ H1 ex1 _ (fr.mono l) ?_
  rw [sat_bind] at q
  refine q.imp (fun k q u H2 ex2 fp l2 r _ _ => ?_) fun _ z => z.mono l
  have a2 := rep_fz r
  cases a2 with
  | int k =>
    unfold getI at q
    dsimp only at q
    split at q
    · rename_i d e
      obtain ⟨v, e1, a1⟩ := atI_at hA e
      exact ⟨_, _, _, v, rfl, rfl, l2.same.seq hq, e1, post_fz q (l.trans l2) (a1.mono l2.cuts)⟩
    · exact q.elim
  | _ => exact q.elim
/-- a list, walked by a comprehension -/
theorem dj_k {tg e : Expr} {f : Env → R D} (h : DE X ad w G e (.own .fz) f) : DJ X ad w G tg e (kL f) := by
  obtain ⟨t, p, k⟩ := h
  refine ⟨_, pi_list p, fun ex0 ρ σ H ex Rr fr q => ?_⟩
  refine k ex0 ρ σ H ex _ fr ?_
  unfold kL at q
  rw [sat_bind] at q
  refine q.imp (fun d q v H1 ex1 fp l r _ _ => ?_) fun _ z => z
  cases r with
  | flt z _ => cases d <;> first | exact q.elim | cases z
  | @own _ ds a vs _ h1 h2 hz hs =>
    have hA := hs.fzs.2
    refine ⟨a, rfl, ⟨vs, SqL.of h2⟩, q (Itl X.K a) H1 ex1 vs.length _ _ l hA.length.symm hz walk_list (fun H' ex' m => m.2.seq (SqL.of h2)) fun i H' ex' x H'' hi m _ y => ?_⟩
    obtain ⟨e1, e2⟩ := y
    subst e1
    obtain ⟨d, hd, ha⟩ := hA.getV e2
    exact ⟨d, hd, Le.refl _ _, ha.mono m.1⟩
theorem dj_own {tg : Expr} (i : Nat) {x : Str} (hN : X.N[i]? = some x := by rfl) (hg : sh G i = .own .fz := by rfl) (hv : Vis X.env.scope x := by first | exact Or.inl rfl | exact Or.inr (Or.inl rfl) | exact Or.inr (Or.inr rfl)) (hd : (x == ("__debug__" : Str)) = false := by decide)
    (hcd : (x == ("__classdict__" : Str)) = false := by decide) : DJ X ad w G tg (.Name x pos) (kL (dV i)) := by
  refine ⟨_, pi_list (pe_var hN hv hd hcd), fun ex0 ρ σ H ex Rr fr q => ?_⟩
  unfold kL at q
  cases e1 : (dV i ρ).bind isL with
  | exc c =>
    rw [e1] at q
    unfold dV at e1
    split at e1
    · rename_i d _
      cases d <;> cases e1
    · cases e1
  | bad => rw [e1] at q; exact q.elim
  | ok xs =>
    rw [e1] at q
    obtain ⟨a, vs, ds, ed, eσ, hex, hn, hH, hz, hA, _⟩ := fr.own (slot_own e1) hg
    cases ed
    refine ⟨_, eσ, a, rfl, ⟨vs, SqL.of hH⟩, q (Itl X.K a) H ex vs.length _ _ (Le.refl _ _) hA.length.symm hz walk_list (fun H' ex' m => m.2.seq (SqL.of hH)) fun i H' ex' x H'' hi m _ y => ?_⟩
    obtain ⟨e1, e2⟩ := y
    subst e1
    obtain ⟨d, hd, ha⟩ := hA.getV e2
    exact ⟨d, hd, Le.refl _ _, ha.mono m.1⟩
/-! ### slices -/
def cutD (ds : List D) (lo hi : Option Int) : List D := (ds.drop (HT.sIx ds.length 0 lo)).take (HT.sIx ds.length ds.length hi - HT.sIx ds.length 0 lo)
theorem cut_ats {K : PySem.W.Frag} {H : Hp} {ds : List D} {vs : List V} (a : Ats K ad H ds vs) (lo hi : Option Int) : Ats K ad H (cutD ds lo hi) (cutV vs lo hi) := by
  unfold cutD cutV
  rw [a.length]
  exact (a.drop _).take _
/-- a slice's part -/
def DP (X : Cx) (ad : Adr) (w : Wi) (G : Shs) (e : Option Expr) (f : Env → R (Option Int)) : Prop :=
  ∃ t, PO X e t ∧ ∀ ex0 ρ σ H ex Q, Fra X.K ad G ex0 ρ σ H ex → Sat (f ρ) (fun o => ∀ H' ex', Le H ex H' ex' → Q o H') (Exc w σ H ex) → t σ H Q
def pNo : Env → R (Option Int) := fun _ => .ok none
def pSo (f : Env → R D) : Env → R (Option Int) := fun ρ => (f ρ).bind fun d => match d with
  | .int i => .ok (some i)
  | _ => .bad
theorem dp_no : DP X ad w G none pNo := ⟨_, po_none, fun _ _ _ _ _ _ _ q => q _ _ (Le.refl _ _)⟩
theorem dp_so {e : Expr} {f : Env → R D} (h : DE X ad w G e .fz f) : DP X ad w G (some e) (pSo f) := by
  obtain ⟨t, p, k⟩ := h
  refine ⟨_, po_some p, fun ex0 ρ σ H ex Q fr q => k ex0 ρ σ H ex _ fr ?_⟩
  unfold pSo at q
  rw [sat_bind] at q
  refine q.imp (fun d q v H' ex' fp l r _ _ => ?_) fun _ z => z
  have a := rep_fz r
  cases a with
  | int i => exact ⟨i, rfl, q H' ex' l⟩
  | _ => exact q.elim
def slK (f : Env → R (List D)) (g h : Env → R (Option Int)) : Env → R D := fun ρ => (f ρ).bind fun ds => (g ρ).bind fun lo => (h ρ).bind fun hi => .ok (.lst (cutD ds lo hi))
theorem de_slK {e : Expr} {lo hi : Option Expr} {p2 : Pos} {f : Env → R (List D)} {g h : Env → R (Option Int)} (he : DK X ad w G e f) (hl : DP X ad w G lo g) (hh : DP X ad w G hi h) : DE X ad w G (.Subscript e (.Slice lo hi none p2) pos) (.own .fz) (slK f g h) := by
  obtain ⟨t, p, k⟩ := he
  obtain ⟨tl, pl, kl⟩ := hl
  obtain ⟨th, ph, kh⟩ := hh
  refine ⟨_, pe_slice sl_list p pl ph, fun ex0 ρ σ H ex Q fr q => ?_⟩
  refine k ex0 ρ σ H ex _ fr ?_
  unfold slK at q
  rw [sat_bind] at q
  refine q.imp (fun ds q v H1 ex1 l ⟨a, vs, e1, hq, hz, hA⟩ => ?_) fun _ z => z
  subst e1
  refine kl ex0 ρ σ H1 ex1 _ (fr.mono l) ?_
  rw [sat_bind] at q
  refine q.imp (fun o q H2 ex2 l2 => ?_) fun _ z => z.mono l
  refine kh ex0 ρ σ H2 ex2 _ ((fr.mono l).mono l2) ?_
  rw [sat_bind] at q
  refine q.imp (fun o2 q H3 ex3 l3 => ?_) fun _ z => z.mono (l.trans l2)
  have lt := (l.trans l2).trans l3
  refine ⟨a, vs, rfl, (l2.trans l3).same.seq hq, fun pp hp => ?_⟩
  have q : Post X.K ad H ex (.own .fz) Q (.lst (cutD ds o o2)) := q
  exact post_lst (ex := ex3) (fun v H' ex' fp l' r nd nw => q v H' ex' fp (lt.trans l') r nd fun a z zz => nw a z (lt.keep a zz)) (cut_ats (hA.mono (l2.trans l3).cuts) o o2) (Nat.le_trans (cutV_length _ _ _) hz) (fr.mono lt).exok hp
/-- of a tuple, a text -/
def slT (f : Env → R D) (g h : Env → R (Option Int)) : Env → R D := fun ρ => (f ρ).bind fun d => (g ρ).bind fun lo => (h ρ).bind fun hi => match d with
  | .tup ds => .ok (.tup (cutD ds lo hi))
  | .str z => if z.length ≤ 16777216 then .ok (.str (cutS z lo hi)) else .bad
  | _ => .bad
theorem cut_whole {α : Type} {ds : List α} {a b : Nat} (h1 : a = 0) (h2 : b = ds.length) : (ds.drop a).take (b - a) = ds := by
  subst h1 h2
  simp
theorem de_slT {e : Expr} {lo hi : Option Expr} {p2 : Pos} {f : Env → R D} {g h : Env → R (Option Int)} (he : DE X ad w G e .fz f) (hl : DP X ad w G lo g) (hh : DP X ad w G hi h) : DE X ad w G (.Subscript e (.Slice lo hi none p2) pos) .fz (slT f g h) := by
  obtain ⟨t, p, k⟩ := he
  obtain ⟨tl, pl, kl⟩ := hl
  obtain ⟨th, ph, kh⟩ := hh
  refine ⟨_, pe_slice (sl_tupA.or sl_str) p pl ph, fun ex0 ρ σ H ex Q fr q => ?_⟩
  refine k ex0 ρ σ H ex _ fr ?_
  unfold slT at q
  rw [sat_bind] at q
  refine q.imp (fun d q v H1 ex1 fp l r _ _ => ?_) fun _ z => z
  have a := rep_fz r
  refine kl ex0 ρ σ H1 ex1 _ (fr.mono l) ?_
  rw [sat_bind] at q
  refine q.imp (fun o q H2 ex2 l2 => ?_) fun _ z => z.mono l
  refine kh ex0 ρ σ H2 ex2 _ ((fr.mono l).mono l2) ?_
  rw [sat_bind] at q
  refine q.imp (fun o2 q H3 ex3 l3 => ?_) fun _ z => z.mono (l.trans l2)
  have lt := (l.trans l2).trans l3
  have a3 := a.mono (l2.trans l3).cuts
  cases a3 with
  | @tup b vs ds h hz hs =>
    refine .inl ⟨b, vs, rfl, seqT cut_same h, fun hw => ?_, fun hw pp hp => ?_⟩
    · have e : cutD ds o o2 = ds := by
        unfold cutD
        rw [hs.length]
        exact cut_whole hw.1 (hw.2.trans hs.length.symm)
      have q : Post X.K ad H ex .fz Q (.tup (cutD ds o o2)) := q
      rw [e] at q
      exact post_fz q lt (.tup h hz hs)
    · have q : Post X.K ad H ex .fz Q (.tup (cutD ds o o2)) := q
      exact post_tup (ex := ex3) (fun v H' ex' fp l' r nd nw => q v H' ex' fp (lt.trans l') r nd fun a z zz => nw a z (lt.keep a zz)) (cut_ats hs o o2) (Nat.le_trans (cutV_length _ _ _) hz) (fr.mono lt).exok hp
  | str z =>
    dsimp only at q
    split at q
    · rename_i hh
      exact .inr ⟨z, rfl, sq16 hh, post_fz q lt (.str _)⟩
    · exact q.elim
  | _ => exact q.elim
end
end DL

set_option Elab.async false
set_option linter.all false
set_option maxRecDepth 100000
set_option maxHeartbeats 4000000
set_option autoImplicit false
/-! DL9: sorted lists of rows; sorted(set(rows)). -/
namespace DL
open PySem PySem.Spec PyProof.Rows L2
open PySem.W (EachIs dataLe)
/-- a row of ints as data -/
def rowD (r : List Int) : D := .tup (r.map .int)
def rowOf : D → Option (List Int)
  | .tup ds => intL ds
  | _ => none
def rowsOfD : List D → Option (List (List Int))
  | [] => some []
  | d :: ds => match rowOf d, rowsOfD ds with
    | some r, some rs => some (r :: rs)
    | _, _ => none
theorem rowOf_D {d : D} {r : List Int} (h : rowOf d = some r) : d = rowD r := by
  cases d <;> first | cases h | skip
  unfold rowOf at h
  unfold rowD
  rw [ints_of h]
theorem rowsOf_D : ∀ {ds : List D} {rs : List (List Int)}, rowsOfD ds = some rs → ds = rs.map rowD
  | [], _, h => by cases h; rfl
  | d :: ds, rs, h => by
    unfold rowsOfD at h
    split at h
    · rename_i r rs' e1 e2
      cases h
      rw [rowOf_D e1, rowsOf_D e2]
      rfl
    · cases h
theorem rowsOf_map : ∀ rs : List (List Int), rowsOfD (rs.map rowD) = some rs
  | [] => rfl
  | r :: rs => by
    show rowsOfD (rowD r :: rs.map rowD) = _
    unfold rowsOfD
    rw [rowsOf_map rs]
    show (match intL (r.map .int), some rs with | some r, some rs => some (r :: rs) | _, _ => none) = _
    rw [ints_map]
def rowLe (a b : List Int) : Bool := decide (a ≤ b)
/-- the same by insertion: rising, each once -/
def insR (r : List Int) : List (List Int) → List (List Int)
  | [] => [r]
  | x :: xs => if r < x then r :: x :: xs else if r = x then x :: xs else x :: insR r xs
def sortU (rs : List (List Int)) : List (List Int) := rs.foldr insR []
theorem insR_mem {r : List Int} : ∀ {xs : List (List Int)} {y : List Int}, y ∈ insR r xs ↔ y = r ∨ y ∈ xs
  | [], y => by simp [insR]
  | x :: xs, y => by
    unfold insR
    split
    · simp
    · split
      · rename_i h
        subst h
        simp
      · rw [List.mem_cons, insR_mem (xs := xs), List.mem_cons]
        constructor
        · rintro (h | h | h) <;> simp [h]
        · rintro (h | h | h) <;> simp [h]
theorem insR_asc {r : List Int} : ∀ {xs : List (List Int)}, xs.Pairwise (· < ·) → (insR r xs).Pairwise (· < ·)
  | [], _ => by simp [insR]
  | x :: xs, h => by
    rw [List.pairwise_cons] at h
    unfold insR
    split
    · rename_i hr
      rw [List.pairwise_cons]
      refine ⟨fun y hy => ?_, List.pairwise_cons.mpr h⟩
      rcases List.mem_cons.mp hy with e | e
      · rw [e]; exact hr
      · exact List.lt_trans hr (h.1 y e)
    · split
      · exact List.pairwise_cons.mpr h
      · rename_i h1 h2
        rw [List.pairwise_cons]
        refine ⟨fun y hy => ?_, insR_asc h.2⟩
        rcases insR_mem.mp hy with e | e
        · subst e
          have : x ≤ y := List.not_lt.mp h1
          rcases Decidable.em (x < y) with z | z
          · exact z
          · exact absurd (List.le_antisymm (List.not_lt.mp z) this) h2
        · exact h.1 y e
theorem sortU_mem {rs : List (List Int)} {y : List Int} : y ∈ sortU rs ↔ y ∈ rs := by
  induction rs with
  | nil => rfl
  | cons r rs ih =>
    show y ∈ insR r (sortU rs) ↔ _
    rw [insR_mem, ih, List.mem_cons]
theorem sortU_asc {rs : List (List Int)} : (sortU rs).Pairwise (· < ·) := by
  induction rs with
  | nil => exact List.Pairwise.nil
  | cons r rs ih => exact insR_asc ih
theorem asc_ext : ∀ {a b : List (List Int)}, a.Pairwise (· < ·) → b.Pairwise (· < ·) → (∀ y, y ∈ a ↔ y ∈ b) → a = b
  | [], [], _, _, _ => rfl
  | [], y :: b, _, _, h => absurd ((h y).mpr List.mem_cons_self) (by simp)
  | x :: a, [], _, _, h => absurd ((h x).mp List.mem_cons_self) (by simp)
  | x :: a, y :: b, ha, hb, h => by
    rw [List.pairwise_cons] at ha hb
    have exy : x = y := by
      rcases List.mem_cons.mp ((h x).mp List.mem_cons_self) with e | e
      · exact e
      · rcases List.mem_cons.mp ((h y).mpr List.mem_cons_self) with e2 | e2
        · exact e2.symm
        · exact absurd (List.lt_trans (ha.1 y e2) (hb.1 x e)) (List.lt_irrefl _)
    subst exy
    have : a = b := asc_ext ha.2 hb.2 fun z => by
      constructor
      · intro hz
        rcases List.mem_cons.mp ((h z).mp (List.mem_cons_of_mem _ hz)) with e | e
        · rw [e] at hz
          exact absurd (ha.1 x hz) (List.lt_irrefl _)
        · exact e
      · intro hz
        rcases List.mem_cons.mp ((h z).mpr (List.mem_cons_of_mem _ hz)) with e | e
        · rw [e] at hz
          exact absurd (hb.1 x hz) (List.lt_irrefl _)
        · exact e
    rw [this]
theorem rowLe_tuple {β : Type} (x : β → List Int) : dataLe false (fun b => PyData.tuple ((x b).map .int)) = fun p q => rowLe (x p) (x q) := PySem.W.dataLe_rows x
theorem perm_out {α β : Type} {f : α → β} : ∀ {vs : List β} {L : List α}, vs.Perm (L.map f) → ∃ L1 : List α, L1.Perm L ∧ vs = L1.map f
  | [], L, h => by
    have : L.map f = [] := h.nil_eq.symm
    rw [List.map_eq_nil_iff] at this
    exact ⟨[], by rw [this], rfl⟩
  | v :: vs, L, h => by
    obtain ⟨q, hq, e⟩ := List.mem_map.mp (h.mem_iff.mp List.mem_cons_self)
    obtain ⟨l1, l2, rfl⟩ := List.append_of_mem hq
    have h2 : (v :: vs).Perm (v :: (l1 ++ l2).map f) := by
      refine h.trans ?_
      rw [List.map_append, List.map_cons, e, List.map_append]
      exact List.perm_middle
    obtain ⟨L1, p, e2⟩ := perm_out (List.Perm.cons_inv h2)
    exact ⟨q :: L1, (p.cons q).trans List.perm_middle.symm, by rw [List.map_cons, e, e2]⟩
section
variable {X : Cx} {ad : Adr} {w : Wi} {G : Shs} {pos : Pos}
/-- rows with what stands for them -/
def RowsAt (K : PySem.W.Frag) (H : Hp) (bs : List (List Int × V)) : Prop := ∀ p ∈ bs, ∃ t, p.2 = .ref t ∧ SqT K H t (p.1.map V.int)
theorem rows_at {K : PySem.W.Frag} {H : Hp} : ∀ {rs : List (List Int)} {vs : List V}, Ats K ad H (rs.map rowD) vs → ∃ bs : List (List Int × V), bs.map (·.1) = rs ∧ bs.map (·.2) = vs ∧ RowsAt K H bs
  | [], _, h => by
    cases h
    exact ⟨[], rfl, rfl, fun p hp => by cases hp⟩
  | r :: rs, _, h => by
    cases h with
    | cons h hs =>
      obtain ⟨bs, e1, e2, k⟩ := rows_at hs
      cases h with
      | @tup a us _ h _ hu =>
        refine ⟨(r, .ref a) :: bs, by simp [e1], by simp [e2], fun p hp => ?_⟩
        rcases List.mem_cons.mp hp with e | e
        · subst e
          rw [ats_ints hu] at h
          exact ⟨a, rfl, h⟩
        · exact k p e
theorem at_row {K : PySem.W.Frag} {H : Hp} {t : Addr} {r : List Int} (h : SqT K H t (r.map V.int)) (hz : r.length ≤ sizeLine) : At K ad H (rowD r) (.ref t) := .tup h (by rw [List.length_map]; exact hz) (ints_ats r)
theorem dp_intsT {K : PySem.W.Frag} {H : Hp} : ∀ r : List Int, DpAll K H (r.map V.int) (r.map PyData.int)
  | [] => .nil
  | i :: r => .cons (.int i) (dp_intsT r)
theorem each_rel : ∀ {bs : List (List Int × V)} {us : List Value}, Vals (bs.map (·.2)) us → EachIs (fun v b => RelV b.2 v) us bs
  | [], _, r => by
    cases r
    exact .nil
  | b :: bs, _, r => by
    cases r with
    | cons r t => exact .cons r (each_rel t)
theorem rel_each : ∀ {bs : List (List Int × V)} {us : List Value}, EachIs (fun v b => RelV b.2 v) us bs → Vals (bs.map (·.2)) us
  | _, _, .nil => .nil
  | _, _, .cons h t => .cons h (rel_each t)
theorem each_and {α β : Type} {S T : α → β → Prop} : ∀ {us : List α} {bs : List β}, EachIs S us bs → (∀ v b, b ∈ bs → S v b → T v b) → EachIs T us bs
  | _, _, .nil, _ => .nil
  | _, _, .cons h t, k => .cons (k _ _ List.mem_cons_self h) (each_and t fun v b hb => k v b (List.mem_cons_of_mem _ hb))
theorem shaped_row (r : List Int) : PyData.depth (.tuple (r.map PyData.int)) = 1 := by
  show PyData.depthAll (r.map .int) + 1 = 1
  rw [PySem.W.depth_ints]
/-- rows read off the heap -/
theorem rows_read {pins : List (Addr × Obj)} {σ : L2.St} {H : Hp} {s : Shared} (I : Inv X pins σ H s) {bs : List (List Int × V)} (hb : RowsAt X.K H bs) {us : List Value} (e : EachIs (fun v b => RelV b.2 v) us bs) :
    EachIs (fun v (b : List Int × V) => ∃ as, Reads s.heap v (PyData.tuple (b.1.map .int)) as) us bs := each_and e fun v b hm r => by
  obtain ⟨t, et, ht⟩ := hb b hm
  refine Dp.reads I _ b.2 v ?_ r
  rw [et]
  exact .tup ht (dp_intsT b.1)
theorem alike_rows (bs : List (List Int × V)) : PySem.W.AllAlike (bs.map fun b => PyData.tuple (b.1.map .int)) := PySem.W.AllAlike.of fun b b' => by
  unfold PySem.W.alike
  exact PySem.W.alike_ints _ _
theorem sortable_rows {bs : List (List Int × V)} (h : ∀ b ∈ bs, b.1 ≠ []) : PySem.W.Sortable (bs.map fun b => PyData.tuple (b.1.map .int)) := .inl fun d hd => by
  obtain ⟨b, hb, rfl⟩ := List.mem_map.mp hd
  cases e : b.1 with
  | nil => exact absurd e (h b hb)
  | cons i r => exact ⟨.int i, r.map .int, rfl⟩
def rSortRows (K : PySem.W.Frag) : List V → Hp → VK → Prop := fun vs H Q => ∃ (a : Addr) (bs : List (List Int × V)), vs = [.ref a] ∧ SqL K H a (bs.map (·.2)) ∧ RowsAt K H bs ∧ (∀ b ∈ bs, b.1 ≠ []) ∧ bs.length ≤ sizeLine ∧
  ∀ p, H p = none → Q (.ref p) (upd H p (.lst ((bs.mergeSort fun p q => rowLe p.1 q.1).map (·.2))))
theorem cr_sortRows (hu : X.A.units + 64 < cLine) : CallR X (.builtin "sorted") (rSortRows X.K) := by
  intro pins s σ H vs us Q I r h
  obtain ⟨a, bs, rfl, hs, hb, hne, hz, q⟩ := h
  obtain ⟨its, rv, hl, _⟩ := I.list hs
  rw [Vals.ref1 r]
  have e := each_rel rv
  refine PySem.W.sorted_data (enc := fun b : List Int × V => PyData.tuple (b.1.map .int)) hl.isList e (rows_read I hb e) (alike_rows bs) (sortable_rows hne) hz (fun b _ => by rw [shaped_row]; omega) fun out ho he => ?_
  rw [rowLe_tuple fun b : List Int × V => b.1] at he
  obtain ⟨ep, hp⟩ := sortedAll_at s.heap its (List.toArray out)
  refine ⟨.ref _, upd H (s.heap.objs.size + 1) (.lst ((bs.mergeSort fun p q => rowLe p.1 q.1).map (·.2))), I.laid (t' := s.toks) (fun _ _ => sortedAll_old) (Nat.le_succ _) ⟨?_, out, ep, rel_each he, hp⟩, rfl, q _ (I.hok.fresh (Nat.le_succ _))⟩
  rw [List.length_map, List.length_mergeSort]
  exact hz
/-- sorted of a set of rows -/
def rSortSet (K : PySem.W.Frag) (P : Program) (wd : World) : List V → Hp → VK → Prop := fun vs H Q => ∃ (a : Addr) (L : List (Addr × List Int)), vs = [.ref a] ∧ H a = some (SetTO P wd a L) ∧ (∀ p ∈ L, SqT K H p.1 (p.2.map V.int) ∧ p.2 ≠ []) ∧
  ∀ (L' : List (List Int × V)) (p : Addr), (∀ b ∈ L', ∃ q ∈ L, b = (q.2, V.ref q.1)) → L'.map (·.1) = sortU (L.map (·.2)) → H p = none → Q (.ref p) (upd H p (.lst (L'.map (·.2))))
theorem cr_sortSet (hc : X.calm = true) (hu : X.A.units + 64 < cLine) : CallR X (.builtin "sorted") (rSortSet X.K X.prog X.w) := by
  intro pins s σ H vs us Q I r h
  obtain ⟨a, L, rfl, ha, hk, q⟩ := h
  rw [Vals.ref1 r]
  have hT : SetT0 X.prog X.w s.heap a L := by
    have z := I.hok a _ ha
    exact z.1
  obtain ⟨es, ep, t, Rr⟩ := hT.full fun p hp => I.isT (hk p hp).1
  obtain ⟨o, ho, hex, hd⟩ := Rr.ob
  have hfew := Rr.few
  have hsz := Rr.size
  refine Calls.call_function_entry kind_sorted plain_sorted entry_sorted (args_sorted1 _) (show wpAny _ _ (Builtin.«sorted» _) _ _ _ from ?_)
  unfold Builtin.«sorted»
  refine wpAny_bind (m := checkCount "sorted" 1 1 _) (wpAny_pure (wpAny_bind (collect_set (A := X.A.in1) (I.ok.hd hc) ⟨o, ho, hex.1, hd⟩ Rr.fits (by unfold scanBound; omega) Rr.tab.ris Rr.led fun s1 vs k1 hz g1 o1 pm => ?_)))
  have hes : es.toList.map (·.2) = L.map fun q => Value.ref q.1 := by
    rw [Rr.rows, rowsOf, List.map_map] <;> rfl
  rw [hes] at pm
  obtain ⟨L1, pL, ev⟩ := perm_out pm
  obtain ⟨bs, ebs⟩ : ∃ bs : List (List Int × V), bs = L1.map fun q => (q.2, V.ref q.1) := ⟨_, rfl⟩
  have eb : EachIs (fun v (b : List Int × V) => RelV b.2 v) vs bs := by
    rw [ev, ebs]
    clear pL ev ebs
    induction L1 with
    | nil => exact .nil
    | cons q L1 ih => exact .cons rfl ih
  have hbs : ∀ b ∈ bs, ∃ q ∈ L, b = (q.2, V.ref q.1) := fun b hb => by
    rw [ebs] at hb
    obtain ⟨q, hq, e⟩ := List.mem_map.mp hb
    exact ⟨q, pL.mem_iff.mp hq, e.symm⟩
  have hlen : vs.length = L.length := by rw [pm.length_eq, List.length_map]
  have hbl : bs.length = vs.length := by rw [← List.length_map (·.2) (as := bs), (rel_each eb).length]
  have hrows : RowsAt X.K H bs := fun b hb => by
    obtain ⟨q, hq, e⟩ := hbs b hb
    subst e
    exact ⟨q.1, rfl, (hk q hq).1⟩
  have hreads : EachIs (fun v (b : List Int × V) => ∃ as, Reads s.heap v (PyData.tuple (b.1.map .int)) as ∧ s1.heap.objs.size ∉ as) vs bs := each_and eb fun v b hm rr => by
    obtain ⟨t, et, ht⟩ := hrows b hm
    obtain ⟨its, r1, ⟨o2, e2, hc2, n2, hd2⟩, _⟩ := I.tuple ht
    rw [et] at rr
    cases rr
    have hi := r1
    have rd : ∀ (ns : List Int) (us : List Value), Vals (ns.map V.int) us → ReadsAll s.heap us (ns.map .int) [] := by
      intro ns
      induction ns with
      | nil => intro us r; cases r; exact .nil
      | cons n ns ih =>
        intro us r
        cases r with
        | cons r t =>
          obtain ⟨tk, rfl⟩ := r
          exact ReadsAll.cons (as := []) (bs := []) (.int n tk) (ih _ t)
    exact ⟨[], .tuple e2 hc2 hd2 (by simpa using rd b.1 its r1), by simp⟩
  refine wpAny_bind (wpAny_newList ?_ (by rw [sizeLine_eq]; omega))
  have hoL : (s1.heap.push (seqObj "list" vs.toArray 0)).get? s1.heap.objs.size = some (seqObj "list" vs.toArray 0) := Heap.get?_push_size _ rfl
  have kk : ∀ b u, s.heap.get? b = some u → (s1.heap.push (seqObj "list" vs.toArray 0)).get? b = some u := fun b u e => Heap.get?_push_of_some _ (k1 b u e)
  have hne : ∀ b ∈ bs, b.1 ≠ [] := fun b hb => by
    obtain ⟨q, hq, e⟩ := hbs b hb
    subst e
    exact (hk q hq).2
  refine wpAny_bind (wpAny_holding (PySem.W.list_sort_data (s := { s1 with heap := s1.heap.push (seqObj "list" vs.toArray 0) }) (enc := fun b : List Int × V => PyData.tuple (b.1.map .int)) hoL eb (each_and hreads fun v b _ ⟨as, r, n⟩ => ⟨as, PyProof.Rows.Reads.keeps kk r, n⟩) (alike_rows bs) (sortable_rows hne)
    (by rw [sizeLine_eq]; omega) (fun b _ => by show X.A.units + 1 + 1 + _ < _; rw [shaped_row]; omega) fun out hout heach => ?_))
  rw [rowLe_tuple fun b : List Int × V => b.1] at heach
  obtain ⟨c, hcc⟩ := sortedHeap_at (vs := vs) (out := out.toArray) hoL
  have hperm : (bs.mergeSort fun p q => rowLe p.1 q.1).Perm bs := List.mergeSort_perm _ _
  have hmem : ∀ b ∈ bs.mergeSort (fun p q => rowLe p.1 q.1), ∃ q ∈ L, b = (q.2, V.ref q.1) := fun b hb => hbs b (hperm.mem_iff.mp hb)
  have hold : ∀ b u, s.heap.get? b = some u → (sortedHeap (s1.heap.push (seqObj "list" vs.toArray 0)) s1.heap.objs.size vs out.toArray).get? b = some u := fun b u e => by
    have q1 := k1 b u e
    have hlt := Heap.lt_size q1
    rw [sortedHeap_old (Nat.ne_of_lt hlt) (by rw [size_push']; exact Nat.lt_succ_of_lt hlt)]
    exact Heap.get?_push_of_some _ q1
  have keys : bs.map (·.1) = L1.map (·.2) := by
    rw [ebs, List.map_map]
    rfl
  have hsort : (bs.mergeSort fun p q => rowLe p.1 q.1).map (·.1) = sortU (L.map (·.2)) := by
    refine asc_ext ?_ sortU_asc fun y => ?_
    · have h1 : (bs.mergeSort fun p q => rowLe p.1 q.1).Pairwise fun p q => rowLe p.1 q.1 = true := List.pairwise_mergeSort (le := fun p q : List Int × V => rowLe p.1 q.1)
        (fun a b c h1 h2 => decide_eq_true (List.le_trans (of_decide_eq_true h1) (of_decide_eq_true h2))) (fun a b => by
          rcases List.le_total a.1 b.1 with z | z
          · simp [rowLe, z]
          · simp [rowLe, z]) bs
      have h2 : ((bs.mergeSort fun p q => rowLe p.1 q.1).map (·.1)).Nodup := by
        refine ((hperm.map (·.1)).nodup_iff).mpr ?_
        rw [keys]
        exact ((pL.map (·.2)).nodup_iff).mpr Rr.nd
      refine List.Pairwise.imp₂ (fun a b (h3 : a ≤ b) (h4 : a ≠ b) => ?_) (List.pairwise_map.mpr (h1.imp fun z => of_decide_eq_true z)) h2
      rcases Decidable.em (a < b) with z | z
      · exact z
      · exact absurd (List.le_antisymm h3 (List.not_lt.mp z)) h4
    · rw [sortU_mem, (hperm.map (·.1)).mem_iff, keys, (pL.map (·.2)).mem_iff]
  have hlen2 : ((bs.mergeSort fun p q => rowLe p.1 q.1).map (·.2)).length ≤ sizeLine := by
    rw [List.length_map, List.length_mergeSort, sizeLine_eq]
    omega
  have hnone : H s1.heap.objs.size = none := I.hok.fresh hz
  have J : Inv X pins σ (upd H s1.heap.objs.size (.lst ((bs.mergeSort fun p q => rowLe p.1 q.1).map (·.2)))) { s with heap := sortedHeap (s1.heap.push (seqObj "list" vs.toArray 0)) s1.heap.objs.size vs out.toArray, gens := s1.gens, drawn := s1.drawn, toks := s1.toks } :=
    I.call (ch := []) (Un.laid hold hz hnone) (I.hok.laid hold hz ⟨hlen2, out, c, rel_each heach, hcc⟩) (by rw [g1]; exact I.bare) (fun _ z => nomatch z)
  refine wpAny_pure ⟨_, rfl, .ref s1.heap.objs.size, _, ?_, rfl, q _ s1.heap.objs.size hmem hsort hnone⟩
  have e : ({ s1 with heap := sortedHeap (s1.heap.push (seqObj "list" vs.toArray 0)) s1.heap.objs.size vs out.toArray } : Shared) = { s with heap := sortedHeap (s1.heap.push (seqObj "list" vs.toArray 0)) s1.heap.objs.size vs out.toArray, gens := s1.gens, drawn := s1.drawn, toks := s1.toks } := by
    cases s1
    cases s
    cases o1
    rfl
  rw [e]
  exact J
/-- sorted(rows) -/
def oSort (ds : List D) : R D := match rowsOfD ds with
  | some rs => if rs.all (fun r => !r.isEmpty) = true then .ok (.lst ((rs.mergeSort rowLe).map rowD)) else .bad
  | none => .bad
theorem map_sort {bs : List (List Int × V)} : (bs.mergeSort fun p q => rowLe p.1 q.1).map (·.1) = (bs.map (·.1)).mergeSort rowLe := List.map_mergeSort fun _ _ _ _ => rfl
theorem insR_len (x : List Int) (xs : List (List Int)) : (insR x xs).length ≤ xs.length + 1 := by
  induction xs with
  | nil => simp [insR]
  | cons y ys ih2 =>
    unfold insR
    split
    · simp
    · split
      · simp
      · simp only [List.length_cons]
        omega
theorem sortU_len (rs : List (List Int)) : (sortU rs).length ≤ rs.length := by
  induction rs with
  | nil => exact Nat.le_refl _
  | cons r rs ih => exact Nat.le_trans (insR_len r (sortU rs)) (Nat.succ_le_succ ih)
theorem rows_ats {K : PySem.W.Frag} {H : Hp} : ∀ {bs : List (List Int × V)}, RowsAt K H bs → (∀ b ∈ bs, b.1.length ≤ sizeLine) → Ats K ad H ((bs.map (·.1)).map rowD) (bs.map (·.2))
  | [], _, _ => .nil
  | b :: bs, h, hz => by
    obtain ⟨t, e, ht⟩ := h b List.mem_cons_self
    refine .cons ?_ (rows_ats (fun p hp => h p (List.mem_cons_of_mem _ hp)) fun p hp => hz p (List.mem_cons_of_mem _ hp))
    show At _ _ _ (rowD b.1) b.2
    rw [e]
    exact at_row ht (hz b List.mem_cons_self)
theorem rows_len {K : PySem.W.Frag} {H : Hp} : ∀ {rs : List (List Int)} {vs : List V}, Ats K ad H (rs.map rowD) vs → ∀ r ∈ rs, r.length ≤ sizeLine
  | [], _, _, r, hr => by cases hr
  | r0 :: rs, _, h, r, hr => by
    cases h with
    | cons h hs =>
      rcases List.mem_cons.mp hr with e | e
      · subst e
        cases h with
        | tup _ hz hu =>
          rw [← hu.length, List.length_map] at hz
          exact hz
      · exact rows_len hs r e
theorem de_sorted {p : Pos} {e : Expr} {f : Env → R (List D)} (hu : X.A.units + 64 < cLine) (h : DK X ad w G e f) (hm : X.mg "sorted" = none := by assumption) (hg : Gl X "sorted" := by rfl) (hs : starEach [e] X.env = (false, eval e X.env) :: starEach [] X.env := by rfl) (hpl : (backTo pos (starEach [] X.env)).any (·.1) = false := by rfl) :
    DE X ad w G (.Call (.Name "sorted" p) [e] [] pos) (.own .fz) (oL oSort f) := by
  obtain ⟨t, pa, k⟩ := da_k h hs
  refine ⟨_, pe_callB (cr_sortRows hu) hg hm PyProof.Rows.boot_sorted pa (by decide) (by decide) hs hpl, fun ex0 ρ σ H ex Q fr q => ?_⟩
  refine k ex0 ρ σ H ex _ fr ?_
  unfold oL at q
  rw [sat_bind] at q
  refine q.imp (fun ds q v H1 ex1 l ⟨a, vs, e1, hq, hz, hA⟩ => ?_) fun _ z => z
  subst e1
  unfold oSort at q
  split at q
  · rename_i rs er
    split at q
    · rename_i hne
      have e2 := rowsOf_D er
      subst e2
      obtain ⟨bs, e3, e4, hb⟩ := rows_at hA
      have hzr := rows_len hA
      have hbl : bs.length ≤ sizeLine := by
        rw [← e4, List.length_map] at hz
        exact hz
      refine ⟨a, bs, rfl, by rw [e4]; exact hq, fun p hp => ?_, fun b hb' => ?_, hbl, fun pp hp => ?_⟩
      · obtain ⟨t, e5, e6⟩ := hb p hp
        exact ⟨t, e5, seqT cut_same e6⟩
      · have := List.all_eq_true.mp hne b.1 (by rw [← e3]; exact List.mem_map_of_mem hb')
        simpa using this
      · have q : Post X.K ad H ex (.own .fz) Q (.lst ((rs.mergeSort rowLe).map rowD)) := q
        have pm : (bs.mergeSort fun p q => rowLe p.1 q.1).Perm bs := List.mergeSort_perm _ _
        refine post_lst (ex := ex1) (fun v H' ex' fp l' r nd nw => q v H' ex' fp (l.trans l') r nd fun a z zz => nw a z (l.keep a zz)) ?_ (by rw [List.length_map, List.length_mergeSort]; exact hbl) (fr.mono l).exok hp
        rw [← e3, ← map_sort]
        refine rows_ats (fun p hp => hb p (pm.mem_iff.mp hp)) fun p hp => hzr p.1 ?_
        rw [← e3]
        exact List.mem_map_of_mem (pm.mem_iff.mp hp)
    · exact q.elim
  · exact q.elim
/-- sorted(set(rows)), fewer than 64 -/
def oSortSet (ds : List D) : R D := match rowsOfD ds with
  | some rs => if rs.all (fun r => !r.isEmpty) = true ∧ rs.length < 64 then .ok (.lst ((sortU rs).map rowD)) else .bad
  | none => .bad
theorem de_sortSet {p p2 pos2 : Pos} {e : Expr} {f : Env → R (List D)} (hc : X.calm = true) (hu : X.A.units + 64 < cLine) (h : DK X ad w G e f) (hm : X.mg "sorted" = none := by assumption) (hm2 : X.mg "set" = none := by assumption) (hg : Gl X "sorted" := by rfl) (hg2 : Gl X "set" := by rfl)
    (hs : starEach [e] X.env = (false, eval e X.env) :: starEach [] X.env := by rfl) (hpl : (backTo pos2 (starEach [] X.env)).any (·.1) = false := by rfl)
    (hs2 : starEach [.Call (.Name "set" p2) [e] [] pos2] X.env = (false, eval (.Call (.Name "set" p2) [e] [] pos2) X.env) :: starEach [] X.env := by rfl) (hpl2 : (backTo pos (starEach [] X.env)).any (·.1) = false := by rfl) :
    DE X ad w G (.Call (.Name "sorted" p) [.Call (.Name "set" p2) [e] [] pos2] [] pos) (.own .fz) (oL oSortSet f) := by
  obtain ⟨t, pa, k⟩ := da_k h hs
  refine ⟨_, pe_callB (cr_sortSet hc hu) hg hm PyProof.Rows.boot_sorted (pa_cons (pe_callTy (cr_setOfT hc hu) hg2 hm2 PyProof.Rows.boot_set pa (by decide) (by decide) hs hpl) pa_nil hs2) (by decide) (by decide) hs2 hpl2, fun ex0 ρ σ H ex Q fr q => ?_⟩
  refine k ex0 ρ σ H ex _ fr ?_
  unfold oL at q
  rw [sat_bind] at q
  refine q.imp (fun ds q v H1 ex1 l ⟨a, vs, e1, hq, hz, hA⟩ => ?_) fun _ z => z
  subst e1
  unfold oSortSet at q
  split at q
  · rename_i rs er
    split at q
    · rename_i hne
      have e2 := rowsOf_D er
      subst e2
      obtain ⟨bs, e3, e4, hb⟩ := rows_at hA
      have hzr := rows_len hA
      -- the rows by their addresses
      obtain ⟨ks, k1, k2⟩ : ∃ ks : List (Addr × List Int), bs = ks.map (fun p => (p.2, V.ref p.1)) ∧ ∀ p ∈ ks, SqT X.K (cut H1 ex1) p.1 (p.2.map V.int) := by
        clear e3 e4 hne q er hzr hA hz hq
        induction bs with
        | nil => exact ⟨[], rfl, fun p hp => by cases hp⟩
        | cons b bs ih =>
          obtain ⟨ks, k1, k2⟩ := ih fun p hp => hb p (List.mem_cons_of_mem _ hp)
          obtain ⟨t, e5, e6⟩ := hb b List.mem_cons_self
          refine ⟨(t, b.1) :: ks, ?_, fun p hp => ?_⟩
          · rw [k1, List.map_cons]
            cases b
            cases e5
            rfl
          · rcases List.mem_cons.mp hp with z | z
            · subst z
              exact e6
            · exact k2 p z
      have e5 : ks.map (·.2) = rs := by
        rw [← e3, k1, List.map_map]
        rfl
      have e6 : ks.map (fun p => V.ref p.1) = vs := by
        rw [← e4, k1, List.map_map]
        rfl
      refine ⟨a, ks, rfl, by rw [e6]; exact hq, fun p hp => seqT cut_same (k2 p hp), by rw [← List.length_map (·.2) (as := ks), e5]; exact hne.2, fun a2 L hn sub sup => ?_⟩
      have ls : Le H1 ex1 (upd H1 a2 (SetTO X.prog X.w a2 L)) ex1 := Le.lay hn
      refine ⟨a2, L, rfl, upd_same, fun p hp => ⟨seqT (ls.same) (seqT cut_same (k2 p (sub p hp))), ?_⟩, fun L' pp hL1 hL2 hp => ?_⟩
      · have := List.all_eq_true.mp hne.1 p.2 (by rw [← e5]; exact List.mem_map_of_mem (sub p hp))
        simpa using this
      · have q : Post X.K ad H ex (.own .fz) Q (.lst ((sortU rs).map rowD)) := q
        have lt := l.trans ls
        have hsame : sortU (L.map (·.2)) = sortU rs := asc_ext sortU_asc sortU_asc fun y => by
          rw [sortU_mem, sortU_mem, ← e5]
          constructor
          · intro hy
            obtain ⟨p, hp, e⟩ := List.mem_map.mp hy
            exact List.mem_map.mpr ⟨p, sub p hp, e⟩
          · intro hy
            obtain ⟨p, hp, e⟩ := List.mem_map.mp hy
            rw [← e]
            exact sup p hp
        have hk : ∀ b ∈ L', ∃ p ∈ ks, b = (p.2, V.ref p.1) := fun b hb => by
          obtain ⟨p, hp, e⟩ := hL1 b hb
          exact ⟨p, sub p hp, e⟩
        have hlen : L'.length ≤ rs.length := by
          rw [← List.length_map (·.1) (as := L'), hL2, hsame]
          exact sortU_len rs
        have hlt := hne.2
        refine post_lst (ex := ex1) (fun v H' ex' fp l' r nd nw => q v H' ex' fp (lt.trans l') r nd fun a z zz => nw a z (lt.keep a zz)) ?_ (by rw [List.length_map, sizeLine_eq]; omega) (fr.mono lt).exok hp
        rw [← hsame, ← hL2]
        refine rows_ats (fun b hb => ?_) fun b hb => ?_
        · obtain ⟨p, hp, e⟩ := hk b hb
          subst e
          exact ⟨p.1, rfl, seqT ls.cuts (k2 p hp)⟩
        · obtain ⟨p, hp, e⟩ := hk b hb
          subst e
          exact hzr p.2 (by rw [← e5]; exact List.mem_map_of_mem hp)
    · exact q.elim
  · exact q.elim
end
end DL

set_option Elab.async false
set_option linter.all false
set_option maxRecDepth 100000
set_option maxHeartbeats 4000000
set_option autoImplicit false
/-! DL10: what the printed derivations lean on besides. -/
namespace DL
open PySem PySem.Spec PyProof.Rows L2 RZ
/-- the built-in names are the built-ins -/
structure Bt (mg : Str → Option Value) : Prop where
  len : mg "len" = none
  range : mg "range" = none
  tuple : mg "tuple" = none
  list : mg "list" = none
  max : mg "max" = none
  min : mg "min" = none
  sum : mg "sum" = none
  all : mg "all" = none
  any : mg "any" = none
  abs : mg "abs" = none
  int : mg "int" = none
  str : mg "str" = none
  sorted : mg "sorted" = none
  set : mg "set" = none
  enumerate : mg "enumerate" = none
  zip : mg "zip" = none
  isinstance : mg "isinstance" = none
  bool : mg "bool" = none
theorem units5 {k : Nat} {A : Around} (r : Room k A) : A.units + 65 < cLine := by
  have := r.un
  omega
theorem no_add : ∀ d e c, oAdd d e ≠ .exc c := by
  intro d e c z
  unfold oAdd at z
  split at z <;> (try split at z) <;> cases z
theorem no_sub : ∀ d e c, oSub d e ≠ .exc c := by
  intro d e c z
  unfold oSub at z
  split at z <;> cases z
theorem no_mul : ∀ d e c, oMul d e ≠ .exc c := by
  intro d e c z
  unfold oMul at z
  split at z <;> (try split at z) <;> cases z
theorem no_div : ∀ d e c, oDiv d e ≠ .exc c := by
  intro d e c z
  unfold oDiv at z
  split at z <;> (try split at z) <;> cases z
theorem no_mod : ∀ d e c, oMod d e ≠ .exc c := by
  intro d e c z
  unfold oMod at z
  split at z <;> (try split at z) <;> cases z
theorem no_pow : ∀ d e c, oPow d e ≠ .exc c := by
  intro d e c z
  unfold oPow at z
  split at z <;> (try split at z) <;> cases z
/-- as many turns as a while may want -/
def fuel : Env → Nat := fun _ => 1000000000000
def tupK (ds : List D) : R D := .ok (.tup ds)
def lstK (ds : List D) : R D := .ok (.lst ds)
section
variable {X : Cx} {ad : Adr} {w : Wi} {rs : Sh} {G : Shs} {pos : Pos} {tg : Expr}
/-- a list or a tuple, walked -/
def itS : D → R (List D)
  | .lst ds => .ok ds
  | .tup ds => .ok ds
  | _ => .bad
def iS (f : Env → R D) : Env → R (List D) := fun ρ => (f ρ).bind itS
theorem pi_or {iter : Expr} {w1 w2 : TI} (h1 : PI X tg iter w1) (h2 : PI X tg iter w2) : PI X tg iter (fun σ H Rr => w1 σ H Rr ∨ w2 σ H Rr) := ⟨fun pins s σ H Rr I h => h.elim (h1.run pins s σ H Rr I) (h2.run pins s σ H Rr I)⟩
def iLT (K : PySem.W.Frag) (tl : TE) : TI := fun σ H Rr => tl σ H fun x H1 => ∃ a, x = .ref a ∧ (((∃ xs, SqL K H1 a xs) ∧ Rr (Itl K a) H1) ∨ ((∃ xs, SqT K H1 a xs) ∧ Rr (Itt K a) H1))
theorem pi_lt {l : Expr} {tl : TE} (hl : PE X l tl) : PI X tg l (iLT X.K tl) := by
  refine ⟨fun pins s σ H Rr I h => ?_⟩
  refine thn (hl.run pins s σ H (fun x H1 => ∃ a, x = .ref a ∧ (((∃ xs, SqL X.K H1 a xs) ∧ Rr (Itl X.K a) H1) ∨ ((∃ xs, SqT X.K H1 a xs) ∧ Rr (Itt X.K a) H1))) I h) fun v s1 ⟨x, H1, I1, r1, q1⟩ => ?_
  obtain ⟨a, ex, q⟩ := q1
  subst ex
  cases r1
  have mk : ∀ b ∈ [s1.heap.objs.size], FpOk X pins H1 b := fun b hb => by
    have e : b = s1.heap.objs.size := by simpa using hb
    rw [e]
    exact I1.fpOk (Nat.le_refl _) (I1.hok.fresh (Nat.le_refl _))
  rcases q with ⟨⟨xs, hq⟩, q⟩ | ⟨⟨xs, hq⟩, q⟩
  · obtain ⟨its, rv, p, hz⟩ := I1.list hq
    exact wpAny_pyIter_list p.isList ⟨s1.heap.objs.size, [s1.heap.objs.size], _, _, H1, rfl, I1.kept (t' := s1.toks) fun b o e => Heap.get?_push_of_some _ e, turn_list a _, ⟨_, Heap.get?_push_size _ rfl, rfl, rfl⟩, mk, q⟩
  · obtain ⟨its, rv, p, hz⟩ := I1.tuple hq
    exact wpAny_pyIter_tuple (show s1.heap.IsTuple a its.toArray from p) ⟨s1.heap.objs.size, [s1.heap.objs.size], _, _, H1, rfl, I1.kept (t' := s1.toks) fun b o e => Heap.get?_push_of_some _ e, turn_tuple a _, ⟨_, Heap.get?_push_size _ rfl, rfl, rfl⟩, mk, q⟩
theorem di_seq {e : Expr} {f : Env → R D} (h : DE X ad w G e .fz f) : DI X ad w G tg e (iS f) := by
  obtain ⟨t, p, k⟩ := h
  refine ⟨_, pi_lt p, fun ex0 ρ σ H ex Rr fr q => ?_⟩
  refine k ex0 ρ σ H ex _ fr ?_
  unfold iS at q
  rw [sat_bind] at q
  refine q.imp (fun d q v H1 ex1 fp l r _ _ => ?_) fun _ z => z
  have a := rep_fz r
  cases a with
  | @lst a vs ds h hz hs =>
    refine ⟨a, rfl, .inl ⟨⟨vs, cut_same.seq h⟩, q (Itl X.K a) H1 ex1 vs.length _ _ l hs.length.symm hz walk_list (fun H' ex' m => (Same.trans m cut_same).seq h) fun i H' ex' x H'' hi m _ y => ?_⟩⟩
    obtain ⟨e1, e2⟩ := y
    subst e1
    obtain ⟨d, hd, ha⟩ := hs.getV e2
    exact ⟨d, hd, Le.refl _ _, ha.mono m⟩
  | @tup a vs ds h hz hs =>
    refine ⟨a, rfl, .inr ⟨⟨vs, seqT cut_same h⟩, q (Itt X.K a) H1 ex1 vs.length _ _ l hs.length.symm hz walk_tup (fun H' ex' m => seqT (Same.trans m cut_same) h) fun i H' ex' x H'' hi m _ y => ?_⟩⟩
    obtain ⟨e1, e2⟩ := y
    subst e1
    obtain ⟨d, hd, ha⟩ := hs.getV e2
    exact ⟨d, hd, Le.refl _ _, ha.mono m⟩
  | _ => exact q.elim
/-- zip of two lists or two tuples -/
def itZA : List D → R (List D)
  | [.lst ds, .lst es] => .ok ((ds.zip es).map fun p => .tup [p.1, p.2])
  | [.tup ds, .tup es] => .ok ((ds.zip es).map fun p => .tup [p.1, p.2])
  | _ => .bad
theorem walk_zipT {K : PySem.W.Frag} {a b : Addr} {xs ys : List V} {n : Nat} (hn : n = min xs.length ys.length) : Walk (ItzT K a b) n (fun H => SqT K H a xs ∧ SqT K H b ys) (YPair (fun i => xs[i]?) (fun i => ys[i]?)) := by
  subst hn
  refine ⟨fun i _ hi q => ?_, fun _ q => ⟨xs, ys, q.1, q.2, by omega⟩, fun i H v H' _ q y => ?_⟩
  · have h1 : i < xs.length := by omega
    have h2 : i < ys.length := by omega
    exact ⟨xs, ys, xs[i], ys[i], q.1, q.2, List.getElem?_eq_getElem h1, List.getElem?_eq_getElem h2⟩
  · obtain ⟨T, x, z, h1, h2, h3, h4, h5⟩ := y
    exact ⟨T, x, z, h1, h2, h3, h4 xs q.1, h5 ys q.2⟩
theorem zip_turn {K : PySem.W.Frag} {ds es : List D} {vs us : List V} {H1 : Hp} {ex1 : Own} (hs : Ats K ad (cut H1 ex1) ds vs) (hs' : Ats K ad (cut H1 ex1) es us) {i : Nat} {H' : Hp} {ex' : Own} {x : V} {H'' : Hp} (hi : i < min vs.length us.length) (m : Mo H1 ex1 H' ex') (hex : ∀ b, ex' b → ∃ o, H' b = some o)
    (y : YPair (fun i => vs[i]?) (fun i => us[i]?) i H' x H'') : ∃ d, ((ds.zip es).map fun p => D.tup [p.1, p.2])[i]? = some d ∧ Le H' ex' H'' ex' ∧ At K ad (cut H'' ex') d x := by
  have hi1 : i < ds.length := by rw [hs.length]; omega
  have hi2 : i < es.length := by rw [hs'.length]; omega
  refine ⟨.tup [ds[i], es[i]], ?_, ?_⟩
  · have hz2 : (ds.zip es)[i]? = some (ds[i], es[i]) := List.getElem?_zip_eq_some.mpr ⟨List.getElem?_eq_getElem hi1, List.getElem?_eq_getElem hi2⟩
    rw [List.getElem?_map, hz2]
    rfl
  · refine pair_turn y hex (fun v e => ?_) fun v e => ?_
    · obtain ⟨d', e1, a1⟩ := hs.getV e
      rw [List.getElem?_eq_getElem hi1] at e1
      cases e1
      exact a1.mono m
    · obtain ⟨d', e1, a1⟩ := hs'.getV e
      rw [List.getElem?_eq_getElem hi2] at e1
      cases e1
      exact a1.mono m
theorem di_zipA {e e2 : Expr} {f : Env → R (List D)} {p tpos : Pos} {elts : List Expr} {kk : Nat} (h : DA X ad w G [e, e2] f) (hg : Gl X "zip" := by rfl) (hm : X.mg "zip" = none := by assumption)
    (hs : starEach [e, e2] X.env = (false, eval e X.env) :: starEach [e2] X.env := by rfl) (hpl : (backTo pos (starEach [e2] X.env)).any (·.1) = false := by rfl) :
    DI X ad w G (.Tuple elts kk tpos) (.Call (.Name "zip" p) [e, e2] [] pos) (iA itZA f) := by
  obtain ⟨t, pa, k⟩ := h
  refine ⟨_, pi_zipA hg hm pa hs hpl, fun ex0 ρ σ H ex Rr fr q => ?_⟩
  refine k ex0 ρ σ H ex _ fr ?_
  unfold iA at q
  rw [sat_bind] at q
  refine q.imp (fun ds q vs H1 ex1 l a => ?_) fun _ z => z
  unfold itZA at q
  split at q
  · rename_i ds es
    obtain ⟨v, u, rfl, a1, a2⟩ := a.two
    cases a1 with
    | @lst a3 vs _ h hz hs =>
      cases a2 with
      | @lst b us _ h' hz' hs' =>
        exact ⟨a3, b, vs, us, rfl, .inl ⟨cut_same.seq h, cut_same.seq h', q (Itz X.K a3 b) H1 ex1 (min vs.length us.length) _ _ l (by rw [List.length_map, List.length_zip, hs.length, hs'.length]) (Nat.le_trans (Nat.min_le_left _ _) hz) (walk_zip rfl)
          (fun H' ex' m => ⟨(Same.trans m cut_same).seq h, (Same.trans m cut_same).seq h'⟩) fun i H' ex' x H'' hi m hex y => zip_turn hs hs' hi m hex y⟩⟩
  · rename_i ds es
    obtain ⟨v, u, rfl, a1, a2⟩ := a.two
    cases a1 with
    | @tup a3 vs _ h hz hs =>
      cases a2 with
      | @tup b us _ h' hz' hs' =>
        exact ⟨a3, b, vs, us, rfl, .inr ⟨seqT cut_same h, seqT cut_same h', q (ItzT X.K a3 b) H1 ex1 (min vs.length us.length) _ _ l (by rw [List.length_map, List.length_zip, hs.length, hs'.length]) (Nat.le_trans (Nat.min_le_left _ _) hz) (walk_zipT rfl)
          (fun H' ex' m => ⟨seqT (Same.trans m cut_same) h, seqT (Same.trans m cut_same) h'⟩) fun i H' ex' x H'' hi m hex y => zip_turn hs hs' hi m hex y⟩⟩
  · exact q.elim
/-- tuple(x), list(x) of a list or a tuple -/
def oTupOf : D → R D
  | .lst ds => .ok (.tup ds)
  | .tup ds => .ok (.tup ds)
  | _ => .bad
def oLstOf : D → R D
  | .lst ds => .ok (.lst ds)
  | .tup ds => .ok (.lst ds)
  | _ => .bad
theorem one_arg {e : Expr} {f : Env → R D} (h : DE X ad w G e .fz f) (hs : starEach [e] X.env = (false, eval e X.env) :: starEach [] X.env) :
    ∃ t, PA X [e] t ∧ ∀ ex0 ρ σ H ex Q, Fra X.K ad G ex0 ρ σ H ex → Sat (f ρ) (fun d => ∀ v H' ex', Le H ex H' ex' → At X.K ad (cut H' ex') d v → Q [v] H') (Exc w σ H ex) → t σ H Q := by
  obtain ⟨t, p, k⟩ := h
  exact ⟨_, pa_cons p pa_nil hs, fun ex0 ρ σ H ex Q fr q => k ex0 ρ σ H ex _ fr (q.imp (fun d q v H' ex' fp l r _ _ => q v H' ex' l (rep_fz r)) fun _ z => z)⟩
theorem de_tupleA {p : Pos} {e : Expr} {f : Env → R D} (h : DE X ad w G e .fz f) (hm : X.mg "tuple" = none := by assumption) (hg : Gl X "tuple" := by rfl) (hs : starEach [e] X.env = (false, eval e X.env) :: starEach [] X.env := by rfl) (hpl : (backTo pos (starEach [] X.env)).any (·.1) = false := by rfl) :
    DE X ad w G (.Call (.Name "tuple" p) [e] [] pos) .fz (d1 oTupOf f) := by
  obtain ⟨t, pa, k⟩ := one_arg h hs
  refine ⟨_, pe_callTy call_tuple_of hg hm PyProof.Rows.boot_tuple pa (by decide) (by decide) hs hpl, fun ex0 ρ σ H ex Q fr q => ?_⟩
  refine k ex0 ρ σ H ex _ fr ?_
  unfold d1 at q
  rw [sat_bind] at q
  refine q.imp (fun d q v H1 ex1 l a => ?_) fun _ z => z
  cases a with
  | @lst a vs ds h hz hs =>
    refine ⟨a, vs, rfl, .inl ⟨cut_same.seq h, fun pp hp => ?_⟩⟩
    have q : Post X.K ad H ex .fz Q (.tup ds) := q
    exact post_tup (ex := ex1) (fun v H' ex' fp l' r nd nw => q v H' ex' fp (l.trans l') r nd fun a z zz => nw a z (l.keep a zz)) hs hz (fr.mono l).exok hp
  | @tup a vs ds h hz hs =>
    have q : Post X.K ad H ex .fz Q (.tup ds) := q
    exact ⟨a, vs, rfl, .inr ⟨seqT cut_same h, post_fz q l (.tup h hz hs)⟩⟩
  | _ => exact q.elim
theorem de_listA {p : Pos} {e : Expr} {f : Env → R D} (h : DE X ad w G e .fz f) (hm : X.mg "list" = none := by assumption) (hg : Gl X "list" := by rfl) (hs : starEach [e] X.env = (false, eval e X.env) :: starEach [] X.env := by rfl) (hpl : (backTo pos (starEach [] X.env)).any (·.1) = false := by rfl) :
    DE X ad w G (.Call (.Name "list" p) [e] [] pos) (.own .fz) (d1 oLstOf f) := by
  obtain ⟨t, pa, k⟩ := one_arg h hs
  refine ⟨_, pe_callTy call_list_of hg hm PyProof.Rows.boot_list pa (by decide) (by decide) hs hpl, fun ex0 ρ σ H ex Q fr q => ?_⟩
  refine k ex0 ρ σ H ex _ fr ?_
  unfold d1 at q
  rw [sat_bind] at q
  refine q.imp (fun d q v H1 ex1 l a => ?_) fun _ z => z
  cases a with
  | @lst a vs ds h hz hs =>
    refine ⟨a, vs, rfl, .inl (cut_same.seq h), fun pp hp => ?_⟩
    have q : Post X.K ad H ex (.own .fz) Q (.lst ds) := q
    exact post_lst (ex := ex1) (fun v H' ex' fp l' r nd nw => q v H' ex' fp (l.trans l') r nd fun a z zz => nw a z (l.keep a zz)) hs hz (fr.mono l).exok hp
  | @tup a vs ds h hz hs =>
    refine ⟨a, vs, rfl, .inr (seqT cut_same h), fun pp hp => ?_⟩
    have q : Post X.K ad H ex (.own .fz) Q (.lst ds) := q
    exact post_lst (ex := ex1) (fun v H' ex' fp l' r nd nw => q v H' ex' fp (l.trans l') r nd fun a z zz => nw a z (l.keep a zz)) hs hz (fr.mono l).exok hp
  | _ => exact q.elim
/-- a constant of the module -/
theorem de_con {x : Str} {d : D} (h : ∃ u v, X.mg x = some u ∧ RelV v u ∧ ∀ H, At X.K ad H d v) (hg : Gl X x := by rfl) (hd : (x == ("__debug__" : Str)) = false := by decide) : DE X ad w G (.Name x pos) .fz (dC d) := by
  obtain ⟨u, v, h1, h2, h3⟩ := h
  exact ⟨_, pe_glob hg h1 h2 hd, fun _ _ _ _ _ _ _ q => post_fz q (Le.refl _ _) (h3 _)⟩
/-- x[lo:hi] of a list, a tuple, a text -/
def slA (f : Env → R D) (g h : Env → R (Option Int)) : Env → R D := fun ρ => (f ρ).bind fun d => (g ρ).bind fun lo => (h ρ).bind fun hi => match d with
  | .lst ds => .ok (.lst (cutD ds lo hi))
  | .tup ds => .ok (.tup (cutD ds lo hi))
  | .str z => if z.length ≤ 16777216 then .ok (.str (cutS z lo hi)) else .bad
  | _ => .bad
theorem de_slA {e : Expr} {lo hi : Option Expr} {p2 : Pos} {f : Env → R D} {g h : Env → R (Option Int)} (he : DE X ad w G e .fz f) (hl : DP X ad w G lo g) (hh : DP X ad w G hi h) : DE X ad w G (.Subscript e (.Slice lo hi none p2) pos) .fz (slA f g h) := by
  obtain ⟨t, p, k⟩ := he
  obtain ⟨tl, pl, kl⟩ := hl
  obtain ⟨th, ph, kh⟩ := hh
  refine ⟨_, pe_slice (sl_list.or (sl_tupA.or sl_str)) p pl ph, fun ex0 ρ σ H ex Q fr q => ?_⟩
  refine k ex0 ρ σ H ex _ fr ?_
  unfold slA at q
  rw [sat_bind] at q
  refine q.imp (fun d q v H1 ex1 fp l r _ _ => ?_) fun _ z => z
  have a := rep_fz r
  refine kl ex0 ρ σ H1 ex1 _ (fr.mono l) ?_
  rw [sat_bind] at q
  refine q.imp (fun o q H2 ex2 l2 => ?_) fun _ z => z.mono l
  refine kh ex0 ρ σ H2 ex2 _ ((fr.mono l).mono l2) ?_
  rw [sat_bind] at q
  refine q.imp (fun o2 q H3 ex3 l3 => ?_) fun _ z => z.mono (l.trans l2)
  have lt := (l.trans l2).trans l3
  have a3 := a.mono (l2.trans l3).cuts
  cases a3 with
  | @lst b vs ds h hz hs =>
    refine .inl ⟨b, vs, rfl, cut_same.seq h, fun pp hp => ?_⟩
    have q : Post X.K ad H ex .fz Q (.lst (cutD ds o o2)) := q
    exact post_lstF (ex := ex3) (fun v H' ex' fp l' r nd nw => q v H' ex' fp (lt.trans l') r nd fun a z zz => nw a z (lt.keep a zz)) (cut_ats hs o o2) (Nat.le_trans (cutV_length _ _ _) hz) (fr.mono lt).exok hp
  | @tup b vs ds h hz hs =>
    refine .inr (.inl ⟨b, vs, rfl, seqT cut_same h, fun hw => ?_, fun hw pp hp => ?_⟩)
    · have e : cutD ds o o2 = ds := by
        unfold cutD
        rw [hs.length]
        exact cut_whole hw.1 (hw.2.trans hs.length.symm)
      have q : Post X.K ad H ex .fz Q (.tup (cutD ds o o2)) := q
      rw [e] at q
      exact post_fz q lt (.tup h hz hs)
    · have q : Post X.K ad H ex .fz Q (.tup (cutD ds o o2)) := q
      exact post_tup (ex := ex3) (fun v H' ex' fp l' r nd nw => q v H' ex' fp (lt.trans l') r nd fun a z zz => nw a z (lt.keep a zz)) (cut_ats hs o o2) (Nat.le_trans (cutV_length _ _ _) hz) (fr.mono lt).exok hp
  | str z =>
    dsimp only at q
    split at q
    · rename_i hh
      exact .inr (.inr ⟨z, rfl, sq16 hh, post_fz q lt (.str _)⟩)
    · exact q.elim
  | _ => exact q.elim
/-- x[::-1] of a list -/
def revK (ds : List D) : R D := .ok (.lst ds.reverse)
theorem de_revK {e : Expr} {k : Nat} {p1 p2 p3 : Pos} {f : Env → R (List D)} (h : DK X ad w G e f) : DE X ad w G (.Subscript e (.Slice none none (some (.UnaryOp .USub (.Constant (.int 1) k p1) p2)) p3) pos) (.own .fz) (oL revK f) := by
  obtain ⟨t, p, kk⟩ := h
  refine ⟨_, pe_revL p, fun ex0 ρ σ H ex Q fr q => ?_⟩
  refine kk ex0 ρ σ H ex _ fr ?_
  unfold oL at q
  rw [sat_bind] at q
  refine q.imp (fun ds q v H1 ex1 l ⟨a, vs, e1, hq, hz, hA⟩ => ?_) fun _ z => z
  subst e1
  refine ⟨a, vs, rfl, hq, fun pp hp => ?_⟩
  have q : Post X.K ad H ex (.own .fz) Q (.lst ds.reverse) := q
  exact post_lst (ex := ex1) (fun v H' ex' fp l' r nd nw => q v H' ex' fp (l.trans l') r nd fun a z zz => nw a z (l.keep a zz)) hA.reverse (by rw [List.length_reverse]; exact hz) (fr.mono l).exok hp
/-- [e] * n -/
def dRepL (f g : Env → R D) : Env → R D := fun ρ => (f ρ).bind fun d => (g ρ).bind fun n => match n with
  | .int k => if -(2 ^ 62) ≤ k ∧ k ≤ 16777216 then .ok (.lst (List.replicate k.toNat d)) else .bad
  | _ => .bad
theorem flat_one {α : Type} (n : Nat) (v : α) : (List.replicate n [v]).flatten = List.replicate n v := by
  induction n with
  | zero => rfl
  | succ n ih =>
    rw [List.replicate_succ, List.replicate_succ, List.flatten_cons, ih]
    rfl
theorem ats_rep {K : PySem.W.Frag} {H : Hp} {d : D} {v : V} (h : At K ad H d v) : ∀ n : Nat, Ats K ad H (List.replicate n d) (List.replicate n v)
  | 0 => .nil
  | n + 1 => .cons h (ats_rep h n)
theorem de_repL {a b : Expr} {p1 : Pos} {f g : Env → R D} (ha : DE X ad w G a .fz f) (hb : DE X ad w G b .fz g) (hs : starEach [a] X.env = (false, eval a X.env) :: starEach [] X.env := by rfl) : DE X ad w G (.BinOp (.List [a] p1) .Mult b pos) (.own .fz) (dRepL f g) := by
  obtain ⟨ta, pa, ka⟩ := ha
  obtain ⟨tb, pb, kb⟩ := hb
  refine ⟨_, pe_op op_rep (pe_lst (pa_cons pa pa_nil hs)) pb, fun ex0 ρ σ H ex Q fr q => ?_⟩
  refine ka ex0 ρ σ H ex _ fr ?_
  unfold dRepL at q
  rw [sat_bind] at q
  refine q.imp (fun d q v H1 ex1 fp l r1 _ _ => ⟨by show 1 ≤ sizeLine; rw [sizeLine_eq]; omega, fun pp hp => ?_⟩) fun _ z => z
  have a1 := rep_fz r1
  have f1 := fr.mono l
  have l1 : Le H1 ex1 (upd H1 pp (.lst [v])) ex1 := Le.lay hp
  refine kb ex0 ρ σ _ ex1 _ (f1.mono l1) ?_
  rw [sat_bind] at q
  refine q.imp (fun n q u H2 ex2 fp2 l2 r2 _ _ => ?_) fun _ z => z.mono (l.trans l1)
  have a2 := rep_fz r2
  have lt := (l.trans l1).trans l2
  cases a2 with
  | int k =>
    dsimp only at q
    split at q
    · rename_i hk
      refine ⟨pp, k, [v], rfl, rfl, l2.same _ _ upd_same, by omega, by omega, by show 1 * k.toNat ≤ sizeLine; rw [sizeLine_eq]; omega, fun p3 hp3 => ?_⟩
      rw [flat_one]
      have q : Post X.K ad H ex (.own .fz) Q (.lst (List.replicate k.toNat d)) := q
      exact post_lst (ex := ex2) (fun v H' ex' fp l' r nd nw => q v H' ex' fp (lt.trans l') r nd fun a z zz => nw a z (lt.keep a zz)) (ats_rep (a1.mono (l1.trans l2).cuts) _) (by rw [List.length_replicate, sizeLine_eq]; omega) (fr.mono lt).exok hp3
    · exact q.elim
  | _ => exact q.elim
/-- x += e of ints -/
def oAug (i : Nat) (f : Env → R D) : Env → Out := fun ρ => match dV i ρ with
  | .ok (.int a) => (f ρ).then ρ fun d => match d with
    | .int b => .nx (ρ.set i (some (.int (a + b))))
    | _ => .bad
  | _ => .bad
theorem sd_augAdd (i : Nat) {x : Str} {e : Expr} {p1 : Pos} {f : Env → R D} (he : DE X ad w G e .fz f) (hN : X.N.Nodup) (hi : X.N[i]? = some x := by rfl) (hx : Loc X.env.scope x := by first | exact Or.inl rfl | exact Or.inr rfl) (hg : sh G i = .fz := by rfl)
    (hf : X.fn x = true ∨ X.env.scope.names.lookup x = some .local := by first | exact .inl rfl | exact .inr rfl | assumption) : SD X ad w rs G (.AugAssign (.Name x p1) .Add e pos) (oAug i f) := by
  obtain ⟨t, p, k⟩ := he
  refine ⟨_, ps_aug hN hi hx p ip_add hf, fun H0 ex0 ρ σ H ex De l fr q => ?_⟩
  unfold oAug dV at q
  cases e1 : ρ[i]? with
  | none => rw [e1] at q; exact q.elim
  | some o =>
    cases o with
    | none => rw [e1] at q; exact q.elim
    | some d =>
      rw [e1] at q
      dsimp only at q
      obtain ⟨v, e2, a⟩ := fr.fz e1 hg
      cases a with
      | int z =>
        dsimp only at q
        refine ⟨_, e2, ?_⟩
        refine k ex0 ρ σ H ex _ fr (sat_then l fr q fun d q => ?_)
        intro u H' ex' fp l' r _ _
        have a2 := rep_fz r
        cases a2 with
        | int b => exact ⟨_, _, rfl, rfl, q (σ.set i (some (.int (z + b)))) H' ex' (l.trans l') l'.cuts ((fr.mono l').setF hg (.int _))⟩
        | _ => exact q.elim
      | _ => exact q.elim
theorem sd_doc {x j p1} : SD X ad w rs G (.Expr (.Constant (.str x) j p1) pos) oNx := ⟨_, ps_doc, fun H0 ex0 ρ σ H ex De l f q => q σ H ex l Mo.refl f⟩
/-- a sign in a text -/
def oInS (neg : Bool) : D → D → R D
  | .str x, .str z => if x.length = 1 then .ok (.bl (if neg then !z.cps.toList.contains (x.cps.getD 0 0) else z.cps.toList.contains (x.cps.getD 0 0))) else .bad
  | _, _ => .bad
theorem no_inS {neg : Bool} : ∀ d e c, oInS neg d e ≠ .exc c := by
  intro d e c z
  unfold oInS at z
  split at z <;> (try split at z) <;> cases z
theorem one_sign {x : Str} (h : x.length = 1) : x = ⟨#[x.cps.getD 0 0]⟩ := by
  obtain ⟨⟨l⟩⟩ := x
  have h : l.length = 1 := h
  match l, h with
  | [c], _ => rfl
theorem dop_inS : DOp X ad (compareOp .In) .fz (oInS false) := by
  refine ⟨_, op_in_sign, fun x y d e H ex Q hx a b q => ?_⟩
  cases a <;> cases b <;> first | exact q.elim | skip
  unfold oInS at q
  dsimp only at q
  split at q
  · rename_i x z hh
    refine ⟨_, z, congrArg V.str (one_sign hh), rfl, ?_⟩
    have e : decide (x.cps.getD 0 0 ∈ z.cps.toList) = z.cps.toList.contains (x.cps.getD 0 0) := by
      rw [List.contains_eq_mem]
    rw [e]
    exact post_fz q (Le.refl _ _) (.bl _)
  · exact q.elim
theorem dop_inSN : DOp X ad (compareOp .NotIn) .fz (oInS true) := by
  refine ⟨_, op_notIn_sign, fun x y d e H ex Q hx a b q => ?_⟩
  cases a <;> cases b <;> first | exact q.elim | skip
  unfold oInS at q
  dsimp only at q
  split at q
  · rename_i x z hh
    refine ⟨_, z, congrArg V.str (one_sign hh), rfl, ?_⟩
    have e : decide (x.cps.getD 0 0 ∈ z.cps.toList) = z.cps.toList.contains (x.cps.getD 0 0) := by
      rw [List.contains_eq_mem]
    rw [e]
    exact post_fz q (Le.refl _ _) (.bl _)
  · exact q.elim
end
/-- a refusal -/
def oRaise (e : Ex) : Env → Out := fun ρ => .xc e ρ
end DL

set_option Elab.async false
set_option linter.all false
set_option maxRecDepth 100000
set_option maxHeartbeats 4000000
set_option autoImplicit false
/-! DL11: the end. -/
namespace DL
open PySem PySem.Spec PyProof.Rows L2
theorem Ats.ints {K : PySem.W.Frag} {ad : Adr} {H : Hp} : ∀ ns : List Int, Ats K ad H (ns.map .int) (ns.map V.int)
  | [] => .nil
  | _ :: ns => .cons (.int _) (Ats.ints ns)
/-- what the law asks of its def -/
def spW (K : PySem.W.Frag) (F : List D → R D) : Sp := fun vs H Q E => ∀ ad : Adr, spD K ad 1 .fz F vs H Q E
theorem spW_ok {P : Program} {wd : World} {K : PySem.W.Frag} {mg : Str → Option Value} {base : Heap} {CX : CXT} {k : Nat} {f : Addr} {fd : FuncData} {ps : List Str} {F : List D → R D} (ad : Adr)
    (h : FnOk P wd K mg base CX k f fd ps (spD K ad 1 .fz F)) : FnOk P wd K mg base CX k f fd ps (spW K F) := h.imp fun _ _ _ _ q => q ad
theorem walkD {l : PySem.W.OpenLaw} {n k : Nat} {q : Program} {loose : List Str} {XP : (Str → Option Value) → Heap → Prop} {YP : World → Heap → Prop} {d : DefRec} {K : Params → PySem.W.Frag} {x : Str} {F : List D → R D}
    (hn : l.most = some n) (hn2 : n ≤ sizeLine) (hdf : d.params.defaults = []) (hr : Room k callerA)
    (hY : ∀ (w : World) (h : Heap), YP w h → (K w.params).In h)
    (hF : ∀ ns : List Int, ns.length ≤ n → F [.lst (ns.map .int)] = .ok (.bl true))
    (Fn : ∀ (w : World) (mg : Str → Option Value) (fa : Addr) (h : Heap), (K w.params).In h → h.Ns mainGlobals mg → mg d.name = some (.ref fa) →
      ∃ fd : FuncData, (∀ (s : Shared) (u : Value), BindsTo s fd ⟨[u], []⟩ [(x, u)]) ∧
        ∀ base : Heap, (K w.params).In base → base.Ns mainGlobals mg → FnOk l.prog w (K w.params) mg base (L2.CX l.prog w) k fa fd [x] (spW (K w.params) F)) :
    PySem.W.WalkO q loose XP YP l.row.toRowW d [] (fun f vs => PySem.call f vs) := by
  refine L2.walk_of (CX := fun w => L2.CX l.prog w) (sp := fun w => spW (K w.params) F) hn hn2 hdf hr hY Fn (fun w H a ns hl hO hS ad => ?_) ?_
  · refine ⟨rfl, fun _ => False, [.lst (ns.map .int)], fun _ z => z.elim, ?_, ?_⟩
    · have hc : cut H (fun _ => False) = H := by
        funext b
        simp [cut]
      rw [hc]
      exact .cons (.lst hS (by rw [List.length_map]; exact Nat.le_trans hl hn2) (Ats.ints ns)) .nil
    · rw [hF ns hl]
      intro v H' ex' fp _ r _ _
      cases r with
      | fz h => cases h; rfl
  · rintro w H s e s' ⟨_, _, _, _, _, _, _, _, _, _, _, _, z⟩
    exact z
end DL

set_option Elab.async false
set_option linter.all false
set_option maxRecDepth 100000
set_option maxHeartbeats 4000000
set_option autoImplicit false
/-! DL12: isinstance, two names at once, more of tuples and lists. -/
namespace DL
open PySem PySem.Spec PyProof.Rows L2
/-- the types that are asked for -/
inductive Tn where
  | list | tuple | int | bool | str
def Tn.nm : Tn → String
  | .list => "list"
  | .tuple => "tuple"
  | .int => "int"
  | .bool => "bool"
  | .str => "str"
/-- is d of that type -/
def isiB : Tn → D → Option Bool
  | _, .exc _ => none
  | .list, .lst _ => some true
  | .tuple, .tup _ => some true
  | .int, .int _ => some true
  | .int, .bl _ => some true
  | .bool, .bl _ => some true
  | .str, .str _ => some true
  | _, _ => some false
def oIsi (t : Tn) : D → R D := fun d => match isiB t d with
  | some b => .ok (.bl b)
  | none => .bad
theorem tyx_at {K : PySem.W.Frag} {ad : Adr} {H : Hp} {d : D} {v : V} {t : Tn} {b : Bool} (h : At K ad H d v) (e : isiB t d = some b) : ∃ u : Value, TyX K H v u ∧ PySem.W.kitOne K u (.type t.nm) = some b := by
  cases h with
  | non => exact ⟨_, .base .non, kit_ty (by cases t <;> cases e <;> decide +kernel)⟩
  | bl x => exact ⟨_, .base (.bl x), kit_ty (by cases t <;> cases e <;> decide +kernel)⟩
  | int i => exact ⟨_, .base (.int i), kit_ty (by cases t <;> cases e <;> decide +kernel)⟩
  | str x => exact ⟨_, .base (.str x), kit_ty (by cases t <;> cases e <;> decide +kernel)⟩
  | lst hs hz ha =>
    have k : PySem.W.kitOne K (.type "list") (.type t.nm) = some b := kit_ty (by cases t <;> cases e <;> decide +kernel)
    rcases hs with (h | ⟨o, h⟩) | ⟨o, its, n, h1, h2, _⟩
    · exact ⟨_, .base (.lst h), k⟩
    · exact ⟨_, .base (.frz h), k⟩
    · exact ⟨_, .kList h1 h2, k⟩
  | tup hs hz ha =>
    have k : PySem.W.kitOne K (.type "tuple") (.type t.nm) = some b := kit_ty (by cases t <;> cases e <;> decide +kernel)
    rcases hs with (h | ⟨o, h⟩) | ⟨o, its, n, h1, h2, _⟩
    · exact ⟨_, .base (.tup h), k⟩
    · exact ⟨_, .fTuple h, k⟩
    · exact ⟨_, .kTuple h1 h2, k⟩
  | exc x h => cases t <;> cases e
theorem boot_list : bootBuiltins "list" = some (.type "list") := by decide +kernel
theorem boot_tuple : bootBuiltins "tuple" = some (.type "tuple") := by decide +kernel
theorem boot_bool : bootBuiltins "bool" = some (.type "bool") := by decide +kernel
theorem boot_str : bootBuiltins "str" = some (.type "str") := by decide +kernel
section
variable {X : Cx} {ad : Adr} {w : Wi} {rs : Sh} {G : Shs} {pos : Pos}
theorem de_isi {e : Expr} {f : Env → R D} {T : Str} {p p2 : Pos} (t : Tn) (he : DU X ad w G e f) (hi : X.mg "isinstance" = none) (hT : X.mg T = none) (hv : bootBuiltins T = some (.type t.nm)) (hn : T ≠ "__name__" := by decide) (hdb : (T == ("__debug__" : Str)) = false := by decide) (hg : Gl X "isinstance" := by rfl) (hgT : Gl X T := by rfl)
    (h1 : starEach [e, .Name T p2] X.env = (false, eval e X.env) :: starEach [.Name T p2] X.env := by rfl) (h2 : starEach [.Name T p2] X.env = (false, eval (.Name T p2) X.env) :: starEach [] X.env := by rfl)
    (hpl : (backTo pos (starEach [.Name T p2] X.env)).any (·.1) = false := by rfl) :
    DE X ad w G (.Call (.Name "isinstance" p) [e, .Name T p2] [] pos) .fz (d1 (oIsi t) f) := by
  obtain ⟨te, pe, ke⟩ := he
  have pT : PE X (.Name T p2) (tC (.ty t.nm)) := pe_bltn hgT hT hv rfl hn hdb
  refine ⟨_, pe_callB call_isi hg hi PyProof.Rows.boot_isinstance (pa_cons pe (pa_cons pT pa_nil h2) h1) (by decide) (by decide) h1 hpl, fun ex0 ρ σ H ex Q fr q => ?_⟩
  refine ke ex0 ρ σ H ex _ fr ?_
  unfold d1 at q
  rw [sat_bind] at q
  refine q.imp (fun d q v H1 ex1 l a => ?_) fun _ z => z
  unfold oIsi at q
  split at q
  · rename_i b e
    obtain ⟨u, k1, k2⟩ := tyx_at a e
    exact ⟨v, .ty t.nm, u, .type t.nm, b, rfl, .ty _, k1, k2, post_fz q l (.bl _)⟩
  · exact q.elim
/-- a, b = x, y -/
theorem sd_par {x y : Str} {a b : Expr} {f : Env → R (List D)} {px py pt kt k2 pt2} (i j : Nat) (ha : DA X ad w G [a, b] f) (nd : X.N.Nodup) (hc : X.calm = true := by rfl) (hi : X.N[i]? = some x := by rfl) (hj : X.N[j]? = some y := by rfl) (hij : i ≠ j := by decide)
    (gi : sh G i = .fz := by rfl) (gj : sh G j = .fz := by rfl)
    (hx : X.env.scope.names.lookup x = some .local := by rfl) (hy : X.env.scope.names.lookup y = some .local := by rfl)
    (hw : swappedStores [.Tuple [.Name x px, .Name y py] kt pt] (.Tuple [a, b] k2 pt2) X.env = pure (some [x, y]) := by rfl)
    (hs : swapsWithSole [.Tuple [.Name x px, .Name y py] kt pt] (.Tuple [a, b] k2 pt2) pos.line X.env = pure false := by rfl) :
    SD X ad w rs G (.Assign [.Tuple [.Name x px, .Name y py] kt pt] (.Tuple [a, b] k2 pt2) pos) (oAsg (tT (tCons' (tN i) (tCons' (tN j) tNil'))) (dTup f)) := by
  obtain ⟨t, p, k⟩ := ha
  refine ⟨_, ps_par hc nd hi hj hij hx hy p hw hs, fun H0 ex0 ρ σ H ex De l fr q => ?_⟩
  refine k ex0 ρ σ H ex _ fr ?_
  unfold oAsg dTup at q
  cases e : f ρ with
  | bad => rw [e] at q; exact q.elim
  | exc c => rw [e] at q; exact fun H' ex' l' => q σ H' ex' (l.trans l') l'.cuts (fr.mono l').frz
  | ok ds =>
    rw [e] at q
    intro vs H1 ex1 l1 a
    match ds, q, a with
    | [d, d'], q, .cons (v := v) a1 (.cons (v := v') a2 .nil) =>
      refine ⟨v, v', rfl, ?_⟩
      exact q _ H1 ex1 (l.trans l1) l1.cuts (((fr.mono l1).setF gi a1).setF gj a2)
    | [], q, _ => exact q.elim
    | [_], q, _ => exact q.elim
    | _ :: _ :: _ :: _, q, _ => exact q.elim
/-- a, b, c = x, y, z -/
theorem sd_par3 {x y z : Str} {a b c : Expr} {f : Env → R (List D)} {px py pz pt kt k2 pt2} (i j l : Nat) (ha : DA X ad w G [a, b, c] f) (nd : X.N.Nodup) (hc : X.calm = true := by rfl) (hi : X.N[i]? = some x := by rfl) (hj : X.N[j]? = some y := by rfl) (hl : X.N[l]? = some z := by rfl) (hij : i ≠ j := by decide) (hil : i ≠ l := by decide) (hjl : j ≠ l := by decide)
    (gi : sh G i = .fz := by rfl) (gj : sh G j = .fz := by rfl) (gl : sh G l = .fz := by rfl)
    (hx : X.env.scope.names.lookup x = some .local := by rfl) (hy : X.env.scope.names.lookup y = some .local := by rfl) (hz : X.env.scope.names.lookup z = some .local := by rfl)
    (hw : swappedStores [.Tuple [.Name x px, .Name y py, .Name z pz] kt pt] (.Tuple [a, b, c] k2 pt2) X.env = pure (some [x, y, z]) := by rfl)
    (hs : swapsWithSole [.Tuple [.Name x px, .Name y py, .Name z pz] kt pt] (.Tuple [a, b, c] k2 pt2) pos.line X.env = pure false := by rfl) :
    SD X ad w rs G (.Assign [.Tuple [.Name x px, .Name y py, .Name z pz] kt pt] (.Tuple [a, b, c] k2 pt2) pos) (oAsg (tT (tCons' (tN i) (tCons' (tN j) (tCons' (tN l) tNil')))) (dTup f)) := by
  obtain ⟨t, p, k⟩ := ha
  refine ⟨_, ps_par3 hc nd hi hj hl hij hil hjl hx hy hz p hw hs, fun H0 ex0 ρ σ H ex De ll fr q => ?_⟩
  refine k ex0 ρ σ H ex _ fr ?_
  unfold oAsg dTup at q
  cases e : f ρ with
  | bad => rw [e] at q; exact q.elim
  | exc c => rw [e] at q; exact fun H' ex' l' => q σ H' ex' (ll.trans l') l'.cuts (fr.mono l').frz
  | ok ds =>
    rw [e] at q
    intro vs H1 ex1 l1 a
    match ds, q, a with
    | [d, d', d2], q, .cons (v := v) a1 (.cons (v := v') a2 (.cons (v := v2) a3 .nil)) =>
      refine ⟨v, v', v2, rfl, ?_⟩
      exact q _ H1 ex1 (ll.trans l1) l1.cuts ((((fr.mono l1).setF gi a1).setF gj a2).setF gl a3)
    | [], q, _ => exact q.elim
    | [_], q, _ => exact q.elim
    | [_, _], q, _ => exact q.elim
    | _ :: _ :: _ :: _ :: _, q, _ => exact q.elim
end
end DL

set_option Elab.async false
set_option linter.all false
set_option maxRecDepth 100000
set_option maxHeartbeats 4000000
set_option autoImplicit false
/-! DL13: refusals. -/
namespace DL
open PySem PySem.Spec PyProof.Rows L2
/-- the class of the refusal c, x by name -/
structure XC (K : PySem.W.Frag) (mg : Str → Option Value) (ad : Adr) (c : Ex) (x : Str) : Prop where
  g : mg x = some (.ref (ad c))
  q : ∃ bm : List Value, (∃ B n i, ExcBaseFacts B n i bm ∧ PySem.W.excIn K (ad c) bm n = true)
  k : PySem.W.keepIn K (.ref (ad c)) = true
  b : PySem.W.subIn K (.ref (ad c)) (.type "BaseException") = some true
  t : PySem.W.typeIn K (.ref (ad c)) = some (.type "type")
section
variable {X : Cx} {ad : Adr} {w : Wi} {rs : Sh} {G G' : Shs} {pos : Pos}
theorem sds_raise {c : Ex} {x m : Str} {j : Nat} {p p2 pos2 : Pos} (F : XC X.K X.mg ad c x) (tk : Tk X ad w) (hc : X.calm = true := by rfl) (hg : Gl X x := by rfl) (hdb : (x == ("__debug__" : Str)) = false := by decide) :
    SDs X ad w rs G G' [.Raise (some (.Call (.Name x p) [.Constant (.str m) j p2] [] pos2)) none pos] (oRaise c) := by
  obtain ⟨W, hW, lk⟩ := tk
  obtain ⟨bm, B, n, i, f, q⟩ := F.q
  refine ⟨_, pss_one (ps_raise hc hW (pmk_own f q F.g F.k (raises_own F.b F.t) hg hdb)), fun H0 ex0 ρ σ H ex De l fr q => ?_⟩
  exact lk _ _ _ (q σ H ex l (fun _ _ h => h) fr.frz)
end
end DL

set_option Elab.async false
set_option linter.all false
set_option maxRecDepth 100000
set_option maxHeartbeats 4000000
set_option autoImplicit false
/-! DL14: two places of a list at once, lent lists, sums of lists, tuples again and again. -/
namespace DL
open PySem PySem.Spec PyProof.Rows L2
/-- x[k] = d, x the list at slot i -/
def oPut (i : Nat) (fk : Env → R D) (d : D) : Env → Out := fun ρ => match (dV i ρ).bind isL with
  | .ok xs => match fk ρ with
    | .ok (.int k) => if 0 ≤ k ∧ k < xs.length then .nx (ρ.set i (some (.lst (xs.set k.toNat d)))) else .bad
    | _ => .bad
  | _ => .bad
section
variable {X : Cx} {ad : Adr} {w : Wi} {rs : Sh} {G G' : Shs} {pos : Pos}
theorem put_ok (i : Nat) {fk : Env → R D} {tk : TE} (kk : ∀ ex0 ρ σ H ex Q, Fra X.K ad G ex0 ρ σ H ex → Sat (fk ρ) (Post X.K ad H ex .fz Q) (Exc w σ H ex) → tk σ H Q) (hg : sh G i = .own .fz)
    {H0 H : Hp} {ex0 ex : Own} {ρ : Env} {σ : L2.St} {d : D} {v : V} {Q : L2.St → Hp → Prop} (l : Le H0 ex0 H ex) (f : Fra X.K ad G ex0 ρ σ H ex) (a : At X.K ad (cut H ex) d v)
    (q : match oPut i fk d ρ with | .nx ρ' => ∀ H' ex', Le H0 ex0 H' ex' → Mo H ex H' ex' → Fra X.K ad G ex0 ρ' σ H' ex' → Q σ H' | _ => False) : gSub (tVar i) tk rSetL v σ H Q := by
  unfold oPut at q
  cases e1 : (dV i ρ).bind isL with
  | exc c => rw [e1] at q; exact q.elim
  | bad => rw [e1] at q; exact q.elim
  | ok xs =>
  rw [e1] at q
  have er := slot_own e1
  obtain ⟨b, vs, ds, ed, eσ, hex, hn, hH, hz, hA, _⟩ := f.own er hg
  cases ed
  refine ⟨_, eσ, ?_⟩
  refine kk ex0 ρ σ H ex _ f ?_
  cases e2 : fk ρ with
  | exc c => rw [e2] at q; exact q.elim
  | bad => rw [e2] at q; exact q.elim
  | ok kd =>
    rw [e2] at q
    intro kv H2 ex2 fp2 l2 r2 _ _
    have a2 := rep_fz r2
    cases a2 with
    | int kz =>
      dsimp only at q
      split at q
      · rename_i ρ' ho
        split at ho
        · rename_i hk
          cases ho
          have f2 := f.mono l2
          obtain ⟨a', vs', ds', ed, eσ', hex', hn', hH', hz', hA', wr⟩ := f2.own er hg
          cases ed
          rw [eσ] at eσ'
          cases eσ'
          rw [hA'.length] at hk
          refine ⟨b, vs', kz, kz.toNat, rfl, rfl, hH', ixN_nat hk.1 hk.2, ?_⟩
          exact q _ ex2 (own_le (l.trans l2) hex' hn') (l2.cuts.trans (own_mo hex')) (wr _ _ (by rw [List.length_set]; exact hz') (hA'.set (a.mono l2.cuts) _))
        · cases ho
      · exact q.elim
    | _ => exact q.elim
/-- x[j], y[k] = a, b -/
def oPut2 (i : Nat) (fk : Env → R D) (i2 : Nat) (fk2 : Env → R D) (f : Env → R (List D)) : Env → Out := fun ρ => (f ρ).then ρ fun ds => match ds with
  | [d, e] => match oPut i fk d ρ with
    | .nx ρ1 => match oPut i2 fk2 e ρ1 with
      | .nx ρ2 => .nx ρ2
      | _ => .bad
    | _ => .bad
  | _ => .bad
theorem put2_ok (i i2 : Nat) {fk fk2 : Env → R D} {t1 t2 : TE} (kk1 : ∀ ex0 ρ σ H ex Q, Fra X.K ad G ex0 ρ σ H ex → Sat (fk ρ) (Post X.K ad H ex .fz Q) (Exc w σ H ex) → t1 σ H Q) (kk2 : ∀ ex0 ρ σ H ex Q, Fra X.K ad G ex0 ρ σ H ex → Sat (fk2 ρ) (Post X.K ad H ex .fz Q) (Exc w σ H ex) → t2 σ H Q)
    (hg : sh G i = .own .fz) (hg2 : sh G i2 = .own .fz) {H0 H : Hp} {ex0 ex : Own} {ρ : Env} {σ : L2.St} {d d' : D} {u u' : V} {Q : L2.St → Hp → Prop} (l : Le H0 ex0 H ex) (fr : Fra X.K ad G ex0 ρ σ H ex) (a1 : At X.K ad (cut H ex) d u) (a2 : At X.K ad (cut H ex) d' u')
    (q : match oPut i fk d ρ with
      | .nx ρ1 => (match oPut i2 fk2 d' ρ1 with | .nx ρ2 => ∀ H' ex', Le H0 ex0 H' ex' → Mo H ex H' ex' → Fra X.K ad G ex0 ρ2 σ H' ex' → Q σ H' | _ => False)
      | _ => False) : gCons (gSub (tVar i) t1 rSetL) (gCons (gSub (tVar i2) t2 rSetL) gNil) [u, u'] σ H Q := by
  refine ⟨u, [u'], rfl, ?_⟩
  refine put_ok i kk1 hg l fr a1 ?_
  cases e1 : oPut i fk d ρ with
  | rt d => rw [e1] at q; exact q.elim
  | xc c ρ => rw [e1] at q; exact q.elim
  | bad => rw [e1] at q; exact q.elim
  | nx ρ1 =>
    rw [e1] at q
    dsimp only at q ⊢
    intro H2 ex2 l2 m2 f2
    refine ⟨u', [], rfl, ?_⟩
    refine put_ok i2 kk2 hg2 l2 f2 (a2.mono m2) ?_
    cases e2 : oPut i2 fk2 d' ρ1 with
    | rt d => rw [e2] at q; exact q.elim
    | xc c ρ => rw [e2] at q; exact q.elim
    | bad => rw [e2] at q; exact q.elim
    | nx ρ2 =>
      rw [e2] at q
      exact fun H3 ex3 l3 m3 f3 => ⟨rfl, q H3 ex3 l3 (m2.trans m3) f3⟩
theorem sd_put2 (i i2 : Nat) {x y : Str} {k1 k2 a b : Expr} {p1 p2 p3 p4 pt pt2 : Pos} {kt kt2 : Nat} {fk fk2 : Env → R D} {f : Env → R (List D)} (ha : DA X ad w G [a, b] f) (cn : ∀ ρ ds, f ρ = .ok ds → ds.length = 2) (h1 : DE X ad w G k1 .fz fk) (h2 : DE X ad w G k2 .fz fk2)
    (hc : X.calm = true := by rfl) (hN : X.N[i]? = some x := by rfl) (hg : sh G i = .own .fz := by rfl) (hN2 : X.N[i2]? = some y := by rfl) (hg2 : sh G i2 = .own .fz := by rfl)
    (hv : Vis X.env.scope x := by first | exact Or.inl rfl | exact Or.inr (Or.inl rfl) | exact Or.inr (Or.inr rfl)) (hd : (x == ("__debug__" : Str)) = false := by decide) (hcd : (x == ("__classdict__" : Str)) = false := by decide)
    (hv2 : Vis X.env.scope y := by first | exact Or.inl rfl | exact Or.inr (Or.inl rfl) | exact Or.inr (Or.inr rfl)) (hd2 : (y == ("__debug__" : Str)) = false := by decide) (hcd2 : (y == ("__classdict__" : Str)) = false := by decide)
    (hs : swapsWithSole [.Tuple [.Subscript (.Name x p1) k1 p2, .Subscript (.Name y p3) k2 p4] kt pt] (.Tuple [a, b] kt2 pt2) pos.line X.env = pure false := by rfl)
    (hw : swappedStores [.Tuple [.Subscript (.Name x p1) k1 p2, .Subscript (.Name y p3) k2 p4] kt pt] (.Tuple [a, b] kt2 pt2) X.env = pure none := by rfl)
    (hn : (assignEach [.Subscript (.Name x p1) k1 p2, .Subscript (.Name y p3) k2 p4] X.env).length = 2 := by rfl) (hst : (assignEach [.Subscript (.Name x p1) k1 p2, .Subscript (.Name y p3) k2 p4] X.env).findIdx? (·.1) = none := by rfl)
    (m1 : (assignEach [.Subscript (.Name x p1) k1 p2, .Subscript (.Name y p3) k2 p4] X.env).map (·.2) = assign (.Subscript (.Name x p1) k1 p2) X.env :: (assignEach [.Subscript (.Name y p3) k2 p4] X.env).map (·.2) := by rfl)
    (m2 : (assignEach [.Subscript (.Name y p3) k2 p4] X.env).map (·.2) = assign (.Subscript (.Name y p3) k2 p4) X.env :: (assignEach [] X.env).map (·.2) := by rfl)
    (m3 : (assignEach [.Tuple [.Subscript (.Name x p1) k1 p2, .Subscript (.Name y p3) k2 p4] kt pt] X.env).map (·.2) = [assign (.Tuple [.Subscript (.Name x p1) k1 p2, .Subscript (.Name y p3) k2 p4] kt pt) X.env] := by rfl)
    (g1 : ∀ v, assign (.Subscript (.Name x p1) k1 p2) X.env v = (do
      let ov ← holding [v] (eval (.Name x p1) X.env)
      let iv ← holding [v, ov] (eval k1 X.env)
      standAt p2
      holding [v, ov, iv] (setItem ov iv v)
      release [v, ov, iv] []) := by intro _; rfl)
    (g2 : ∀ v, assign (.Subscript (.Name y p3) k2 p4) X.env v = (do
      let ov ← holding [v] (eval (.Name y p3) X.env)
      let iv ← holding [v, ov] (eval k2 X.env)
      standAt p4
      holding [v, ov, iv] (setItem ov iv v)
      release [v, ov, iv] []) := by intro _; rfl) :
    SD X ad w rs G (.Assign [.Tuple [.Subscript (.Name x p1) k1 p2, .Subscript (.Name y p3) k2 p4] kt pt] (.Tuple [a, b] kt2 pt2) pos) (oPut2 i fk i2 fk2 f) := by
  obtain ⟨t, p, k⟩ := de_tup (x1 := kt2) (pos := pt2) ha cn
  obtain ⟨t1, q1, kk1⟩ := h1
  obtain ⟨t2, q2, kk2⟩ := h2
  refine ⟨_, ps_asg p (pg_tup hc (pgs_cons (pg_sub (pe_var hN hv hd hcd) q1 set_list g1) (pgs_cons (pg_sub (pe_var hN2 hv2 hd2 hcd2) q2 set_list g2) pgs_nil m2) m1) hn hst) hs hw m3, fun H0 ex0 ρ σ H ex De l fr q => ?_⟩
  refine k ex0 ρ σ H ex (fun v H1 => gTup X.K 2 (gCons (gSub (tVar i) t1 rSetL) (gCons (gSub (tVar i2) t2 rSetL) gNil)) v σ H1 De.nx) fr ?_
  unfold oPut2 at q
  unfold dTup
  cases e : f ρ with
  | bad => rw [e] at q; exact q.elim
  | exc c => rw [e] at q; exact fun H' ex' l' => q σ H' ex' (l.trans l') l'.cuts (fr.mono l').frz
  | ok ds =>
    rw [e] at q
    obtain ⟨d, d', rfl⟩ : ∃ d d', ds = [d, d'] := by
      have := cn ρ ds e
      match ds, this with
      | [d, d'], _ => exact ⟨d, d', rfl⟩
    intro v H1 ex1 fp l1 r _ _
    have a0 := rep_fz r
    have q := Ok.from q l1.cuts
    cases a0 with
    | @tup b us _ hT _ hs =>
      cases hs with
      | cons a1 hs =>
        cases hs with
        | cons a2 hs =>
          cases hs
          refine ⟨b, _, rfl, seqT cut_same hT, rfl, ?_⟩
          refine put2_ok i i2 kk1 kk2 hg hg2 (l.trans l1) (fr.mono l1) a1 a2 ?_
          dsimp only [then_ok] at q
          cases e1 : oPut i fk d ρ with
          | rt d => rw [e1] at q; exact q.elim
          | xc c ρ => rw [e1] at q; exact q.elim
          | bad => rw [e1] at q; exact q.elim
          | nx ρ1 =>
            rw [e1] at q
            dsimp only at q ⊢
            cases e2 : oPut i2 fk2 d' ρ1 with
            | rt d => rw [e2] at q; exact q.elim
            | xc c ρ => rw [e2] at q; exact q.elim
            | bad => rw [e2] at q; exact q.elim
            | nx ρ2 =>
              rw [e2] at q
              exact fun H3 ex3 l3 m3 f3 => q σ H3 ex3 l3 m3 f3
/-! a def that looks at lists of ours and tells no thing that may hold them -/
def dCallL (F : List D → R D) (f : Env → R (List D)) : Env → R D := fun ρ => (f ρ).bind fun ds => match F ds with
  | .ok d => if flat d = true then .ok d else .bad
  | r => r
theorem flat_at {K : PySem.W.Frag} {H H' : Hp} {d : D} {v : V} (h : flat d = true) (a : At K ad H d v) : At K ad H' d v := by
  cases a with
  | non => exact .non
  | bl b => exact .bl b
  | int i => exact .int i
  | str x => exact .str x
  | lst _ _ _ => cases h
  | tup _ _ _ => cases h
  | exc _ _ => cases h
theorem de_callL {k j n : Nat} {x : Str} {p : Pos} {F : List D → R D} {e : Expr} {es : List Expr} {f : Env → R (List D)} (c : Cal X.prog X.w X.K X.mg X.base ad k x n .fz F) (hr : Room j X.A) (hk : k ≤ j) (tk : Tk X ad w) (ha : DUA X ad w G (e :: es) f) (hl : (e :: es).length = n := by rfl) (hg : Gl X x := by rfl)
    (hdb : (x == ("__debug__" : Str)) = false := by decide) (he : starEach (e :: es) X.env = (false, eval e X.env) :: starEach es X.env := by rfl) (hpl : (backTo pos (starEach es X.env)).any (·.1) = false := by rfl) (hn : ∀ ρ ds, f ρ = .ok ds → ds.length = n) :
    DE X ad w G (.Call (.Name x p) (e :: es) [] pos) .fz (dCallL F f) := by
  obtain ⟨fa, fd, ps, F1, hm, hkp, hb⟩ := c.ex
  obtain ⟨W, hW, lk⟩ := tk
  obtain ⟨t, pa, ka⟩ := ha
  refine ⟨_, pe_callS F1 (hr.mono hk) hg hm hkp hb (fun σ => passAt hW σ) pa hdb he hpl, fun ex0 ρ σ H ex Q fr q => ?_⟩
  refine ka ex0 ρ σ H ex _ fr ?_
  unfold dCallL at q
  rw [sat_bind] at q
  cases e1 : f ρ with
  | exc c => rw [e1] at q; exact q
  | bad => rw [e1] at q; exact q
  | ok ds =>
    rw [e1] at q
    intro vs H1 ex1 l a
    have hc : cut H1 (fun _ => False) = H1 := by
      funext b
      simp [cut]
    refine ⟨by rw [← a.length]; exact hn ρ ds e1, fun _ => False, ds, fun _ z => z.elim, by rw [hc]; exact a, ?_⟩
    have q : Sat (match F ds with | .ok d => if flat d = true then .ok d else .bad | r => r) (Post X.K ad H ex .fz Q) (Exc w σ H ex) := q
    cases e2 : F ds with
    | bad => rw [e2] at q; exact q
    | exc c =>
      rw [e2] at q
      exact fun H2 sm => lk c σ H2 (q H2 ex1 (l.trans ⟨sm, fun _ z => z, fun _ z => .inl z⟩))
    | ok d =>
      rw [e2] at q
      dsimp only at q
      split at q
      · rename_i hf
        intro v H2 ex2 fp l2 r nd nw
        exact post_fz q (l.trans ⟨l2.same, fun _ z => z, fun _ z => .inl z⟩) (flat_at hf (rep_fz r))
      · exact q.elim
/-! a + b, lists, whoever owns them -/
def oCat2 (f g : Env → R (List D)) : Env → R D := fun ρ => (f ρ).bind fun xs => (g ρ).bind fun ys => if xs.length + ys.length ≤ 16777216 then .ok (.lst (xs ++ ys)) else .bad
theorem de_cat2 {a b : Expr} {f g : Env → R (List D)} (ha : DK X ad w G a f) (hb : DK X ad w G b g) : DE X ad w G (.BinOp a .Add b pos) (.own .fz) (oCat2 f g) := by
  obtain ⟨ta, pa, ka⟩ := ha
  obtain ⟨tb, pb, kb⟩ := hb
  refine ⟨_, pe_op op_catL pa pb, fun ex0 ρ σ H ex Q fr q => ?_⟩
  refine ka ex0 ρ σ H ex _ fr ?_
  unfold oCat2 at q
  rw [sat_bind] at q
  refine q.imp (fun xs q v H1 ex1 l1 a1 => ?_) fun _ z => z
  refine kb ex0 ρ σ H1 ex1 _ (fr.mono l1) ?_
  rw [sat_bind] at q
  refine q.imp (fun ys q u H2 ex2 l2 a2 => ?_) fun _ z => z.mono l1
  obtain ⟨a, vs, rfl, h1, z1, s1⟩ := a1.ex
  obtain ⟨b, us, rfl, h2, z2, s2⟩ := a2.ex
  split at q
  · rename_i hz
    have s1' := s1.mono l2.cuts
    rw [s1.length, s2.length] at hz
    refine ⟨a, b, vs, us, rfl, rfl, l2.same.seq h1, h2, sq16 hz, fun pp hp => ?_⟩
    have q : Post X.K ad H ex (.own .fz) Q (.lst (xs ++ ys)) := q
    have lt := l1.trans l2
    exact post_lst (ex := ex2) (fun v H' ex' fp l' r nd nw => q v H' ex' fp (lt.trans l') r nd fun a z zz => nw a z (lt.keep a zz)) (s1'.append s2) (by rw [List.length_append]; exact sq16 hz) (fr.mono lt).exok hp
  · exact q.elim
/-- (x,) * n -/
def dRepT (f g : Env → R D) : Env → R D := fun ρ => (f ρ).bind fun d => (g ρ).bind fun n => match n with
  | .int k => if 2 ≤ k ∧ k ≤ 1000 then .ok (.tup (List.replicate k.toNat d)) else .bad
  | _ => .bad
theorem de_repT {a b : Expr} {p1 : Pos} {kt : Nat} {f g : Env → R D} (ha : DE X ad w G a .fz f) (hb : DE X ad w G b .fz g) (hs : starEach [a] X.env = (false, eval a X.env) :: starEach [] X.env := by rfl) : DE X ad w G (.BinOp (.Tuple [a] kt p1) .Mult b pos) .fz (dRepT f g) := by
  obtain ⟨ta, pa, ka⟩ := ha
  obtain ⟨tb, pb, kb⟩ := hb
  refine ⟨_, pe_op op_repT (pe_tup (pa_cons pa pa_nil hs)) pb, fun ex0 ρ σ H ex Q fr q => ?_⟩
  refine ka ex0 ρ σ H ex _ fr ?_
  unfold dRepT at q
  rw [sat_bind] at q
  refine q.imp (fun d q v H1 ex1 fp l r1 _ _ => ⟨by show 1 ≤ sizeLine; rw [sizeLine_eq]; omega, fun pp hp => ?_⟩) fun _ z => z
  have a1 := rep_fz r1
  have f1 := fr.mono l
  have l1 : Le H1 ex1 (upd H1 pp (.tup [v])) ex1 := Le.lay hp
  refine kb ex0 ρ σ _ ex1 _ (f1.mono l1) ?_
  rw [sat_bind] at q
  refine q.imp (fun n q u H2 ex2 fp2 l2 r2 _ _ => ?_) fun _ z => z.mono (l.trans l1)
  have a2 := rep_fz r2
  have lt := (l.trans l1).trans l2
  cases a2 with
  | int k =>
    dsimp only at q
    split at q
    · rename_i hk
      refine ⟨pp, k, [v], rfl, rfl, SqT.of (l2.same _ _ upd_same), by simp, hk.1, hk.2, by simp, fun p3 hp3 => ?_⟩
      rw [flat_one]
      have q : Post X.K ad H ex .fz Q (.tup (List.replicate k.toNat d)) := q
      exact post_tup (ex := ex2) (fun v H' ex' fp l' r nd nw => q v H' ex' fp (lt.trans l') r nd fun a z zz => nw a z (lt.keep a zz)) (ats_rep (a1.mono (l1.trans l2).cuts) _) (by rw [List.length_replicate, sizeLine_eq]; omega) (fr.mono lt).exok hp3
    · exact q.elim
  | _ => exact q.elim
end
end DL

set_option Elab.async false
set_option linter.all false
set_option maxRecDepth 100000
set_option maxHeartbeats 4000000
set_option autoImplicit false
/-! DL15: less of any two alike things. -/
namespace DL
open PySem PySem.Spec PyProof.Rows L2
section
variable {X : Cx} {ad : Adr} {w : Wi} {rs : Sh} {G G' : Shs} {pos : Pos}
def notN : D → Bool
  | .non => false
  | _ => true
/-- d < e -/
def oLtG (d e : D) : R D := if okP d = true ∧ okP e = true ∧ PySem.W.alike (toP d) (toP e) = true ∧ notN d = true then .ok (.bl (PySem.W.dataLt (toP d) (toP e))) else .bad
theorem op_ltD (hu : X.A.units + 64 < cLine) : OpR X (compareOp .Lt) (fun x y H Q => ∃ d e, Dp X.K H x d ∧ Dp X.K H y e ∧ d.depth ≤ 64 ∧ PySem.W.alike d e = true ∧ d ≠ .none ∧ Q (.bl (PySem.W.dataLt d e)) H) := by
  intro pins s σ H x y v u Q I rx ry h
  obtain ⟨d, e, hd, he, sd, al, nn, q⟩ := h
  obtain ⟨as, r1⟩ := Dp.reads I d x v hd rx
  obtain ⟨bs, r2⟩ := Dp.reads I e y u he ry
  exact PySem.W.lt_data r1 r2 al nn (by have := Nat.min_le_left d.depth e.depth; omega) ⟨.bl _, H, I, rfl, q⟩
theorem dop_ltG (hu : X.A.units + 64 < cLine) : DOp X ad (compareOp .Lt) .fz oLtG := by
  refine ⟨_, op_ltD hu, fun x y d e H ex Q hx a b q => ?_⟩
  unfold oLtG at q
  split at q
  · rename_i hh
    have h1 := okP_dp hh.1 a
    have h2 := okP_dp hh.2.1 b
    refine ⟨_, _, h1.1, h2.1, SeqAt.depth_of_shaped h1.2, hh.2.2.1, ?_, post_fz q (Le.refl _ _) (.bl _)⟩
    intro z
    cases d <;> first | exact absurd hh.2.2.2 (by decide) | cases z
  · exact q.elim
theorem no_ltG : ∀ d e c, oLtG d e ≠ .exc c := by
  intro d e c z
  unfold oLtG at z
  split at z <;> cases z
end
end DL

set_option Elab.async false
set_option linter.all false
set_option maxRecDepth 100000
set_option maxHeartbeats 4000000
set_option autoImplicit false
/-! DL16: two lists of one's own in a tuple. -/
namespace DL
open PySem PySem.Spec PyProof.Rows L2
/-- the shape -/
abbrev sh2 : Sh := .tup [.own .fz, .own .fz]
section
variable {X : Cx} {ad : Adr} {w : Wi} {rs : Sh} {G G' : Shs} {pos : Pos}
/-- return (x, y), two lists of ours -/
theorem sds_retT2 (i j : Nat) {x y : Str} {p1 p2 pt : Pos} {kt : Nat} (hN : X.N[i]? = some x := by rfl) (hN2 : X.N[j]? = some y := by rfl) (hg : sh G i = .own .fz := by rfl) (hg2 : sh G j = .own .fz := by rfl) (hij : i ≠ j := by decide)
    (hv : Vis X.env.scope x := by first | exact Or.inl rfl | exact Or.inr (Or.inl rfl) | exact Or.inr (Or.inr rfl)) (hd : (x == ("__debug__" : Str)) = false := by decide) (hcd : (x == ("__classdict__" : Str)) = false := by decide)
    (hv2 : Vis X.env.scope y := by first | exact Or.inl rfl | exact Or.inr (Or.inl rfl) | exact Or.inr (Or.inr rfl)) (hd2 : (y == ("__debug__" : Str)) = false := by decide) (hcd2 : (y == ("__classdict__" : Str)) = false := by decide)
    (h1 : starEach [.Name x p1, .Name y p2] X.env = (false, eval (.Name x p1) X.env) :: starEach [.Name y p2] X.env := by rfl) (h2 : starEach [.Name y p2] X.env = (false, eval (.Name y p2) X.env) :: starEach [] X.env := by rfl) :
    SDs X ad w sh2 G G' [.Return (some (.Tuple [.Name x p1, .Name y p2] kt pt)) pos] (oRet (dTup (dCons (dV i) (dCons (dV j) dNil)))) := by
  refine ⟨_, pss_one (ps_ret (pe_tup (pa_cons (pe_var hN hv hd hcd) (pa_cons (pe_var hN2 hv2 hd2 hcd2) pa_nil h2) h1))), fun H0 ex0 ρ σ H ex De l f q => ?_⟩
  unfold oRet dTup dCons dNil dV at q
  cases e : ρ[i]? with
  | none => rw [e] at q; exact q.elim
  | some o =>
  cases o with
  | none => rw [e] at q; exact q.elim
  | some d =>
  rw [e] at q
  cases e' : ρ[j]? with
  | none => rw [e'] at q; exact q.elim
  | some o' =>
  cases o' with
  | none => rw [e'] at q; exact q.elim
  | some d' =>
  rw [e'] at q
  obtain ⟨fps, f1, f2, f3, f4⟩ := f.slots
  obtain ⟨v, e1, r⟩ := f1 i d e
  obtain ⟨v', e1', r'⟩ := f1 j d' e'
  rw [hg] at r
  rw [hg2] at r'
  refine ⟨v, e1, v', e1', ?_⟩
  refine ⟨by show 2 ≤ sizeLine; rw [sizeLine_eq]; omega, fun p hp => ?_⟩
  have ll : Le H ex (upd H p (.tup [v, v'])) ex := Le.lay hp
  have hnx : ¬ ex p := fun z => by
    obtain ⟨o, h⟩ := f.exok p z
    rw [hp] at h
    cases h
  have q : Ok X.K ad w sh2 G G' H0 ex0 H ex De (.rt (.tup [d, d'])) := q
  refine q (.ref p) _ ex (fps i ++ (fps j ++ [])) (l.trans ll) ll.cuts (.tup (SqT.of (cut_of hnx upd_same)) (by show 2 ≤ sizeLine; rw [sizeLine_eq]; omega) (.cons (r.mono ll) (.cons (r'.mono ll) .nil))) ?_ fun a z => ?_
  · rw [List.append_nil]
    exact List.nodup_append.mpr ⟨f2 i, f2 j, fun a ha b hb hab => f3 i j a hij ha (hab ▸ hb)⟩
  · rw [List.append_nil] at z
    rcases List.mem_append.mp z with z | z
    · exact (f4 i a z).2
    · exact (f4 j a z).2
/-- x[k] of a tuple or list, whoever owns it, looked at -/
def oIxU : D → D → R D
  | .lst ds, .int k => getI ds k
  | .tup ds, .int k => getI ds k
  | _, _ => .bad
theorem du_ix {a b : Expr} {f g : Env → R D} (ha : DU X ad w G a f) (hb : DE X ad w G b .fz g) (hs : PlainIx b := by exact fun _ _ => rfl) : DU X ad w G (.Subscript a b pos) (d2 oIxU f g) := by
  obtain ⟨ta, pa, ka⟩ := ha
  obtain ⟨tb, pb, kb⟩ := hb
  refine ⟨_, pe_ix ix_seq pa pb hs, fun ex0 ρ σ H ex Q fr q => ?_⟩
  refine ka ex0 ρ σ H ex _ fr ?_
  unfold d2 at q
  rw [sat_bind] at q
  refine q.imp (fun d q v H1 ex1 l1 a1 => ?_) fun _ z => z
  refine kb ex0 ρ σ H1 ex1 _ (fr.mono l1) ?_
  rw [sat_bind] at q
  refine q.imp (fun k q u H2 ex2 fp l2 r2 _ _ => ?_) fun _ z => z.mono l1
  have a2 := rep_fz r2
  have a1' := a1.mono l2.same
  cases a1' with
  | lst h hz hs =>
    cases a2 <;> first | exact q.elim | skip
    unfold oIxU getI at q
    dsimp only at q
    split at q
    · rename_i z e
      obtain ⟨v, e1, a3⟩ := atI_at hs e
      exact .inl ⟨_, _, _, v, rfl, rfl, h, e1, q v H2 ex2 (l1.trans l2) a3⟩
    · exact q.elim
  | tup h hz hs =>
    cases a2 <;> first | exact q.elim | skip
    unfold oIxU getI at q
    dsimp only at q
    split at q
    · rename_i z e
      obtain ⟨v, e1, a3⟩ := atI_at hs e
      exact .inr (.inl ⟨_, _, _, v, rfl, rfl, h, e1, q v H2 ex2 (l1.trans l2) a3⟩)
    · exact q.elim
  | _ => exact q.elim
end
section
variable {K : PySem.W.Frag} {ad : Adr} {G : Shs} {ex0 ex : Own} {ρ : Env} {σ : L2.St} {H : Hp}
theorem own_same {a : Addr} {o : HO} (hex : ex a) : Same (cut H ex) (cut (upd H a o) ex) := fun b u q => by
  obtain ⟨n, q⟩ := of_cut q
  exact cut_of n (by rw [upd_ne (fun (z : b = a) => n (by rw [z]; exact hex))]; exact q)
/-- two own lists in the tuple at slot i -/
theorem Fra.own2 (f : Fra K ad G ex0 ρ σ H ex) {i : Nat} {ds es : List D} (e : ρ[i]? = some (some (.tup [.lst ds, .lst es]))) (g : sh G i = sh2) :
    ∃ p a b us vs, σ[i]? = some (some (.ref p)) ∧ SqT K (cut H ex) p [.ref a, .ref b] ∧ (ex a ∧ ¬ ex0 a ∧ H a = some (.lst us) ∧ us.length ≤ sizeLine ∧ Ats K ad (cut H ex) ds us) ∧
      (ex b ∧ ¬ ex0 b ∧ H b = some (.lst vs) ∧ vs.length ≤ sizeLine ∧ Ats K ad (cut H ex) es vs) ∧
      (∀ ds' us', us'.length ≤ sizeLine → Ats K ad (cut H ex) ds' us' → Fra K ad G ex0 (ρ.set i (some (.tup [.lst ds', .lst es]))) σ (upd H a (.lst us')) ex) ∧
      ∀ es' vs', vs'.length ≤ sizeLine → Ats K ad (cut H ex) es' vs' → Fra K ad G ex0 (ρ.set i (some (.tup [.lst ds, .lst es']))) σ (upd H b (.lst vs')) ex := by
  obtain ⟨fps, h1, h2, h3, h4⟩ := f.slots
  obtain ⟨v, e1, r⟩ := h1 i _ e
  rw [g] at r
  generalize hfp : fps i = fp at r
  have hi : i < ρ.length := (List.getElem?_eq_some_iff.mp e).1
  cases r with
  | @tup _ _ p _ _ hT hzT hs =>
  cases hs with
  | cons ra hs =>
  cases hs with
  | cons rb hs =>
  cases hs
  cases ra with
  | flt z _ => cases z
  | @own _ _ a us f1 hexa hHa hza hsa =>
  cases rb with
  | flt z _ => cases z
  | @own _ _ b vs f2 hexb hHb hzb hsb =>
  obtain ⟨x1, hA⟩ := hsa.fzs
  obtain ⟨x2, hB⟩ := hsb.fzs
  subst x1
  subst x2
  have hfp : fps i = [a, b] := hfp
  have ha : a ∈ fps i := by rw [hfp]; simp
  have hb : b ∈ fps i := by rw [hfp]; simp
  have hab : a ≠ b := by
    have := h2 i
    rw [hfp] at this
    simpa using this
  have gen : ∀ (c : Addr) (o : HO) (dn : D), c ∈ fps i → ex c → Rep K ad (upd H c o) ex sh2 dn (.ref p) (fps i) → Fra K ad G ex0 (ρ.set i (some dn)) σ (upd H c o) ex := fun c o dn hc hexc rn => by
    refine ⟨by rw [List.length_set, f.len], fun b z => ?_, fps, fun j d' ej => ?_, h2, h3, h4⟩
    · by_cases hb : b = c
      · subst hb
        exact ⟨_, upd_same⟩
      · rw [upd_ne hb]
        exact f.exok b z
    · by_cases hj : j = i
      · subst hj
        rw [List.getElem?_set_self hi] at ej
        cases ej
        refine ⟨_, e1, ?_⟩
        rw [g]
        exact rn
      · rw [List.getElem?_set_ne (Ne.symm hj)] at ej
        obtain ⟨v', e2, r'⟩ := h1 j d' ej
        refine ⟨v', e2, r'.keep (own_same hexc) fun b z => ⟨(h4 j b z).1, upd_ne fun q => ?_⟩⟩
        subst q
        exact h3 j i b hj z hc
  refine ⟨p, a, b, us, vs, e1, hT, ⟨hexa, (h4 i a ha).2, hHa, hza, hA⟩, ⟨hexb, (h4 i b hb).2, hHb, hzb, hB⟩, fun ds' us' hz' hA' => ?_, fun es' vs' hz' hA' => ?_⟩
  · refine gen a _ _ ha hexa ?_
    rw [hfp]
    exact .tup (seqT (own_same hexa) hT) hzT (.cons (.own hexa upd_same hz' (hA'.mono (own_same hexa)).reps) (.cons (.own hexb ((upd_ne (Ne.symm hab)).trans hHb) hzb (hB.mono (own_same hexa)).reps) .nil))
  · refine gen b _ _ hb hexb ?_
    rw [hfp]
    exact .tup (seqT (own_same hexb) hT) hzT (.cons (.own hexa ((upd_ne hab).trans hHa) hza (hA.mono (own_same hexb)).reps) (.cons (.own hexb upd_same hz' (hA'.mono (own_same hexb)).reps) .nil))
end
section
variable {X : Cx} {ad : Adr} {w : Wi} {rs : Sh} {G G' : Shs} {pos : Pos}
/-- x[k].m(..), x the two lists at slot i -/
def oMutT (i : Nat) (k : Bool) (o : List D → List D → R (List D)) (f : Env → R (List D)) : Env → Out := fun ρ => match dV i ρ with
  | .ok (.tup [.lst xs, .lst ys]) => (f ρ).then ρ fun ds => match o (if k = true then ys else xs) ds with
    | .ok zs => .nx (ρ.set i (some (.tup [.lst (if k = true then xs else zs), .lst (if k = true then zs else ys)])))
    | _ => .bad
  | _ => .bad
end
end DL

set_option Elab.async false
set_option linter.all false
set_option maxRecDepth 100000
set_option maxHeartbeats 4000000
set_option autoImplicit false
/-! DL17: is, of truths. -/
namespace DL
open PySem PySem.Spec PyProof.Rows L2
section
variable {X : Cx} {ad : Adr}
def oIsB : D → D → R D
  | .bl a, .bl b => .ok (.bl (decide (a = b)))
  | _, _ => .bad
def oIsNotB : D → D → R D
  | .bl a, .bl b => .ok (.bl (!decide (a = b)))
  | _, _ => .bad
theorem dop_isB : DOp X ad (compareOp .Is) .fz oIsB := by
  refine ⟨_, op_is_bl, fun x y d e H ex Q hx a b q => ?_⟩
  unfold oIsB at q
  split at q
  · cases a
    cases b
    exact ⟨_, _, rfl, rfl, post_fz q (Le.refl _ _) (.bl _)⟩
  · exact q.elim
theorem dop_isNotB : DOp X ad (compareOp .IsNot) .fz oIsNotB := by
  refine ⟨_, op_isnot_bl, fun x y d e H ex Q hx a b q => ?_⟩
  unfold oIsNotB at q
  split at q
  · cases a
    cases b
    exact ⟨_, _, rfl, rfl, post_fz q (Le.refl _ _) (.bl _)⟩
  · exact q.elim
theorem no_isB : ∀ d e c, oIsB d e ≠ .exc c := by
  intro d e c z
  unfold oIsB at z
  split at z <;> cases z
theorem no_isNotB : ∀ d e c, oIsNotB d e ≠ .exc c := by
  intro d e c z
  unfold oIsNotB at z
  split at z <;> cases z
@[simp] theorem oIsB_b {a b : Bool} : oIsB (.bl a) (.bl b) = .ok (.bl (decide (a = b))) := rfl
@[simp] theorem oIsNotB_b {a b : Bool} : oIsNotB (.bl a) (.bl b) = .ok (.bl (!decide (a = b))) := rfl
end
end DL

set_option Elab.async false
set_option linter.all false
set_option maxRecDepth 100000
set_option maxHeartbeats 4000000
set_option autoImplicit false
/-! DL18: try .. except X as e: kept = e; isinstance of what was kept. -/
namespace DL
open PySem PySem.Spec PyProof.Rows L2
section
variable {X : Cx} {pins : List (Addr × Obj)} {σ : L2.St} {H : Hp} {s : Shared}
/-- what was not there at the start is told of from now on -/
theorem track {a : Addr} {o : HO} (J : L2.Inv X pins σ H s) (fresh : X.s_0.heap.get? a = none) (na : H a = none) (nl : a ≠ X.env.locals) (nc : ∀ x c, X.env.cells.lookup x = some c → c ≠ a) (np : ∀ p ∈ X.pn ++ pins, p.1 ≠ a)
    (good : ObjOk X.prog X.w (upd H a o) s.heap a o) : L2.Inv X pins σ (upd H a o) s := by
  have ne0 : ∀ c ob, X.s_0.heap.get? c = some ob → c ≠ a := fun c ob q z => by
    rw [z, fresh] at q
    cases q
  have neH : ∀ c u, H c = some u → c ≠ a := fun c u q z => by
    rw [z, na] at q
    cases q
  have U := J.base
  refine ⟨J.ok, J.os, J.bare, ⟨U.keep, U.slot, ?_, U.there, ?_, ?_, ?_⟩, J.loc, J.cell, ?_, ?_, ?_, ?_, J.len⟩
  · intro c ob q n hx
    rw [upd_ne (ne0 c ob q)]
    exact U.free c ob q n hx
  · intro c xs q
    have z := U.tups c xs q
    rw [upd_ne (neH c _ z)]
    exact z
  · intro c ob xs q
    have z := U.frzs c ob xs q
    rw [upd_ne (neH c _ z)]
    exact z
  · intro c ps q
    obtain ⟨m, z⟩ := U.tbls c ps q
    exact ⟨m, by rw [upd_ne (neH c _ z)]; exact z⟩
  · rw [upd_ne (Ne.symm nl)]
    exact J.free
  · intro x c q
    rw [upd_ne (nc x c q)]
    exact J.freeC x c q
  · intro p hp
    obtain ⟨z1, z2, z3⟩ := J.pin p hp
    exact ⟨z1, by rw [upd_ne (np p hp)]; exact z2, z3⟩
  · intro c ob q
    by_cases hc : c = a
    · subst hc
      rw [upd_same] at q
      cases q
      exact good
    · rw [upd_ne hc] at q
      refine (J.hok c ob q).stay (fun _ _ _ z => z) (fun d z => ?_) fun d xs z => ?_
      · rw [upd_ne (neH d _ z)]
        exact z
      · rw [upd_ne (neH d _ z)]
        exact z
/-- an exception by what is told of it -/
theorem kept_ok {h : Heap} {G : Hp} {a C : Addr} {oe : Obj} (e : h.get? a = some oe) (hc : oe.cls = .ref C) (hd : oe.dict = none) (hf : ∃ vs, oe.data = .fields vs) : ObjOk X.prog X.w G h a (excO C a) := by
  show _ ∧ _ ∧ _
  refine ⟨⟨oe, e, hc, hd, hf⟩, ⟨oe, e⟩, fun h1 h2 z k => ?_⟩
  obtain ⟨o1, e1, r⟩ := z
  exact ⟨o1, k o1 e1, r⟩
end
/-- frames of what is anybody's -/
theorem Frz.fra {K : PySem.W.Frag} {ad : Adr} {ex0 ex : Own} {ρ : Env} {σ : L2.St} {H : Hp} (f : Frz K ad [] ρ σ H ex) : Fra K ad [] ex0 ρ σ H ex := by
  refine ⟨f.len, f.exok, fun _ => [], fun i d e => ?_, fun _ => List.nodup_nil, fun _ _ _ _ z => absurd z (by simp), fun _ _ z => absurd z (by simp)⟩
  obtain ⟨v, e1, a⟩ := f.slots i d rfl e
  exact ⟨v, e1, .fz a⟩
section
variable {X : Cx} {ad : Adr} {w : Wi} {rs : Sh} {G : Shs} {pos : Pos}
theorem wipeR_len : ∀ (os : List Nat) (ρ : Env), (wipeR ρ os).length = ρ.length
  | [], _ => rfl
  | o :: os, ρ => by
    unfold wipeR
    rw [List.length_set, wipeR_len os ρ]
theorem wipeR_in : ∀ (os : List Nat) (ρ : Env) (i : Nat) (d : D), (wipeR ρ os)[i]? = some (some d) → i ∉ os ∧ ρ[i]? = some (some d)
  | [], _, _, _, h => ⟨by simp, h⟩
  | o :: os, ρ, i, d, h => by
    unfold wipeR at h
    by_cases hi : i = o
    · subst hi
      by_cases hl : i < (wipeR ρ os).length
      · rw [List.getElem?_set_self hl] at h
        cases h
      · rw [List.getElem?_eq_none (by simpa using hl)] at h
        cases h
    · rw [List.getElem?_set_ne (Ne.symm hi)] at h
      obtain ⟨a, b⟩ := wipeR_in os ρ i d h
      exact ⟨fun z => (List.mem_cons.mp z).elim hi a, b⟩
theorem sh_out {i : Nat} : ∀ {G : Shs}, i ∉ G.map (·.1) → sh G i = .fz
  | [], _ => rfl
  | (j, s) :: G, h => by
    have h1 : (i == j) = false := by
      simp at h
      simp [h.1]
    have ih := sh_out (i := i) (G := G) fun z => h (List.mem_cons_of_mem _ z)
    unfold sh at ih ⊢
    rw [List.lookup_cons, h1]
    exact ih
theorem Frz.fraW {K : PySem.W.Frag} {ex0 ex : Own} {ρ : Env} {σ : L2.St} {H : Hp} (f : Frz K ad G ρ σ H ex) : Fra K ad G ex0 (wipeR ρ (G.map (·.1))) σ H ex := by
  refine ⟨by rw [wipeR_len]; exact f.len, f.exok, fun _ => [], fun i d e => ?_, fun _ => List.nodup_nil, fun _ _ _ _ z => absurd z (by simp), fun _ _ z => absurd z (by simp)⟩
  obtain ⟨h1, h2⟩ := wipeR_in _ _ _ _ e
  obtain ⟨v, e1, a⟩ := f.slots i d (sh_out h1) h2
  exact ⟨v, e1, by rw [sh_out h1]; exact .fz a⟩
/-- try: g, except .. as (slot i): (slot k) = it -/
def oTry (os : List Nat) (i k : Nat) (g : Env → Out) : Env → Out := fun ρ => match g ρ with
  | .xc e ρ' => .nx (((wipeR ρ' os).set i none).set k (some (.exc e)))
  | o => o
/-- what the clause wishes -/
def wK (ad : Adr) (i k : Nat) (De : Ends) : Wi := fun c σ H => ∀ a, H a = none → De.nx ((σ.set i none).set k (some (.ref a))) (upd H a (excO (ad c) a))
def WK (ad : Adr) (i k : Nat) (De : Ends) : WX := fun cls d σ H => d = none ∧ ∃ c, cls = .ref (ad c) ∧ wK ad i k De c σ H
theorem set_thrice {α : Type} (l : List α) {i k : Nat} (h : i ≠ k) (x y z : α) : ((l.set i x).set k y).set i z = (l.set i z).set k y := by
  rw [List.set_comm _ _ (Ne.symm h), List.set_set, List.set_comm _ _ h]
theorem sd_try (i k : Nat) {n kx x : Str} {C : Addr} {bd : List Stmt} {g : Env → Out} {np p1 p2 p3 pos' : Pos} (hN : X.N.Nodup) (hc : Names X x (.ref C)) (hx : ∀ c, PySem.W.exmOne X.K (.ref (ad c)) (.ref C) = some true)
    (body : ∀ (w' : Wi) (pn : List (Addr × Obj)) (xe : Value → Shared → Prop), Tk (X.tr pn xe) ad w' → PassesOwn (model X.prog X.w) X.A X.env xe → SDs (X.tr pn xe) ad w' rs G G bd g) (hgk : sh G k = .fz := by rfl)
    (hi : X.N[i]? = some n := by rfl) (hk : X.N[k]? = some kx := by rfl) (hln : X.env.kindOf n = some .local := by rfl) (hkl : X.env.kindOf kx = some .local := by rfl) (hik : i ≠ k := by decide)
    (hst : X.stack = X.env :: X.outer := by rfl) (hfl : X.env.frame = some X.env.locals := by rfl) (hex : X.ex = [] := by rfl) (hd : (n == ("__debug__" : Str)) = false := by decide) (hcd : (n == ("__classdict__" : Str)) = false := by decide)
    (hsw : swapsWith (.Name n p2) (some (.Name kx p1)) p3.line X.env = pure false := by rfl) :
    SD X ad w rs G (.Try bd [.ExceptHandler (some (.Name x np)) (some n) [.Assign [.Name kx p1] (.Name n p2) p3] pos'] [] [] pos) (oTry (G.map (·.1)) i k g) := by
  have tk : ∀ (De : Ends) (pn : List (Addr × Obj)) (xe : Value → Shared → Prop), Takes (X.tr pn xe) (WK ad i k De) → Tk (X.tr pn xe) ad (wK ad i k De) := fun De pn xe h => ⟨_, h, fun c σ H z => ⟨rfl, c, rfl, z⟩⟩
  refine ⟨fun De σ H => ∀ pn xe (h : Takes (X.tr pn xe) (WK ad i k De)) (po : PassesOwn (model X.prog X.w) X.A X.env xe), Classical.choose (body (wK ad i k De) pn xe (tk De pn xe h) po) De σ H, ⟨fun pins s σ H D I hpre => ?_⟩, fun H0 ex0 ρ σ H ex De l f q pn xe h po => ?_⟩
  · have ok := I.ok
    have hfr : X.A.frames = some (X.env :: X.outer) := by rw [ok.frames, hst]
    refine wpAny_Try_except ?_
    -- the body, its exceptions looked at
    have run := fun h po => ((Classical.choose_spec (body (wK ad i k D) (X.pn ++ pins) (fun v t => wpAny (model X.prog X.w) X.A (noteFrame v X.env) (fun _ t1 => wpAny (model X.prog X.w) X.A (setFlight v none)
      (fun _ t2 => wpAny (model X.prog X.w) X.A (handleBy v X.env [.ExceptHandler (some (.Name x np)) (some n) [.Assign [.Name kx p1] (.Name n p2) p3] pos']) (SP X pins D) X.xe t2) X.xe t1) X.xe t) (tk D _ _ h) po)).1).run [] s σ H D (I.toTry _) (hpre _ _ h po)
    refine wpAny_mono (run ?_ PassesOwn.looking) (fun f s1 hsp => ?_) fun _ _ z => z
    · intro u s' xx
      obtain ⟨a, B, sI, pins', σ1, H1, cls, d, rfl, J0, nb, up, sky, na, os, ag, rfl, c, rfl, wish⟩ := xx
      have J : L2.Inv X pins σ1 H1 sI := J0.ofTry ok
      rw [show (X.tr (X.pn ++ pins) _).stack = X.env :: X.outer from hst] at sky
      refine Sky.land Zc.steady hfr hfl sky fun g3 fl3 up3 => ?_
      have J3 : L2.Inv X pins σ1 H1 { s' with heap := g3 } := J.landed nb fl3.1 (up.trans up3) os ag
      obtain ⟨o3, v3, e3, z3, f3⟩ := fl3.there
      -- it is no frame, and new
      have nfr : a ∉ frs (X.env :: X.outer) := fun hm => by
        obtain ⟨_, o', e', hnf⟩ := fl3.2.2.1.mem hm
        rw [e3] at e'
        cases e'
        exact hnf _ f3
      have nfs : a ∉ frs X.stack := by rw [hst]; exact nfr
      have nSI : sI.heap.get? a = none := by
        cases q : sI.heap.get? a with
        | none => rfl
        | some o' =>
          have z := nb a o' q nfs
          rw [fl3.2.1] at z
          cases z
      have n0 : X.s_0.heap.get? a = none := by
        cases q : X.s_0.heap.get? a with
        | none => rfl
        | some o' =>
          obtain ⟨o2, z⟩ := J.base.there a o' q (by rw [hex]; simp)
          rw [nSI] at z
          cases z
      have nL : a ≠ X.env.locals := fun z => nfr (List.mem_filterMap.mpr ⟨X.env, List.mem_cons_self, by rw [hfl, z]⟩)
      have nF : a ∉ X.fs := fun hm => by
        obtain ⟨e, he, q⟩ := List.mem_filterMap.mp hm
        exact nfr (List.mem_filterMap.mpr ⟨e, List.mem_cons_of_mem _ he, q⟩)
      have npin : ∀ p ∈ X.pn ++ pins, p.1 ≠ a := fun p hp z => by
        have q := (J.pin p hp).1
        rw [z, nSI] at q
        cases q
      have S3 := J3.suite e3 f3 na nL nF
      refine wpAny_handleBy_cons (codeAny_handlers_test ?_) (by intro q; cases q)
      have lt : PySem.W.Looks (model X.prog X.w) g3 (typeOf (.ref a)) (.ref (ad c)) := fun A Q E t k q => wpAny_typeOf_ref (k _ _ e3) (by rw [z3.1]; exact q)
      have lm := PySem.W.exm_one (M := model X.prog X.w) J3.kIn lt (hx c)
      have named : ∀ {Q E : Value → Shared → Prop}, Q (.ref C) { s' with heap := g3 } → wpAny (model X.prog X.w) (X.A.mark (some (.ref a))) (eval (.Name x np) X.env) Q E { s' with heap := g3 } := fun {Q E} q => by
        obtain ⟨hg, hdb, hm | ⟨hm, hv, hnn⟩⟩ := hc
        · exact ld_glob (X := X.suite a ((a, o3) :: (X.pn ++ pins))) S3 hg hm q hdb
        · exact ld_blt (X := X.suite a ((a, o3) :: (X.pn ++ pins))) S3 hg hm hv q hnn hdb
      refine named (lm.here ?_)
      refine codeAny_handlers_suite_as ?_
      refine HandSPX.lands_againZ fl3 fun g4 fl4 up4 => ?_
      have J4 : L2.Inv X pins σ1 H1 { s' with heap := g4 } := J.landed nb fl4.1 ((up.trans up3).trans up4) os ag
      obtain ⟨o4, v4, e4, z4, f4⟩ := fl4.there
      have S4 := J4.suite e4 f4 na nL nF
      refine store_ok (X := X.suite a ((a, o4) :: (X.pn ++ pins))) (v := .ref a) S4 hN hi (.inl hln) rfl (fun s5 S5 => ?_) (.inr hln)
      have hvar : PE (X.suite a ((a, o4) :: (X.pn ++ pins))) (.Name n p2) _ := pe_var (X := X.suite a ((a, o4) :: (X.pn ++ pins))) (i := i) hi (.inl hln) hd hcd
      have hset := pss_one (ps_set (X := X.suite a ((a, o4) :: (X.pn ++ pins))) (i := k) hN hk (.inl hkl) hvar hsw (.inr hkl))
      have li : i < σ1.length := by rw [J.len]; exact (List.getElem?_eq_some_iff.mp hi).1
      refine wpAny_mono (hset.run [] s5 _ H1 ⟨fun τ K => τ = (σ1.set i (some (.ref a))).set k (some (.ref a)) ∧ K = H1, fun _ _ => False, fun _ _ => False, fun _ _ => False⟩ S5 ⟨.ref a, List.getElem?_set_self li, rfl, rfl⟩) (fun f6 s6 hsp => ?_) (fun _ _ z => z.elim)
      cases f6 with
      | brk => obtain ⟨_, _, _, z⟩ := hsp; exact z.elim
      | cont => obtain ⟨_, _, _, z⟩ := hsp; exact z.elim
      | ret u => obtain ⟨_, _, _, _, _, z⟩ := hsp; exact z.elim
      | next =>
        obtain ⟨τ, K, S6, e1, e2⟩ := hsp
        rw [e1, e2] at S6
        have J6 : L2.Inv X ((a, o4) :: pins) ((σ1.set i (some (.ref a))).set k (some (.ref a))) H1 s6 :=
          ⟨ok, S6.os, S6.bare, S6.base, S6.loc, S6.cell, S6.free, S6.freeC, fun p hp => S6.pin p (by
            rcases List.mem_append.mp hp with z | z
            · exact List.mem_append_left _ (List.mem_cons_of_mem _ (List.mem_append_left _ z))
            · rcases List.mem_cons.mp z with z | z
              · rw [z]; exact List.mem_append_left _ List.mem_cons_self
              · exact List.mem_append_left _ (List.mem_cons_of_mem _ (List.mem_append_right _ z))), S6.hok, S6.len⟩
        refine gone_ok J6 hN hi hln fun s7 J7 => ?_
        obtain ⟨q1, q2, q3, q4, q5⟩ := J7.pin (a, o4) (List.mem_append_right _ List.mem_cons_self)
        have J8 : L2.Inv X pins (((σ1.set i (some (.ref a))).set k (some (.ref a))).set i none) H1 s7 :=
          ⟨ok, J7.os, J7.bare, J7.base, J7.loc, J7.cell, J7.free, J7.freeC, fun p hp => J7.pin p (by
            rcases List.mem_append.mp hp with z | z
            · exact List.mem_append_left _ z
            · exact List.mem_append_right _ (List.mem_cons_of_mem _ z)), J7.hok, J7.len⟩
        have J9 := track (o := excO (ad c) a) J8 n0 na nL (fun y b e z => by
            obtain ⟨v, ob, w1, w2⟩ := J8.cell y b e
            rw [z] at w1
            have q1 : s7.heap.get? a = some o4 := q1
            rw [q1] at w1
            cases w1
            exact q5 v w2) npin (kept_ok (X := X) q1 z4.1 z4.2 ⟨_, f4⟩)
        refine ⟨_, _, J9, ?_⟩
        rw [set_thrice _ hik]
        exact wish a na
    · cases f with
      | next =>
        obtain ⟨σ', H', J', q⟩ := hsp
        exact wpAny_execs_nil ⟨σ', H', J'.ofTry ok, q⟩
      | brk =>
        obtain ⟨σ', H', J', q⟩ := hsp
        exact ⟨σ', H', J'.ofTry ok, q⟩
      | cont =>
        obtain ⟨σ', H', J', q⟩ := hsp
        exact ⟨σ', H', J'.ofTry ok, q⟩
      | ret u =>
        obtain ⟨v, σ', H', J', r, q⟩ := hsp
        exact ⟨v, σ', H', J'.ofTry ok, r, q⟩
  · refine (Classical.choose_spec (body (wK ad i k De) pn xe (tk De pn xe h) po)).2 H0 ex0 ρ σ H ex De l f ?_
    unfold oTry at q
    cases e : g ρ with
    | nx ρ1 => rw [e] at q; exact q
    | rt d => rw [e] at q; exact q
    | bad => rw [e] at q; exact q
    | xc c ρ1 =>
      rw [e] at q
      intro σ' H' ex' l' m' fz a na
      have la : Le H' ex' (upd H' a (excO (ad c) a)) ex' := Le.lay na
      refine q _ _ ex' (l'.trans la) (m'.trans la.cuts) ?_
      refine ((fz.mono la).fraW.drop none).setF hgk (.exc c (cut_of (fun z => ?_) upd_same))
      obtain ⟨o, z⟩ := fz.exok a z
      rw [na] at z
      cases z
end
end DL

set_option Elab.async false
set_option linter.all false
set_option maxRecDepth 100000
set_option maxHeartbeats 4000000
set_option autoImplicit false
/-! DL19: isinstance of what was kept; count, index. -/
namespace DL
open PySem PySem.Spec PyProof.Rows L2
section
variable {X : Cx} {ad : Adr} {w : Wi} {rs : Sh} {G : Shs} {pos : Pos}
/-- isinstance of an exception of the program's own -/
def rIsX (K : PySem.W.Frag) (ad : Adr) : List V → Hp → VK → Prop := fun xs H Q => ∃ (a : Addr) (c : V) (cv : Value) (b : Bool) (e : Ex), xs = [.ref a, c] ∧ H a = some (excO (ad e) a) ∧ (∀ u, RelV c u → u = cv) ∧ PySem.W.kitOne K (.ref (ad e)) cv = some b ∧ Q (.bl b) H
theorem call_isX (C : ∀ e, ExcC X.K (ad e)) : CallR X (.builtin "isinstance") (rIsX X.K ad) := by
  intro pins s σ H xs us Q I r h
  obtain ⟨a, c, cv, b, e, rfl, hH, hcv, hk, q⟩ := h
  obtain ⟨u1, u2, rfl, r1, r2⟩ := vals2 r
  cases (show u1 = Value.ref a from r1)
  have ec := hcv _ r2
  subst ec
  have z := I.hok a _ hH
  obtain ⟨⟨oe, hg, h1, h2, vs, h3⟩, _, _⟩ := (show _ ∧ _ ∧ _ from z)
  have inst : PySem.W.InstAt s.heap a oe (ad e) none := by
    obtain ⟨oc, od, oda, osl⟩ := oe
    dsimp only at h1 h2 h3
    subst h1 h2 h3
    exact ⟨hg, rfl, rfl, trivial⟩
  have Ce := C e
  exact PySem.W.kia_one (PySem.W.handS_kitx_exc Ce.hg Ce.hk Ce.hs Ce.hd Ce.ha Ce.hn Ce.ht Ce.hm) I.kIn inst hk (fun z => nomatch z) fun tk => ⟨.bl b, H, I.tok tk, rfl, q⟩
def oIsX (c : Ex) : D → R D
  | .exc e => .ok (.bl (decide (e = c)))
  | _ => .bad
def oIsVE : D → R D
  | .exc _ => .ok (.bl true)
  | _ => .bad
theorem de_isX {e : Expr} {f : Env → R D} {T : Str} {p p2 : Pos} {C : Addr} (c : Ex) (he : DU X ad w G e f) (hi : X.mg "isinstance" = none) (hT : X.mg T = some (.ref C)) (ec : ∀ e, ExcC X.K (ad e)) (hk : ∀ e, PySem.W.kitOne X.K (.ref (ad e)) (.ref C) = some (decide (e = c)))
    (hdb : (T == ("__debug__" : Str)) = false := by decide) (hg : Gl X "isinstance" := by rfl) (hgT : Gl X T := by rfl)
    (h1 : starEach [e, .Name T p2] X.env = (false, eval e X.env) :: starEach [.Name T p2] X.env := by rfl) (h2 : starEach [.Name T p2] X.env = (false, eval (.Name T p2) X.env) :: starEach [] X.env := by rfl)
    (hpl : (backTo pos (starEach [.Name T p2] X.env)).any (·.1) = false := by rfl) :
    DE X ad w G (.Call (.Name "isinstance" p) [e, .Name T p2] [] pos) .fz (d1 (oIsX c) f) := by
  obtain ⟨te, pe, ke⟩ := he
  have pT : PE X (.Name T p2) (tC (.ref C)) := pe_glob hgT hT rfl hdb
  refine ⟨_, pe_callB (call_isX ec) hg hi PyProof.Rows.boot_isinstance (pa_cons pe (pa_cons pT pa_nil h2) h1) (by decide) (by decide) h1 hpl, fun ex0 ρ σ H ex Q fr q => ?_⟩
  refine ke ex0 ρ σ H ex _ fr ?_
  unfold d1 at q
  rw [sat_bind] at q
  refine q.imp (fun d q v H1 ex1 l a => ?_) fun _ z => z
  cases a with
  | exc y hy => exact ⟨_, .ref C, .ref C, decide (y = c), y, rfl, hy, fun u z => z, hk y, post_fz q l (.bl _)⟩
  | _ => exact q.elim
theorem de_isVE {e : Expr} {f : Env → R D} {p p2 : Pos} (he : DU X ad w G e f) (hi : X.mg "isinstance" = none) (hT : X.mg "ValueError" = none) (ec : ∀ e, ExcC X.K (ad e)) (hk : ∀ e, PySem.W.kitOne X.K (.ref (ad e)) (.type "ValueError") = some true)
    (hg : Gl X "isinstance" := by rfl) (hgT : Gl X "ValueError" := by rfl)
    (h1 : starEach [e, .Name "ValueError" p2] X.env = (false, eval e X.env) :: starEach [.Name "ValueError" p2] X.env := by rfl) (h2 : starEach [.Name "ValueError" p2] X.env = (false, eval (.Name "ValueError" p2) X.env) :: starEach [] X.env := by rfl)
    (hpl : (backTo pos (starEach [.Name "ValueError" p2] X.env)).any (·.1) = false := by rfl) :
    DE X ad w G (.Call (.Name "isinstance" p) [e, .Name "ValueError" p2] [] pos) .fz (d1 oIsVE f) := by
  obtain ⟨te, pe, ke⟩ := he
  have pT : PE X (.Name "ValueError" p2) (tC (.ty "ValueError")) := pe_bltn hgT hT (show bootBuiltins "ValueError" = some (.type "ValueError") by decide +kernel) rfl (by decide) (by decide)
  refine ⟨_, pe_callB (call_isX ec) hg hi PyProof.Rows.boot_isinstance (pa_cons pe (pa_cons pT pa_nil h2) h1) (by decide) (by decide) h1 hpl, fun ex0 ρ σ H ex Q fr q => ?_⟩
  refine ke ex0 ρ σ H ex _ fr ?_
  unfold d1 at q
  rw [sat_bind] at q
  refine q.imp (fun d q v H1 ex1 l a => ?_) fun _ z => z
  cases a with
  | exc y hy => exact ⟨_, .ty "ValueError", .type "ValueError", true, y, rfl, hy, fun u z => z, hk y, post_fz q l (.bl _)⟩
  | _ => exact q.elim
/-! ### methods that tell -/
def DMl (X : Cx) (ad : Adr) (id : String) (o : List D → List D → R D) : Prop :=
  ∃ r, MtR X id r ∧ ∀ a vs us xs ds H ex Q, SqL X.K H a vs → vs.length ≤ sizeLine → Ats X.K ad H xs vs → Ats X.K ad (cut H ex) ds us → Sat (o xs ds) (Post X.K ad H ex .fz Q) (fun _ => False) → r (.ref a) us H Q
def oMl (o : List D → List D → R D) (f : Env → R D) (g : Env → R (List D)) : Env → R D := fun ρ => (f ρ).bind fun d => (isL d).bind fun xs => (g ρ).bind fun ds => o xs ds
theorem de_meth {e0 e : Expr} {es : List Expr} {apos cpos : Pos} {name : Str} {id : String} {o : List D → List D → R D} {f : Env → R D} {g : Env → R (List D)} (hm : DMl X ad id o) (slot : Slot "list" name id) (hty : typeOf (.builtin id) = pure (.type "method_descriptor"))
    (h0 : DU X ad w G e0 f) (ha : DA X ad w G (e :: es) g) (no : ∀ xs ds c, o xs ds ≠ .exc c)
    (hbase : attributeBase e0 name X.env (eval e0 X.env) = eval e0 X.env := by rfl)
    (hfew : ((backTo cpos (starEach (e :: es) X.env)).all (fun x => !x.1) && (backToKw cpos (keywordEach [] X.env)).all (fun x => x.1.isSome)
      && decide ((e :: es).length + ([] : List Keyword).length + (if ([] : List Keyword).isEmpty then 0 else 1) < 30)) = true := by rfl)
    (hline : (apos.endLine == cpos.line) = true := by rfl) (hs : starEach (e :: es) X.env = (false, eval e X.env) :: starEach es X.env := by rfl) (hplain : (backTo cpos (starEach es X.env)).any (·.1) = false := by rfl) :
    DE X ad w G (.Call (.Attribute e0 name apos) (e :: es) [] cpos) .fz (oMl o f g) := by
  obtain ⟨r, mr, kr⟩ := hm
  obtain ⟨t0, p0, k0⟩ := h0
  obtain ⟨t, pa, k⟩ := ha
  refine ⟨_, pe_bm PySem.F.plainAttrs_list slot hty mr p0 pa hbase hfew hline hs hplain, fun ex0 ρ σ H ex Q fr q => ?_⟩
  refine k0 ex0 ρ σ H ex _ fr ?_
  unfold oMl at q
  rw [sat_bind] at q
  refine q.imp (fun d q v H1 ex1 l1 a1 => ?_) fun _ z => z
  cases a1 with
  | @lst a vs xs h hz hs =>
    refine ⟨.inl ⟨rfl, vs, h⟩, ?_⟩
    refine k ex0 ρ σ H1 ex1 _ (fr.mono l1) ?_
    have q : Sat ((g ρ).bind fun ds => o xs ds) (Post X.K ad H ex .fz Q) (Exc w σ H ex) := q
    rw [sat_bind] at q
    refine q.imp (fun ds q us H2 ex2 l2 a2 => ?_) fun _ z => z.mono l1
    refine kr a vs us xs ds H2 ex2 Q (l2.same.seq h) hz (hs.mono l2.same) a2 ?_
    cases ho : o xs ds with
    | exc c => exact absurd ho (no xs ds c)
    | bad => rw [ho] at q; exact q
    | ok y =>
      rw [ho] at q
      exact fun v H' ex' fp l3 r3 nd nw => q v H' ex' fp ((l1.trans l2).trans l3) r3 nd fun a z zz => nw a z ((l1.trans l2).keep a zz)
  | _ => exact q.elim
/-! count -/
def rCountD (K : PySem.W.Frag) : V → List V → Hp → VK → Prop := fun x xs H Q => ∃ (a : Addr) (y : V) (d : PyData) (ds : List PyData), x = .ref a ∧ xs = [y] ∧ Dp K H (V.ref a) (.list ds) ∧ Dp K H y d ∧ SeqAt.shaped (.list ds) = true ∧ SeqAt.shaped d = true ∧
  Q (.int (ds.countP fun z => PyData.eqv z d : Nat)) H
theorem mt_countD (hu : X.A.units + 65 < cLine) : MtR X "list.count" (rCountD X.K) := by
  intro pins s σ H x xs v us Q I rx rxs h
  obtain ⟨a, y, d, ds, rfl, rfl, hl, hy, sl, sd, q⟩ := h
  cases rx
  obtain ⟨uy, rfl, ry⟩ := rxs.one
  obtain ⟨bs, rd⟩ := Dp.reads I d y uy hy ry
  have lay : PyData.canLayAll0 ds = true := SeqAt.canLay_of_shaped sl
  cases hl with
  | lst hs ha =>
    obtain ⟨its, rv, ⟨⟨cls, dd, data, sls⟩, n, ho, hc, hdn, hdt⟩, hlen⟩ := I.list hs
    dsimp only at hc hdt
    subst hc hdt
    obtain ⟨as, rs⟩ := Dp.readsAll I ds _ its ha rv
    have hmap := SeqAt.readsAll_map ds its as lay rs
    refine call_meets PySem.F.slot_list_count ⟨_, ho, rfl⟩ PySem.F.entry_list_count (PySem.F.args_list_count_2 _ _) (SeqAt.list_countAt a its.toArray n dd sls uy fun u => PyData.eqv (SeqAt.readOf s.heap u) d)
      ⟨ho, SeqAt.items_eqAt (vs := its.toArray) (show ReadsAll s.heap its.toArray.toList ds as from rs) rd lay (SeqAt.canLay_of_shaped sd) (room_in_shaped sd hu), ?_⟩
    have e : its.toArray.toList.countP (fun u => PyData.eqv (SeqAt.readOf s.heap u) d) = ds.countP fun z => PyData.eqv z d := by
      rw [← hmap, List.countP_map]
      rfl
    exact ⟨.int (ds.countP fun z => PyData.eqv z d : Nat), H, I.tok _, ⟨s.toks, by rw [e]⟩, q⟩
def oCountD (xs ds : List D) : R D := match ds with
  | [d] => if okP d = true ∧ okP (.lst xs) = true then .ok (.int (xs.countP fun z => deq z d : Nat)) else .bad
  | _ => .bad
theorem dml_count (hu : X.A.units + 65 < cLine) : DMl X ad "list.count" oCountD := by
  refine ⟨_, mt_countD hu, fun a vs us xs ds H ex Q hs hz hA hB q => ?_⟩
  unfold oCountD at q
  split at q
  · rename_i d
    obtain ⟨v, rfl, a1⟩ := hB.one
    split at q
    · rename_i hh
      have h1 := okP_dp hh.1 a1
      have h2 := okP_dpU hh.2 (.lst hs hz hA)
      refine ⟨a, v, toP d, toPs xs, rfl, rfl, h2.1, h1.1, h2.2, h1.2, ?_⟩
      have e : (toPs xs).countP (fun z => PyData.eqv z (toP d)) = xs.countP fun z => deq z d := by
        rw [toPs_map, List.countP_map]
        rfl
      rw [e]
      exact post_fz q (Le.refl _ _) (.int _)
    · exact q.elim
  · exact q.elim
theorem no_countD : ∀ xs ds c, oCountD xs ds ≠ .exc c := by
  intro xs ds c z
  unfold oCountD at z
  split at z
  · split at z <;> cases z
  · cases z
def oIndexD (xs ds : List D) : R D := match ds with
  | [d] => if okP d = true ∧ okP (.lst xs) = true then (match xs.findIdx? (fun z => deq z d) with | some j => .ok (.int (j : Nat)) | none => .bad) else .bad
  | _ => .bad
theorem dml_index (hu : X.A.units + 65 < cLine) : DMl X ad "list.index" oIndexD := by
  refine ⟨_, mt_indexD hu, fun a vs us xs ds H ex Q hs hz hA hB q => ?_⟩
  unfold oIndexD at q
  split at q
  · rename_i d
    obtain ⟨v, rfl, a1⟩ := hB.one
    split at q
    · rename_i hh
      have h1 := okP_dp hh.1 a1
      have h2 := okP_dpU hh.2 (.lst hs hz hA)
      split at q
      · rename_i j hj
        obtain ⟨b1, b2, b3⟩ := List.findIdx?_eq_some_iff_getElem.mp hj
        have gt : ∀ m : Nat, (toPs xs)[m]? = xs[m]?.map toP := fun m => by rw [toPs_map, List.getElem?_map]
        refine ⟨a, v, toP d, toPs xs, j, toP xs[j], rfl, rfl, h2.1, h1.1, h2.2, h1.2, ?_, b2, fun m z' hm hz' => ?_, post_fz q (Le.refl _ _) (.int _)⟩
        · rw [gt, List.getElem?_eq_getElem b1]
          rfl
        · rw [gt, List.getElem?_eq_getElem (Nat.lt_trans hm b1)] at hz'
          cases hz'
          have := b3 m hm
          exact Bool.eq_false_iff.mpr this
      · exact q.elim
    · exact q.elim
  · exact q.elim
theorem no_indexD : ∀ xs ds c, oIndexD xs ds ≠ .exc c := by
  intro xs ds c z
  unfold oIndexD at z
  split at z
  · split at z
    · split at z <;> cases z
    · cases z
  · cases z
end
end DL
namespace DL
open PySem PySem.Spec PyProof.Rows L2
/-- isinstance's answer by the classes' order -/
theorem kit_sub {K : PySem.W.Frag} {y c : Addr} {b : Bool} (hd : PySem.W.hasDictIn K c = true) (ht : PySem.W.typeIn K (.ref c) = some (.type "type")) (hc : PySem.W.subIn K (.ref c) (.ref c) = some true) (h : PySem.W.subIn K (.ref y) (.ref c) = some b) : PySem.W.kitOne K (.ref y) (.ref c) = some b := by
  obtain ⟨cd, e, _⟩ := PySem.W.any_some hd
  unfold PySem.W.kitOne
  split
  · rename_i z
    cases Value.ref.inj (beq_iff_eq.mp z)
    rw [hc] at h
    exact h
  · show (if ((PySem.W.clsIn K c).isSome && PySem.W.typeIn K (.ref c) == some (.type "type")) = true then _ else none) = _
    rw [e, ht]
    exact h
theorem kit_ve {K : PySem.W.Frag} {y : Addr} (h : PySem.W.subIn K (.ref y) (.type "ValueError") = some true) : PySem.W.kitOne K (.ref y) (.type "ValueError") = some true := by
  unfold PySem.W.kitOne
  split
  · rfl
  · show (if PySem.W.kitMeta "ValueError" = true then _ else none) = _
    rw [if_pos (by decide +kernel)]
    exact h
end DL

set_option Elab.async false
set_option linter.all false
set_option maxRecDepth 100000
set_option maxHeartbeats 4000000
set_option autoImplicit false
/-! DL20: try with lists of one's own about; except X: alone; flat things at such slots. -/
namespace DL
open PySem PySem.Spec PyProof.Rows L2
/-- what is to be known of the refusals' classes -/
structure EK (K : PySem.W.Frag) (mg : Str → Option Value) (ad : Adr) (CS : Addr) : Prop where
  ec : ∀ e, ExcC K (ad e)
  kk : ∀ c e, PySem.W.kitOne K (.ref (ad e)) (.ref (ad c)) = some (decide (e = c))
  ve : ∀ e, PySem.W.kitOne K (.ref (ad e)) (.type "ValueError") = some true
  sg : mg "StairError" = some (.ref CS)
  sx : ∀ e, PySem.W.exmOne K (.ref (ad e)) (.ref CS) = some true
  xx : ∀ c e, PySem.W.exmOne K (.ref (ad e)) (.ref (ad c)) = some (decide (e = c))
  vg : mg "ValueError" = none
section
variable {X : Cx} {ad : Adr} {w : Wi} {rs : Sh} {G : Shs} {pos : Pos}
def dFlat (f : Env → R D) : Env → R D := fun ρ => (f ρ).bind fun d => if flat d = true then .ok d else .bad
/-- a flat thing where a list of one's own may stand -/
theorem de_flat {e : Expr} {f : Env → R D} {s : Sh} (h : DE X ad w G e .fz f) : DE X ad w G e (.own s) (dFlat f) := by
  obtain ⟨t, p, k⟩ := h
  refine ⟨t, p, fun ex0 ρ σ H ex Q fr q => k ex0 ρ σ H ex Q fr ?_⟩
  unfold dFlat at q
  rw [sat_bind] at q
  refine q.imp (fun d q v H' ex' fp l r _ _ => ?_) fun _ z => z
  split at q
  · rename_i hf
    exact q v H' ex' [] l (.flt hf (rep_fz r)) List.nodup_nil fun _ z => by cases z
  · exact q.elim
/-! except c: alone -/
def noX : Out → Out
  | .xc _ _ => .bad
  | o => o
def oTryX (c : Ex) (g h : Env → Out) : Env → Out := fun ρ => match g ρ with
  | .xc e ρ' => if e = c then noX (h ρ') else .xc e ρ'
  | o => o
theorem takes_suite {a : Addr} {pn : List (Addr × Obj)} {w' : Wi} (h : ∀ c σ H, ¬ w' c σ H) : Tk (X.suite a pn) ad w' := ⟨fun _ _ _ _ => False, fun u s' ⟨_, _, _, _, _, _, _, _, _, _, _, _, _, _, _, _, z⟩ => z.elim, fun c σ H z => h c σ H z⟩
theorem sd_tryX (c : Ex) {x : Str} {bd su : List Stmt} {b₀ : Stmt} {g h : Env → Out} {np pos' : Pos} (hx : X.mg x = some (.ref (ad c))) (hxx : ∀ e, PySem.W.exmOne X.K (.ref (ad e)) (.ref (ad c)) = some (decide (e = c))) (tk : Tk X ad w)
    (body : ∀ (w' : Wi) (pn : List (Addr × Obj)) (xe : Value → Shared → Prop), Tk (X.tr pn xe) ad w' → PassesOwn (model X.prog X.w) X.A X.env xe → SDs (X.tr pn xe) ad w' rs [] [] bd g)
    (suite : ∀ (a : Addr) (pn : List (Addr × Obj)) (w' : Wi), Tk (X.suite a pn) ad w' → SDs (X.suite a pn) ad w' rs [] [] (b₀ :: su) h)
    (hst : X.stack = X.env :: X.outer := by rfl) (hfl : X.env.frame = some X.env.locals := by rfl) (hg : Gl X x := by rfl) (hdb : (x == ("__debug__" : Str)) = false := by decide) :
    SD X ad w rs [] (.Try bd [.ExceptHandler (some (.Name x np)) none (b₀ :: su) pos'] [] [] pos) (oTryX c g h) := by
  obtain ⟨Wo, hWo, lk⟩ := tk
  have hsu := fun (a : Addr) (pn : List (Addr × Obj)) => suite a pn (fun _ _ _ => False) (takes_suite fun _ _ _ z => z)
  -- what the suite is to do
  let ts : Addr → Value → Option Addr → TS := fun a _ _ D σ H => ∀ pn, Classical.choose (hsu a pn) D σ H
  have bk : ∀ (W : WX) (pn : List (Addr × Obj)) (xe : Value → Shared → Prop), Takes (X.tr pn xe) W → Tk (X.tr pn xe) ad (fun c σ H => W (.ref (ad c)) none σ H) := fun W pn xe z => ⟨W, z, fun c σ H y => y⟩
  refine ⟨_, ps_try_only (ts := ts) (tb := fun W D σ H => ∀ pn xe (z : Takes (X.tr pn xe) W) (po : PassesOwn (model X.prog X.w) X.A X.env xe), Classical.choose (body _ pn xe (bk W pn xe z) po) D σ H) hst hfl ⟨hg, hdb, .inl hx⟩ hWo
    (fun W pn xe z po => ⟨fun pins s σ H D I q => (Classical.choose_spec (body _ pn xe (bk W pn xe z) po)).1.run pins s σ H D I (q pn xe z po)⟩)
    (fun a oe cls d pn _ _ => ⟨fun pins s σ H D I q => (Classical.choose_spec (hsu a ((a, oe) :: pn))).1.run pins s σ H D I (q _)⟩), fun H0 ex0 ρ σ H ex De l f q pn xe z po => ?_⟩
  refine (Classical.choose_spec (body _ pn xe (bk _ pn xe z) po)).2 H0 ex0 ρ σ H ex De l f ?_
  unfold oTryX at q
  cases e : g ρ with
  | nx ρ1 => rw [e] at q; exact q
  | rt d => rw [e] at q; exact q
  | bad => rw [e] at q; exact q
  | xc y ρ1 =>
    rw [e] at q
    intro σ' H' ex' l' m' fz
    refine ⟨decide (y = c), hxx y, fun hy a na pn2 => ?_, fun hy => ?_⟩
    · have hy := of_decide_eq_true hy
      subst hy
      dsimp only at q
      rw [if_pos rfl] at q
      refine (Classical.choose_spec (hsu a pn2)).2 H0 ex0 ρ1 σ' H' ex' De l' fz.fra ?_
      cases e2 : h ρ1 with
      | nx ρ2 => rw [e2] at q; exact fun σ2 H2 ex2 l2 m2 f2 => q σ2 H2 ex2 l2 (m'.trans m2) f2
      | rt d => rw [e2] at q; exact fun v H2 ex2 fp l2 m2 r => q v H2 ex2 fp l2 (m'.trans m2) r
      | bad => rw [e2] at q; exact q
      | xc c2 ρ2 => rw [e2] at q; exact (show False from q).elim
    · have hy := of_decide_eq_false hy
      dsimp only at q
      rw [if_neg hy] at q
      exact lk y σ' H' (q σ' H' ex' l' m' fz)
end
end DL

set_option Elab.async false
set_option linter.all false
set_option maxRecDepth 100000
set_option maxHeartbeats 4000000
set_option autoImplicit false
/-! DL21: lists of one's own within a tuple at a slot; tuples and argument lists of shapes. -/
namespace DL
open PySem PySem.Spec PyProof.Rows L2
section
variable {K : PySem.W.Frag} {ad : Adr} {G : Shs} {ex0 ex : Own} {ρ : Env} {σ : L2.St} {H : Hp}
/-- the k-th thing of a tuple, a list of one's own, and how it is written -/
theorem Reps.kth : ∀ {ss : List Sh} {ds : List D} {vs : List V} {fp : List Addr} {k : Nat} {xs : List D}, Reps K ad H ex ss ds vs fp → fp.Nodup → ss[k]? = some (.own .fz) → ds[k]? = some (.lst xs) →
    ∃ a us, vs[k]? = some (.ref a) ∧ a ∈ fp ∧ ex a ∧ H a = some (.lst us) ∧ us.length ≤ sizeLine ∧ Ats K ad (cut H ex) xs us ∧
      ∀ xs' us', us'.length ≤ sizeLine → Ats K ad (cut H ex) xs' us' → Reps K ad (upd H a (.lst us')) ex ss (ds.set k (.lst xs')) vs fp
  | _, _, _, _, k, _, .nil, _, h, _ => by simp at h
  | _, _, _, _, 0, xs, .cons (f := f) (fs := fs) r rs, nd, h, h' => by
    simp at h h'
    subst h h'
    cases r with
    | flt z _ => cases z
    | @own _ _ a us _ hex hH hz hs =>
      obtain ⟨e, hA⟩ := hs.fzs
      subst e
      refine ⟨a, us, rfl, by simp, hex, hH, hz, hA, fun xs' us' hz' hA' => ?_⟩
      have na : a ∉ fs := by
        have := (List.nodup_append.mp nd).2.2
        intro z
        exact this a (by simp) a z rfl
      refine .cons (.own hex upd_same hz' (hA'.mono (own_same hex)).reps) (rs.keep (own_same hex) fun b z => ?_)
      exact ⟨(rs.in b z).1, upd_ne fun q => na (q ▸ z)⟩
  | _, _, _, _, k + 1, xs, .cons (f := f) (fs := fs) r rs, nd, h, h' => by
    have nd' := List.nodup_append.mp nd
    obtain ⟨a, us, e1, e2, hex, hH, hz, hA, wr⟩ := Reps.kth (k := k) rs nd'.2.1 (by simpa using h) (by simpa using h')
    refine ⟨a, us, by simpa using e1, List.mem_append_right _ e2, hex, hH, hz, hA, fun xs' us' hz' hA' => ?_⟩
    rw [List.set_cons_succ]
    refine .cons (r.keep (own_same hex) fun b z => ?_) (wr xs' us' hz' hA')
    exact ⟨(r.in b z).1, upd_ne fun q => nd'.2.2 b z a e2 q⟩
theorem Fra.ownT (f : Fra K ad G ex0 ρ σ H ex) {i k : Nat} {ss : List Sh} {ds xs : List D} (e : ρ[i]? = some (some (.tup ds))) (g : sh G i = .tup ss) (hk : ss[k]? = some (.own .fz)) (hd : ds[k]? = some (.lst xs)) :
    ∃ p vs a us, σ[i]? = some (some (.ref p)) ∧ SqT K (cut H ex) p vs ∧ vs[k]? = some (.ref a) ∧ vs.length = ds.length ∧ ex a ∧ ¬ ex0 a ∧ H a = some (.lst us) ∧ us.length ≤ sizeLine ∧ Ats K ad (cut H ex) xs us ∧
      ∀ H2 ex2, Le H ex H2 ex2 → ∀ xs' us', us'.length ≤ sizeLine → Ats K ad (cut H2 ex2) xs' us' → Fra K ad G ex0 (ρ.set i (some (.tup (ds.set k (.lst xs'))))) σ (upd H2 a (.lst us')) ex2 := by
  obtain ⟨fps, h1, h2, h3, h4⟩ := f.slots
  obtain ⟨v, e1, r⟩ := h1 i _ e
  rw [g] at r
  generalize hfp : fps i = fp at r
  have hi : i < ρ.length := (List.getElem?_eq_some_iff.mp e).1
  cases r with
  | @tup _ _ p vs _ hT hzT hs =>
  have hlen : ∀ {ss : List Sh} {ds : List D} {vs : List V} {fp : List Addr}, Reps K ad H ex ss ds vs fp → vs.length = ds.length := by
    intro ss ds vs fp h
    have := (Reps.at (G := H) cut_same h fun _ _ => rfl).length
    omega
  obtain ⟨a, us, q1, q2, hex, hH, hz, hA, _⟩ := hs.kth (hfp ▸ h2 i) hk hd
  have ha : a ∈ fps i := by rw [hfp]; exact q2
  refine ⟨p, vs, a, us, e1, hT, q1, hlen hs, hex, (h4 i a ha).2, hH, hz, hA, fun H2 ex2 l xs' us' hz' hA' => ?_⟩
  obtain ⟨a', us2, q1', _, hex', _, _, _, wr⟩ := (hs.mono l).kth (hfp ▸ h2 i) hk hd
  rw [q1] at q1'
  cases q1'
  have fm := f.mono l
  refine ⟨by rw [List.length_set, f.len], fun b z => ?_, fps, fun j d' ej => ?_, h2, h3, fun j b z => ⟨l.keep b (h4 j b z).1, (h4 j b z).2⟩⟩
  · by_cases hb : b = a
    · subst hb
      exact ⟨_, upd_same⟩
    · rw [upd_ne hb]
      exact fm.exok b z
  · by_cases hj : j = i
    · subst hj
      rw [List.getElem?_set_self hi] at ej
      cases ej
      refine ⟨_, e1, ?_⟩
      rw [g, hfp]
      exact .tup (seqT (own_same hex') (seqT l.cuts hT)) hzT (wr xs' us' hz' hA')
    · rw [List.getElem?_set_ne (Ne.symm hj)] at ej
      obtain ⟨v', e2, r'⟩ := h1 j d' ej
      refine ⟨v', e2, (r'.mono l).keep (own_same hex') fun b z => ⟨l.keep b (h4 j b z).1, upd_ne fun q => ?_⟩⟩
      subst q
      exact h3 j i b hj z ha
end
section
variable {X : Cx} {ad : Adr} {w : Wi} {rs : Sh} {G G' : Shs} {pos : Pos}
/-- x[k].m(..), x a tuple at slot i -/
def oMutK (i k : Nat) (o : List D → List D → R (List D)) (f : Env → R (List D)) : Env → Out := fun ρ => match dV i ρ with
  | .ok (.tup ds) => (match ds[k]? with
    | some (.lst xs) => (f ρ).then ρ fun es => match o xs es with
      | .ok ys => .nx (ρ.set i (some (.tup (ds.set k (.lst ys)))))
      | _ => .bad
    | _ => .bad)
  | _ => .bad
theorem sd_mutK (i k : Nat) {ss : List Sh} {kk : Int} {x : Str} {p1 p2 p3 apos cpos : Pos} {jj} {name : Str} {id : String} {e : Expr} {es : List Expr} {f : Env → R (List D)} {o : List D → List D → R (List D)} (hm : DMt X ad id o) (slot : Slot "list" name id) (hty : typeOf (.builtin id) = pure (.type "method_descriptor")) (ha : DA X ad w G (e :: es) f)
    (hkk : kk = k := by rfl) (hN : X.N[i]? = some x := by rfl) (hg : sh G i = .tup ss := by rfl) (hk : ss[k]? = some (.own .fz) := by rfl) (hv : Vis X.env.scope x := by first | exact Or.inl rfl | exact Or.inr (Or.inl rfl) | exact Or.inr (Or.inr rfl)) (hd : (x == ("__debug__" : Str)) = false := by decide) (hcd : (x == ("__classdict__" : Str)) = false := by decide)
    (hbase : attributeBase (.Subscript (.Name x p1) (.Constant (.int kk) jj p2) p3) name X.env (eval (.Subscript (.Name x p1) (.Constant (.int kk) jj p2) p3) X.env) = eval (.Subscript (.Name x p1) (.Constant (.int kk) jj p2) p3) X.env := by rfl)
    (hfew : ((backTo cpos (starEach (e :: es) X.env)).all (fun x => !x.1) && (backToKw cpos (keywordEach [] X.env)).all (fun x => x.1.isSome)
      && decide ((e :: es).length + ([] : List Keyword).length + (if ([] : List Keyword).isEmpty then 0 else 1) < 30)) = true := by rfl)
    (hline : (apos.endLine == cpos.line) = true := by rfl) (hs : starEach (e :: es) X.env = (false, eval e X.env) :: starEach es X.env := by rfl) (hplain : (backTo cpos (starEach es X.env)).any (·.1) = false := by rfl)
    (hsw : swapsWith (.Call (.Attribute (.Subscript (.Name x p1) (.Constant (.int kk) jj p2) p3) name apos) (e :: es) [] cpos) none pos.line X.env = pure false := by rfl) :
    SD X ad w rs G (.Expr (.Call (.Attribute (.Subscript (.Name x p1) (.Constant (.int kk) jj p2) p3) name apos) (e :: es) [] cpos) pos) (oMutK i k o f) := by
  obtain ⟨r, mr, kr⟩ := hm
  obtain ⟨t, pa, ka⟩ := ha
  refine ⟨_, ps_expr (pe_bm PySem.F.plainAttrs_list slot hty mr (pe_ix ix_seq (pe_var hN hv hd hcd) pe_int (fun _ _ => rfl)) pa hbase hfew hline hs hplain) hsw, fun H0 ex0 ρ σ H ex De l f q => ?_⟩
  unfold oMutK at q
  cases e1 : dV i ρ with
  | exc c => rw [e1] at q; exact q.elim
  | bad => rw [e1] at q; exact q.elim
  | ok d =>
  rw [e1] at q
  have er : ρ[i]? = some (some d) := by
    unfold dV at e1
    split at e1
    · rename_i d' e
      cases e1
      exact e
    · cases e1
  cases d <;> first | exact q.elim | skip
  rename_i ds
  dsimp only at q
  split at q
  · rename_i xs ek
    obtain ⟨p, vs, a, us, eσ, hT, ev, hlen, hex, hn, hH, hz, hA, wr⟩ := f.ownT er hg hk ek
    have hkl : k < vs.length := (List.getElem?_eq_some_iff.mp ev).1
    refine ⟨_, eσ, .inr (.inl ⟨p, vs, kk, .ref a, rfl, rfl, seqT cut_same hT, ?_, .inl ⟨rfl, _, SqL.of hH⟩, ?_⟩)⟩
    · rw [hkk]
      exact atI_nat ev
    · refine ka ex0 ρ σ H ex _ f (sat_then l f q fun es q => ?_)
      intro ws H2 ex2 l2 hA2
      refine kr a us ws xs es H2 ex2 _ (l2.same a _ hH) (l2.keep a hex) hz (hA.mono l2.cuts) hA2 ?_
      cases ho : o xs es with
      | exc c => rw [ho] at q; exact q
      | bad => rw [ho] at q; exact q
      | ok ys =>
        rw [ho] at q
        intro vs2 v hz2 hA3
        exact q σ _ ex2 (own_le (l.trans l2) (l2.keep a hex) hn) (l2.cuts.trans (own_mo (l2.keep a hex))) (wr H2 ex2 l2 ys vs2 hz2 hA3)
  · exact q.elim
/-- the k-th list of the tuple at slot i -/
def kIx (i k : Nat) : Env → R (List D) := fun ρ => match dV i ρ with
  | .ok (.tup ds) => (match ds[k]? with
    | some (.lst xs) => .ok xs
    | _ => .bad)
  | _ => .bad
theorem dk_ixT (i k : Nat) {ss : List Sh} {kk : Int} {x : Str} {p1 p2 : Pos} {jj} (hkk : kk = k := by rfl) (hN : X.N[i]? = some x := by rfl) (hg : sh G i = .tup ss := by rfl) (hk : ss[k]? = some (.own .fz) := by rfl) (hv : Vis X.env.scope x := by first | exact Or.inl rfl | exact Or.inr (Or.inl rfl) | exact Or.inr (Or.inr rfl)) (hd : (x == ("__debug__" : Str)) = false := by decide)
    (hcd : (x == ("__classdict__" : Str)) = false := by decide) : DK X ad w G (.Subscript (.Name x p1) (.Constant (.int kk) jj p2) pos) (kIx i k) := by
  refine ⟨_, pe_ix ix_seq (pe_var hN hv hd hcd) pe_int (fun _ _ => rfl), fun ex0 ρ σ H ex Q f q => ?_⟩
  unfold kIx at q
  cases e1 : dV i ρ with
  | exc c => rw [e1] at q; exact q.elim
  | bad => rw [e1] at q; exact q.elim
  | ok d =>
  rw [e1] at q
  have er : ρ[i]? = some (some d) := by
    unfold dV at e1
    split at e1
    · rename_i d' e
      cases e1
      exact e
    · cases e1
  cases d <;> first | exact q.elim | skip
  rename_i ds
  dsimp only at q
  split at q
  · rename_i xs ek
    obtain ⟨p, vs, a, us, eσ, hT, ev, hlen, hex, hn, hH, hz, hA, _⟩ := f.ownT er hg hk ek
    refine ⟨_, eσ, .inr (.inl ⟨p, vs, kk, .ref a, rfl, rfl, seqT cut_same hT, ?_, q _ H ex (Le.refl _ _) ⟨_, _, rfl, SqL.of hH, hz, hA⟩⟩)⟩
    rw [hkk]
    exact atI_nat ev
  · exact q.elim
/-! ### argument lists of shapes -/
def DAS (X : Cx) (ad : Adr) (w : Wi) (G : Shs) (es : List Expr) (ss : List Sh) (f : Env → R (List D)) : Prop :=
  ∃ t, PA X es t ∧ ∀ ex0 ρ σ H ex Q, Fra X.K ad G ex0 ρ σ H ex → Sat (f ρ) (fun ds => ∀ vs H' ex' fp, Le H ex H' ex' → Reps X.K ad H' ex' ss ds vs fp → fp.Nodup → (∀ a ∈ fp, ¬ ex a) → Q vs H') (Exc w σ H ex) → t σ H Q
theorem das_nil : DAS X ad w G [] [] dNil := ⟨_, pa_nil, fun _ _ _ H ex _ _ q => q [] H ex [] (Le.refl _ _) .nil List.nodup_nil fun _ z => by cases z⟩
theorem das_cons {e : Expr} {es : List Expr} {s : Sh} {ss : List Sh} {f : Env → R D} {g : Env → R (List D)} (h : DE X ad w G e s f) (h' : DAS X ad w G es ss g) (hs : starEach (e :: es) X.env = (false, eval e X.env) :: starEach es X.env := by rfl) : DAS X ad w G (e :: es) (s :: ss) (dCons f g) := by
  obtain ⟨t, p, k⟩ := h
  obtain ⟨t', p', k'⟩ := h'
  refine ⟨_, pa_cons p p' hs, fun ex0 ρ σ H ex Q fr q => ?_⟩
  refine k ex0 ρ σ H ex _ fr ?_
  unfold dCons at q
  rw [sat_bind] at q
  refine q.imp (fun d q v H1 ex1 fp l r1 nd nw => ?_) fun _ z => z
  refine k' ex0 ρ σ H1 ex1 _ (fr.mono l) ?_
  rw [sat_bind] at q
  refine q.imp (fun ds q vs H2 ex2 fp2 l2 r2 nd2 nw2 => ?_) fun _ z => z.mono l
  refine q (v :: vs) H2 ex2 (fp ++ fp2) (l.trans l2) (.cons (r1.mono l2) r2) (List.nodup_append.mpr ⟨nd, nd2, fun a ha b hb hab => ?_⟩) fun a ha => ?_
  · subst hab
    exact nw2 a hb (r1.in a ha).1
  · rcases List.mem_append.mp ha with ha | ha
    · exact nw a ha
    · exact fun z => nw2 a ha (l.keep a z)
/-- a tuple of shapes -/
theorem de_tupS {es : List Expr} {x1} {ss : List Sh} {f : Env → R (List D)} {n : Nat} (h : DAS X ad w G es ss f) (hn : ∀ ρ ds, f ρ = .ok ds → ds.length = n) (hz : n ≤ 16777216 := by decide) : DE X ad w G (.Tuple es x1 pos) (.tup ss) (dTup f) := by
  obtain ⟨t, p, k⟩ := h
  refine ⟨_, pe_tup p, fun ex0 ρ σ H ex Q fr q => ?_⟩
  refine k ex0 ρ σ H ex _ fr ?_
  unfold dTup at q
  rw [sat_bind] at q
  cases e : f ρ with
  | exc c => rw [e] at q; exact q
  | bad => rw [e] at q; exact q
  | ok ds =>
    rw [e] at q
    intro vs H1 ex1 fp l r nd nw
    have hlen := (Reps.at (G := H1) cut_same r fun _ _ => rfl).length
    have hl : vs.length ≤ sizeLine := by
      rw [← hlen, hn ρ ds e]
      exact sq16 hz
    have q : Post X.K ad H ex (.tup ss) Q (.tup ds) := q
    refine ⟨hl, fun pp hp => ?_⟩
    have ll : Le H1 ex1 (upd H1 pp (.tup vs)) ex1 := Le.lay hp
    have hnx : ¬ ex1 pp := fun z => by
      obtain ⟨o, h⟩ := (fr.mono l).exok pp z
      rw [hp] at h
      cases h
    exact q (.ref pp) _ ex1 fp (l.trans ll) (.tup (SqT.of (cut_of hnx upd_same)) hl (r.mono ll)) nd nw
/-- a, b, c = x, y, z, the third a list of one's own -/
theorem sd_par3o {x y z : Str} {a b c : Expr} {f1 f2 f3 : Env → R D} {px py pz pt kt k2 pt2} (i j l : Nat) {s : Sh} (h1 : DE X ad w G a .fz f1) (h2 : DE X ad w G b .fz f2) (h3 : DE X ad w G c s f3) (nd : X.N.Nodup) (hc : X.calm = true := by rfl) (hi : X.N[i]? = some x := by rfl) (hj : X.N[j]? = some y := by rfl) (hl : X.N[l]? = some z := by rfl) (hij : i ≠ j := by decide) (hil : i ≠ l := by decide) (hjl : j ≠ l := by decide)
    (gi : sh G i = .fz := by rfl) (gj : sh G j = .fz := by rfl) (gl : sh G l = s := by rfl)
    (hx : X.env.scope.names.lookup x = some .local := by rfl) (hy : X.env.scope.names.lookup y = some .local := by rfl) (hz : X.env.scope.names.lookup z = some .local := by rfl)
    (e1 : starEach [a, b, c] X.env = (false, eval a X.env) :: starEach [b, c] X.env := by rfl) (e2 : starEach [b, c] X.env = (false, eval b X.env) :: starEach [c] X.env := by rfl) (e3 : starEach [c] X.env = (false, eval c X.env) :: starEach [] X.env := by rfl)
    (hw : swappedStores [.Tuple [.Name x px, .Name y py, .Name z pz] kt pt] (.Tuple [a, b, c] k2 pt2) X.env = pure (some [x, y, z]) := by rfl)
    (hs : swapsWithSole [.Tuple [.Name x px, .Name y py, .Name z pz] kt pt] (.Tuple [a, b, c] k2 pt2) pos.line X.env = pure false := by rfl) :
    SD X ad w rs G (.Assign [.Tuple [.Name x px, .Name y py, .Name z pz] kt pt] (.Tuple [a, b, c] k2 pt2) pos) (oAsg (tT (tCons' (tN i) (tCons' (tN j) (tCons' (tN l) tNil')))) (dTup (dCons f1 (dCons f2 (dCons f3 dNil))))) := by
  obtain ⟨t, p, k⟩ := das_cons h1 (das_cons h2 (das_cons h3 das_nil e3) e2) e1
  refine ⟨_, ps_par3 hc nd hi hj hl hij hil hjl hx hy hz p hw hs, fun H0 ex0 ρ σ H ex De ll fr q => ?_⟩
  refine k ex0 ρ σ H ex _ fr ?_
  unfold oAsg dTup at q
  generalize hf : dCons f1 (dCons f2 (dCons f3 dNil)) = f at q ⊢
  cases e : f ρ with
  | bad => rw [e] at q; exact q.elim
  | exc c => rw [e] at q; exact fun H' ex' l' => q σ H' ex' (ll.trans l') l'.cuts (fr.mono l').frz
  | ok ds =>
    rw [e] at q
    intro vs H1 ex1 fp l1 r ndp nw
    match ds, q, r with
    | [d, d', d2], q, .cons (v := v) (f := g1) r1 (.cons (v := v') (f := g2) r2 (.cons (v := v2) (f := g3) r3 .nil)) =>
      have a1 := rep_fz r1
      have a2 := rep_fz r2
      cases r1
      cases r2
      refine ⟨v, v', v2, rfl, ?_⟩
      have g3e : ([] ++ ([] ++ (g3 ++ []))) = g3 := by simp
      rw [g3e] at ndp nw
      refine q _ H1 ex1 (ll.trans l1) l1.cuts ?_
      -- the third one first, then what is anybody's
      have F3 : Fra X.K ad G ex0 (ρ.set l (some d2)) (σ.set l (some v2)) H1 ex1 := fr.setN l1 (by rw [gl]; exact r3) ndp nw fun a za z0 => nw a za (ll.keep a z0)
      have F2 := (F3.setF gi a1).setF gj a2
      have er : ((ρ.set l (some d2)).set i (some d)).set j (some d') = ((ρ.set i (some d)).set j (some d')).set l (some d2) := by
        rw [List.set_comm _ _ (Ne.symm hil), List.set_comm _ _ (Ne.symm hjl)]
      have es : ((σ.set l (some v2)).set i (some v)).set j (some v') = ((σ.set i (some v)).set j (some v')).set l (some v2) := by
        rw [List.set_comm _ _ (Ne.symm hil), List.set_comm _ _ (Ne.symm hjl)]
      rw [er, es] at F2
      exact F2
    | [], q, _ => exact q.elim
    | [_], q, _ => exact q.elim
    | [_, _], q, _ => exact q.elim
    | _ :: _ :: _ :: _ :: _, q, _ => exact q.elim
/-- .. by the tuple itself, where a name is a cell -/
theorem sd_asg3o {x y z : Str} {a b c : Expr} {f1 f2 f3 : Env → R D} {px py pz pt kt k2 pt2} (i j l : Nat) {s : Sh} (h1 : DE X ad w G a .fz f1) (h2 : DE X ad w G b .fz f2) (h3 : DE X ad w G c s f3) (nd : X.N.Nodup) (hc : X.calm = true := by rfl) (hi : X.N[i]? = some x := by rfl) (hj : X.N[j]? = some y := by rfl) (hl : X.N[l]? = some z := by rfl) (hij : i ≠ j := by decide) (hil : i ≠ l := by decide) (hjl : j ≠ l := by decide)
    (gi : sh G i = .fz := by rfl) (gj : sh G j = .fz := by rfl) (gl : sh G l = s := by rfl)
    (hx : Loc X.env.scope x := by first | exact Or.inl rfl | exact Or.inr rfl) (hy : Loc X.env.scope y := by first | exact Or.inl rfl | exact Or.inr rfl) (hz : Loc X.env.scope z := by first | exact Or.inl rfl | exact Or.inr rfl)
    (fx : X.fn x = true ∨ X.env.scope.names.lookup x = some .local := by first | exact .inl rfl | exact .inr rfl) (fy : X.fn y = true ∨ X.env.scope.names.lookup y = some .local := by first | exact .inl rfl | exact .inr rfl) (fz : X.fn z = true ∨ X.env.scope.names.lookup z = some .local := by first | exact .inl rfl | exact .inr rfl)
    (e1 : starEach [a, b, c] X.env = (false, eval a X.env) :: starEach [b, c] X.env := by rfl) (e2 : starEach [b, c] X.env = (false, eval b X.env) :: starEach [c] X.env := by rfl) (e3 : starEach [c] X.env = (false, eval c X.env) :: starEach [] X.env := by rfl)
    (t1 : (assignEach [.Name x px, .Name y py, .Name z pz] X.env).map (·.2) = assign (.Name x px) X.env :: (assignEach [.Name y py, .Name z pz] X.env).map (·.2) := by rfl) (t2 : (assignEach [.Name y py, .Name z pz] X.env).map (·.2) = assign (.Name y py) X.env :: (assignEach [.Name z pz] X.env).map (·.2) := by rfl) (t3 : (assignEach [.Name z pz] X.env).map (·.2) = assign (.Name z pz) X.env :: (assignEach [] X.env).map (·.2) := by rfl)
    (hn : (assignEach [.Name x px, .Name y py, .Name z pz] X.env).length = 3 := by rfl) (hst : (assignEach [.Name x px, .Name y py, .Name z pz] X.env).findIdx? (·.1) = none := by rfl)
    (hs : swapsWithSole [.Tuple [.Name x px, .Name y py, .Name z pz] kt pt] (.Tuple [a, b, c] k2 pt2) pos.line X.env = pure false := by rfl) (hw : swappedStores [.Tuple [.Name x px, .Name y py, .Name z pz] kt pt] (.Tuple [a, b, c] k2 pt2) X.env = pure none := by rfl)
    (ha : (assignEach [.Tuple [.Name x px, .Name y py, .Name z pz] kt pt] X.env).map (·.2) = [assign (.Tuple [.Name x px, .Name y py, .Name z pz] kt pt) X.env] := by rfl) :
    SD X ad w rs G (.Assign [.Tuple [.Name x px, .Name y py, .Name z pz] kt pt] (.Tuple [a, b, c] k2 pt2) pos) (oAsg (tT (tCons' (tN i) (tCons' (tN j) (tCons' (tN l) tNil')))) (dTup (dCons f1 (dCons f2 (dCons f3 dNil))))) := by
  obtain ⟨t, p, k⟩ := de_tupS (n := 3) (x1 := k2) (pos := pt2) (das_cons h1 (das_cons h2 (das_cons h3 das_nil e3) e2) e1) (cntS (cntS (cntS cnt0)))
  refine ⟨_, ps_asg p (pg_tup hc (pgs_cons (pg_name nd hi hx fx) (pgs_cons (pg_name nd hj hy fy) (pgs_cons (pg_name nd hl hz fz) pgs_nil t3) t2) t1) hn hst) hs hw ha, fun H0 ex0 ρ σ H ex De ll fr q => ?_⟩
  refine k ex0 ρ σ H ex _ fr (sat_then ll fr q fun d q => ?_)
  intro v H1 ex1 fp l1 r ndp nw
  cases r with
  | @tup _ ds a' vs _ hT _ hs' =>
  obtain ⟨d, d', d2, e⟩ : ∃ d d' d2, ds = [d, d', d2] := by
    have q : Ok X.K ad w rs G G H0 ex0 H ex De (outOf (tCons' (tN i) (tCons' (tN j) (tCons' (tN l) tNil')) ds ρ)) := q
    clear hs' k p
    rcases ds with _ | ⟨d, _ | ⟨d', _ | ⟨d2, _ | ⟨d3, ds⟩⟩⟩⟩
    · exact q.elim
    · exact q.elim
    · exact q.elim
    · exact ⟨d, d', d2, rfl⟩
    · exact q.elim
  subst e
  cases hs' with
  | @cons _ _ _ _ v _ g1 _ r1 hs' =>
  cases hs' with
  | @cons _ _ _ _ v' _ g2 _ r2 hs' =>
  cases hs' with
  | @cons _ _ _ _ v2 _ g3 _ r3 hs' =>
  cases hs'
  have a1 := rep_fz r1
  have a2 := rep_fz r2
  cases r1
  cases r2
  have g3e : ([] ++ ([] ++ (g3 ++ []))) = g3 := by simp
  rw [g3e] at ndp nw
  refine ⟨a', _, rfl, seqT cut_same hT, rfl, v, _, rfl, v', _, rfl, v2, _, rfl, rfl, ?_⟩
  refine q _ H1 ex1 (ll.trans l1) l1.cuts ?_
  have F3 : Fra X.K ad G ex0 (ρ.set l (some d2)) (σ.set l (some v2)) H1 ex1 := fr.setN l1 (by rw [gl]; exact r3) ndp nw fun a za z0 => nw a za (ll.keep a z0)
  have F2 := (F3.setF gi a1).setF gj a2
  have er : ((ρ.set l (some d2)).set i (some d)).set j (some d') = ((ρ.set i (some d)).set j (some d')).set l (some d2) := by
    rw [List.set_comm _ _ (Ne.symm hil), List.set_comm _ _ (Ne.symm hjl)]
  have es : ((σ.set l (some v2)).set i (some v)).set j (some v') = ((σ.set i (some v)).set j (some v')).set l (some v2) := by
    rw [List.set_comm _ _ (Ne.symm hil), List.set_comm _ _ (Ne.symm hjl)]
  rw [er, es] at F2
  exact F2
end
end DL

set_option Elab.async false
set_option linter.all false
set_option maxRecDepth 100000
set_option maxHeartbeats 4000000
set_option autoImplicit false
/-! DL22: chains as tests; the module's numbers. -/
namespace DL
open PySem PySem.Spec PyProof.Rows L2
def ConI (mg : Str → Option Value) (x : Str) (n : Int) : Prop := ∃ t, mg x = some (.int n t)
section
variable {X : Cx} {ad : Adr} {w : Wi} {rs : Sh} {G G' : Shs} {pos : Pos}
theorem con_i {x : Str} {n : Int} (h : ConI X.mg x n) : ∃ u v, X.mg x = some u ∧ RelV v u ∧ ∀ H, At X.K ad H (.int n) v := by
  obtain ⟨t, h⟩ := h
  exact ⟨_, .int n, h, ⟨t, rfl⟩, fun _ => .int n⟩
theorem dt_chain {op op' : CmpOp} {a b c : Expr} {f g h : Env → R D} {o o' : D → D → R D} (ho : DOp X ad (compareOp op) .fz o) (ho' : DOp X ad (compareOp op') .fz o') (ha : DE X ad w G a .fz f) (hb : DE X ad w G b .fz g) (hc : DE X ad w G c .fz h) (no : ∀ d e c, o d e ≠ .exc c) (no' : ∀ d e c, o' d e ≠ .exc c)
    (hm : lastMarks [op, op'] [b, c] = false := by with_unfolding_all rfl) : DT X ad w G (.Compare a [op, op'] [b, c] pos) (dB (dChain o o' f g h)) := by
  obtain ⟨r, hr, kr⟩ := ho
  obtain ⟨r', hr', kr'⟩ := ho'
  obtain ⟨ta, pa, ka⟩ := ha
  obtain ⟨tb, pb, kb⟩ := hb
  obtain ⟨tc, pc, kc⟩ := hc
  refine ⟨_, pt_chain hr hr' pa pb pc hm, fun ex0 ρ σ H ex Q0 fr q0 => ?_⟩
  have q : Sat (dChain o o' f g h ρ) (Post X.K ad H ex .fz fun x H' => ∃ k, x = .bl k ∧ Q0 k H') (Exc w σ H ex) := by
    unfold dB at q0
    rw [sat_bind] at q0
    exact q0.imp (fun d z => post_b z) fun _ z => z
  show tChain r r' ta tb tc σ H fun x H' => ∃ k, x = .bl k ∧ Q0 k H'
  revert q
  generalize (fun (x : V) H' => ∃ k, x = .bl k ∧ Q0 k H') = Q
  intro q
  refine ka ex0 ρ σ H ex _ fr ?_
  unfold dChain at q
  rw [sat_bind] at q
  refine q.imp (fun d q v H1 ex1 fp l r1 _ _ => ?_) fun _ z => z
  have a1 := rep_fz r1
  refine kb ex0 ρ σ H1 ex1 _ (fr.mono l) ?_
  rw [sat_bind] at q
  refine q.imp (fun e q u H2 ex2 fp l2 r2 _ _ => ?_) fun _ z => z.mono l
  have a2 := rep_fz r2
  have f2 := (fr.mono l).mono l2
  refine kr v u d e H2 ex2 _ f2.exok (a1.mono l2.cuts) a2 ?_
  rw [sat_bind] at q
  cases hh : o d e with
  | exc c => exact absurd hh (no d e c)
  | bad => rw [hh] at q; exact q
  | ok y =>
    rw [hh] at q
    have q : Sat ((asB y).bind _) _ _ := q
    rw [sat_bind] at q
    show Post X.K ad H2 ex2 .fz _ y
    refine post_bv q fun bb H3 ex3 q l3 => ⟨bb, rfl, ?_⟩
    have lt := (l.trans l2).trans l3
    cases bb with
    | false =>
      rw [if_neg Bool.false_ne_true] at q ⊢
      exact post_fz q lt (.bl false)
    | true =>
      rw [if_pos rfl] at q ⊢
      refine kc ex0 ρ σ H3 ex3 _ (f2.mono l3) ?_
      rw [sat_bind] at q
      refine q.imp (fun z q v4 H4 ex4 fp4 l4 r4 _ _ => ?_) fun _ z => z.mono lt
      refine kr' u v4 e z H4 ex4 Q ((f2.mono l3).mono l4).exok (a2.mono (l3.trans l4).cuts) (rep_fz r4) ?_
      cases hh' : o' e z with
      | exc c => exact absurd hh' (no' e z c)
      | bad => rw [hh'] at q; exact q
      | ok y' =>
        rw [hh'] at q
        exact fun v H' ex' fp l5 r5 nd nw => q v H' ex' fp ((lt.trans l4).trans l5) r5 nd fun a z zz => nw a z ((lt.trans l4).keep a zz)
/-- what a def tells of lent things, looked at -/
theorem du_callL {k j n : Nat} {x : Str} {p : Pos} {s : Sh} {F : List D → R D} {e : Expr} {es : List Expr} {f : Env → R (List D)} (c : Cal X.prog X.w X.K X.mg X.base ad k x n s F) (hr : Room j X.A) (hk : k ≤ j) (tk : Tk X ad w) (ha : DUA X ad w G (e :: es) f) (hl : (e :: es).length = n := by rfl) (hg : Gl X x := by rfl)
    (hdb : (x == ("__debug__" : Str)) = false := by decide) (he : starEach (e :: es) X.env = (false, eval e X.env) :: starEach es X.env := by rfl) (hpl : (backTo pos (starEach es X.env)).any (·.1) = false := by rfl) (hn : ∀ ρ ds, f ρ = .ok ds → ds.length = n) :
    DU X ad w G (.Call (.Name x p) (e :: es) [] pos) (dCall F f) := by
  obtain ⟨fa, fd, ps, F1, hm, hkp, hb⟩ := c.ex
  obtain ⟨W, hW, lk⟩ := tk
  obtain ⟨t, pa, ka⟩ := ha
  refine ⟨_, pe_callS F1 (hr.mono hk) hg hm hkp hb (fun σ => passAt hW σ) pa hdb he hpl, fun ex0 ρ σ H ex Q fr q => ?_⟩
  refine ka ex0 ρ σ H ex _ fr ?_
  unfold dCall at q
  rw [sat_bind] at q
  cases e1 : f ρ with
  | exc c => rw [e1] at q; exact q
  | bad => rw [e1] at q; exact q
  | ok ds =>
    rw [e1] at q
    intro vs H1 ex1 l a
    have hc : cut H1 (fun _ => False) = H1 := by
      funext b
      simp [cut]
    refine ⟨by rw [← a.length]; exact hn ρ ds e1, fun _ => False, ds, fun _ z => z.elim, by rw [hc]; exact a, ?_⟩
    refine Sat.imp (show Sat (F ds) (PostU X.K ad H ex Q) (Exc w σ H ex) from q) (fun d q v H2 ex2 fp l2 r nd nw => ?_) fun c q H2 sm => ?_
    · exact q v H2 ex1 (l.trans ⟨l2.same, fun _ z => z, fun _ z => .inl z⟩) r.here
    · exact lk c σ H2 (q H2 ex1 (l.trans ⟨sm, fun _ z => z, fun _ z => .inl z⟩))
end
end DL

set_option Elab.async false
set_option linter.all false
set_option maxRecDepth 100000
set_option maxHeartbeats 4000000
set_option autoImplicit false
/-! DL23: the least number of a tuple. -/
namespace DL
open PySem PySem.Spec PyProof.Rows L2
section
variable {X : Cx}
def rMinT (K : PySem.W.Frag) : List V → Hp → VK → Prop := fun vs H Q => ∃ (a : Addr) (ns : List Int), vs = [V.ref a] ∧ SqT K H a (ns.map V.int) ∧ 0 < ns.length ∧ ∀ m, m ∈ ns → (∀ y ∈ ns, m ≤ y) → Q (.int m) H
theorem cr_minT (hc : X.calm = true) : CallR X (.builtin "min") (rMinT X.K) := by
  intro pins s σ H vs us Q I r h
  obtain ⟨a, ns, rfl, hs, hne, q⟩ := h
  obtain ⟨its, rv, ht, _⟩ := I.tuple hs
  have ht : s.heap.IsTuple a its.toArray := ht
  have hi := rv.ints
  have hlen : its.length = ns.length := hi.length
  rw [Vals.ref1 r]
  have hlt : a < s.heap.objs.size := by
    obtain ⟨_, e, _⟩ := ht
    exact Heap.lt_size e
  have hval : ∀ (i : Nat) (v : Value), its.toArray[i]? = some v → ∃ t, v = Value.int (ns.getD i 0) t := fun i v e => by
    have e : its[i]? = some v := by simpa using e
    have hl : i < ns.length := by
      rw [← hlen]
      exact (List.getElem?_eq_some_iff.mp e).1
    obtain ⟨t, e2⟩ := hi.get i _ (List.getElem?_eq_getElem hl)
    rw [e] at e2
    cases e2
    exact ⟨t, by rw [List.getD_eq_getElem?_getD, List.getElem?_eq_getElem hl]; rfl⟩
  refine call_min_walk (wpAny_pyIter_tuple ht ?_)
  refine ⟨_, _, _, _, _, _, _, rfl, Walks.tuple (A := X.A.in1) (I.ok.hd hc) s.heap.objs.size a (Nat.ne_of_lt hlt) its.toArray, ⟨⟨_, Heap.get?_push_size _ rfl, rfl, rfl⟩, ht.push _⟩, fun b hb => ?_, by simp; omega, CmpOf.ints_lt (fun i => ns.getD i 0) hval, fun v h' tk hP hk => ?_⟩
  · show b < (s.heap.push _).objs.size
    rw [Heap.size_push]
    simp at hb
    rcases hb with rfl | rfl
    · exact Nat.lt_succ_self _
    · exact Nat.lt_succ_of_lt hlt
  · obtain ⟨t, rfl⟩ := hval _ v hP
    obtain ⟨b1, b2⟩ := argBest_lt (fun i => ns.getD i 0) (its.toArray.size - 1)
    have hb : argBest (fun i j => decide (ns.getD i 0 < ns.getD j 0)) (its.toArray.size - 1) < ns.length := by
      have : its.toArray.size = ns.length := by simpa using hlen
      omega
    refine ⟨.int _, H, I.kept (t' := tk) fun b u e => hk b u (fun hm => ?_) (Heap.get?_push_of_some _ e), ⟨t, rfl⟩, q _ ?_ fun y hy => ?_⟩
    · have := Heap.lt_size e
      rw [List.mem_singleton.mp hm] at this
      exact absurd this (Nat.lt_irrefl _)
    · rw [List.getD_eq_getElem?_getD, List.getElem?_eq_getElem hb]
      exact List.getElem_mem hb
    · obtain ⟨i, h1, h2⟩ := List.mem_iff_getElem.mp hy
      have e : ns.getD i 0 = y := by rw [List.getD_eq_getElem?_getD, List.getElem?_eq_getElem h1, ← h2]; rfl
      rw [← e]
      refine b2 i ?_
      have : its.toArray.size = ns.length := by simpa using hlen
      omega
def oMinA : List D → R D
  | [.tup ds] => match intL ds with | some [] => .bad | some ns => .ok (.int (minL ns)) | none => .bad
  | ds => oMin ds
theorem dcu_minA {ad : Adr} (hc : X.calm = true) : DCu X ad (.builtin "min") oMinA := by
  obtain ⟨r, hr, kr⟩ := dcu_min (X := X) (ad := ad) hc
  refine ⟨_, hr.or (cr_minT hc), fun vs ds H Q a q => ?_⟩
  unfold oMinA at q
  split at q
  · rename_i ds
    obtain ⟨v, rfl, a1⟩ := a.one
    cases a1 with
    | tup h hz hs =>
      split at q
      · exact q.elim
      · rename_i ns hne e
        have e2 := ints_of e
        subst e2
        rw [ats_ints hs] at h
        have hn : ns ≠ [] := hne
        refine .inr ⟨_, ns, rfl, h, List.length_pos_iff.mpr hn, fun m h1 h2 => ?_⟩
        have := minL_mem hn
        have hm : m = minL ns := by
          have h3 := this.2 m h1
          have h4 := h2 _ this.1
          omega
        rw [hm]
        exact q _ fl_int
      · exact q.elim
  · exact .inl (kr vs _ H Q a q)
theorem nox_minA : NoX oMinA := by
  intro ds c z
  unfold oMinA at z
  split at z
  · split at z <;> cases z
  · exact nox_min _ _ z
end
end DL

set_option Elab.async false
set_option linter.all false
set_option maxRecDepth 100000
set_option maxHeartbeats 4000000
set_option autoImplicit false
/-! DL24: zip of a list and a tuple. -/
namespace DL
open PySem PySem.Spec PyProof.Rows L2 RZ
theorem apt {x y : Nat} (h : x < y ∨ y < x) : x ≠ y := by omega
/-- a list at a beside a tuple at b, turn by turn -/
def ItzM (K : PySem.W.Frag) (a b : Addr) : It where
  go i H := ∃ xs ys x y, SqL K H a xs ∧ SqT K H b ys ∧ xs[i]? = some x ∧ ys[i]? = some y
  yld i H v H' := ∃ T x y, v = V.ref T ∧ H T = none ∧ H' = upd H T (.tup [x, y]) ∧ (∀ l, SqL K H a l → l[i]? = some x) ∧ (∀ l, SqT K H b l → l[i]? = some y)
  stop i H := ∃ xs ys, SqL K H a xs ∧ SqT K H b ys ∧ i = min xs.length ys.length
def ZqAt (n a b : Nat) (i : Nat) (h : Heap) : Prop :=
  IsZip h (n + 4) (n + 2) (n + 3) .none ∧ IsTupOf2 h (n + 2) (.ref n) (.ref (n + 1)) ∧ (∃ x y, IsTupOf2 h (n + 3) x y) ∧ h.IsListIter n a i ∧ h.IsTupleIter (n + 1) b i
theorem zq_sep {n a b : Nat} (ha : a < n) (hb : b < n) : ZipSep2 (n + 4) (n + 2) (n + 3) n (n + 1) [n, a] [n + 1, b] := by
  constructor <;> simp
  all_goals exact fun e => absurd e (Nat.ne_of_gt (by omega))
theorem zq_cases {n : Nat} {C : Nat → Prop} (c4 : C (n + 4)) (c2 : C (n + 2)) (c3 : C (n + 3)) (c0 : C n) (c1 : C (n + 1)) : ∀ c ∈ [n + 4, n + 2, n + 3, n, n + 1], C c := by
  intro c hc
  simp only [List.mem_cons, List.not_mem_nil, or_false] at hc
  rcases hc with rfl | rfl | rfl | rfl | rfl <;> assumption
theorem turn_zq {P : Program} {w : World} {K : PySem.W.Frag} {elts : List Expr} {kk : Nat} {tpos : Pos} {n a b : Nat} (ha : a < n) (hb : b < n) :
    Turn P w K (.Tuple elts kk tpos) (ItzM K a b) [n + 4, n + 2, n + 3, n, n + 1] (n + 4) (ZqAt n a b) where
  mem := List.mem_cons_self
  obj := by
    rintro i h ⟨q1, q2, ⟨x, y, q3⟩, ⟨o, q4, _, d4⟩, ⟨o', q5, _, d5⟩⟩
    exact zq_cases (C := fun c => ∃ o, h.get? c = some o ∧ ∀ v, o.data ≠ .cell v) ⟨_, q1, nofun⟩ ⟨_, q2, nofun⟩ ⟨_, q3, nofun⟩ ⟨o, q4, fun v z => by rw [d4] at z; cases z⟩ ⟨o', q5, fun v z => by rw [d5] at z; cases z⟩
  keep := by
    rintro i h h' ⟨q1, q2, ⟨x, y, q3⟩, q4, q5⟩ k
    exact ⟨k _ (by simp) _ q1, k _ (by simp) _ q2, ⟨x, y, k _ (by simp) _ q3⟩, q4.at fun o z => k _ (by simp) o z, q5.at fun o z => k _ (by simp) o z⟩
  item := by
    rintro X rfl rfl rfl hc i pins s σ H E I hf ⟨q1, q2, ⟨x0, y0, q3⟩, q4, q5⟩ ⟨xs, ys, x, y, sx, sy, gx, gy⟩
    have hh : X.A.in1.handled = none := I.ok.hd hc
    obtain ⟨as, ra, pa, _⟩ := I.list sx
    obtain ⟨bs, rb, pb, _⟩ := I.tuple sy
    obtain ⟨u, gu, ru⟩ := ra.get gx
    obtain ⟨t, gt, rt⟩ := rb.get gy
    have la : i < as.toArray.size := by
      have := (List.getElem?_eq_some_iff.mp gu).1
      simpa using this
    have lb : i < bs.toArray.size := by
      have := (List.getElem?_eq_some_iff.mp gt).1
      simpa using this
    have z4 : n + 4 < s.heap.objs.size := Heap.lt_size q1
    refine wpAny_pyNext_zipD2_item (zq_sep ha hb) (Draws.list hh n a (apt (by omega)) as.toArray) (Draws.tuple hh (n + 1) b (apt (by omega)) bs.toArray) q1 q2 q3 ⟨q4, pa.isList⟩ ⟨q5, pb⟩ la lb ?_
    intro u' t' h' tk eu et w1 w3 w4 w5 wT wsz wk
    have eu2 : u' = u := by simpa [gu] using eu.symm
    have et2 : t' = t := by simpa [gt] using et.symm
    subst eu2 et2
    refine ⟨_, rfl, ?_⟩
    refine wpAny_letOwnedTupleGo_zip (s := { s with heap := h', toks := tk }) w1 ?_
    intro h2 w1' sb
    have keep : ∀ c o, c ∉ [n + 4, n + 2, n + 3, n, n + 1] → s.heap.get? c = some o → h2.get? c = some o := fun c o hn e => by
      simp only [List.mem_cons, List.not_mem_nil, or_false, not_or] at hn
      rw [sb.2 c hn.1]
      exact wk c o hn.1 hn.2.2.1 hn.2.2.2.1 hn.2.2.2.2 e
    have wT2 : h2.get? s.heap.objs.size = some { cls := .type "tuple", data := .seq #[u', t'] } := by
      rw [sb.2 _ (apt (by omega))]
      exact wT
    have I2 := I.turnedNew (t' := tk) (h' := h2) (T := s.heap.objs.size) (ob := .tup [x, y]) keep hf (Nat.le_refl _) ⟨show 2 ≤ sizeLine by decide, [u', t'], .cons ru (.cons rt .nil), ⟨_, wT2, rfl, _, rfl⟩⟩
    refine ⟨.ref s.heap.objs.size, _, I2, rfl, ⟨_, x, y, rfl, I.hok.fresh (Nat.le_refl _), rfl, fun l hl => ?_, fun l hl => ?_⟩, ⟨w1', ?_, ⟨u', t', ?_⟩, ?_, ?_⟩, fun c hcm => ?_⟩
    · rw [I.list_inj hl sx]; exact gx
    · rw [I.tuple_inj hl sy]; exact gy
    · exact (sb.2 _ (apt (by omega))).trans (wk _ _ (apt (by omega)) (apt (by omega)) (apt (by omega)) (apt (by omega)) q2)
    · exact (sb.2 _ (apt (by omega))).trans w3
    · exact w4.1.at fun o z => (sb.2 _ (apt (by omega))).trans z
    · exact w5.1.at fun o z => (sb.2 _ (apt (by omega))).trans z
    · have hn : c ≠ s.heap.objs.size := by
        have := zq_cases (n := n) (C := fun c => c < n + 5) (by omega) (by omega) (by omega) (by omega) (by omega) c hcm
        exact apt (.inl (by omega))
      rw [upd_ne hn]
      exact (hf c hcm).1
  done := by
    rintro X rfl rfl rfl hc i pins s σ H E I hf ⟨q1, q2, ⟨x0, y0, q3⟩, q4, q5⟩ ⟨xs, ys, sx, sy, hend⟩
    obtain ⟨as, ra, pa, _⟩ := I.list sx
    obtain ⟨bs, rb, pb, _⟩ := I.tuple sy
    have hh : X.A.in1.handled = none := I.ok.hd hc
    have la := ra.length
    have lb := rb.length
    refine wpAny_pyNext_zipD2_end (zq_sep ha hb) (Draws.list hh n a (apt (by omega)) as.toArray) (Draws.tuple hh (n + 1) b (apt (by omega)) bs.toArray) q1 q2 q3 ⟨q4, pa.isList⟩ ⟨q5, pb⟩ ?_ ?_ ?_ ?_
    · simp; omega
    · simp; omega
    · simp; omega
    · intro h' tk wk
      refine ⟨rfl, I.turnedL (t' := tk) (ch := [n + 4, n + 2, n + 3, n, n + 1]) (fun c o hn e => ?_) hf⟩
      simp only [List.mem_cons, List.not_mem_nil, or_false, not_or] at hn
      exact wk c o hn.1 hn.2.2.1 hn.2.2.2.1 hn.2.2.2.2 e
  self := fun A i s Q E st h => wpAny_pyIter_zip st.1 h
def iZipM (K : PySem.W.Frag) (ta : TA) : TI := fun σ H Rr => ta σ H fun vs H1 => ∃ a b xs ys, vs = [.ref a, .ref b] ∧ SqL K H1 a xs ∧ SqT K H1 b ys ∧ Rr (ItzM K a b) H1
theorem pi_zipM {X : Cx} {e e2 : Expr} {ta : TA} {p pos tpos : Pos} {elts : List Expr} {kk : Nat} (hg : Gl X "zip") (hm : X.mg "zip" = none) (ha : PA X [e, e2] ta)
    (hs : starEach [e, e2] X.env = (false, eval e X.env) :: starEach [e2] X.env) (hpl : (backTo pos (starEach [e2] X.env)).any (·.1) = false) :
    PI X (.Tuple elts kk tpos) (.Call (.Name "zip" p) [e, e2] [] pos) (iZipM X.K ta) := by
  refine ⟨fun pins s σ H Rr I h => Call_ (ld_blt I hg hm PyProof.Rows.boot_zip (PyProof.Rows.callWith_type1 (thn (ha.run pos pins s σ H _ I h) ?_) hs hpl))⟩
  rintro us s1 ⟨vs, H1, I1, r1, a, b, xs, ys, rfl, sx, sy, q⟩
  rcases r1 with _ | ⟨ra, _ | ⟨rb, ⟨⟩⟩⟩
  cases ra
  cases rb
  obtain ⟨as, rva, pa, _⟩ := I1.list sx
  obtain ⟨bs, rvb, pb, _⟩ := I1.tuple sy
  have la : a < s1.heap.objs.size := pa.lt
  have lb : b < s1.heap.objs.size := by
    obtain ⟨o, ho, _⟩ := id pb
    exact Heap.lt_size ho
  refine zip_begins2 (begins_list a as.toArray) (begins_tuple b bs.toArray) pa.isList pb ?_
  intro h' w1 w2 w3 w4 w5 wsz wk
  refine wpAny_pyIter_zip w1 ⟨_, _, _, _, H1, rfl, I1.kept (t' := s1.toks) wk, turn_zq la lb, ⟨w1, w2, ⟨_, _, w3⟩, ⟨_, w4, rfl, rfl⟩, ⟨_, w5, rfl, rfl⟩⟩, ?_, q⟩
  have f : ∀ c, s1.heap.objs.size ≤ c → FpOk X pins H1 c := fun c hc => I1.fpOk hc (I1.hok.fresh hc)
  exact zq_cases (f _ (Nat.le_add_right _ _)) (f _ (Nat.le_add_right _ _)) (f _ (Nat.le_add_right _ _)) (f _ (Nat.le_refl _)) (f _ (Nat.le_add_right _ _))
def itZM : List D → R (List D)
  | [.lst ds, .tup es] => .ok ((ds.zip es).map fun p => .tup [p.1, p.2])
  | _ => .bad

theorem walk_zipM {K : PySem.W.Frag} {a b : Addr} {xs ys : List V} {n : Nat} (hn : n = min xs.length ys.length) : Walk (ItzM K a b) n (fun H => SqL K H a xs ∧ SqT K H b ys) (YPair (fun i => xs[i]?) (fun i => ys[i]?)) where
  goes i H hi q := ⟨xs, ys, xs[i]'(by omega), ys[i]'(by omega), q.1, q.2, by simp, by simp⟩
  stops H q := ⟨xs, ys, q.1, q.2, hn⟩
  yields := by
    rintro i H v H' hi q ⟨T, x, y, e1, e2, e3, f1, f2⟩
    exact ⟨T, x, y, e1, e2, e3, f1 xs q.1, f2 ys q.2⟩
section
variable {X : Cx} {ad : Adr} {w : Wi} {G : Shs} {pos : Pos}
theorem di_zipM {e e2 : Expr} {f : Env → R (List D)} {p tpos : Pos} {elts : List Expr} {kk : Nat} (h : DA X ad w G [e, e2] f) (hg : Gl X "zip" := by rfl) (hm : X.mg "zip" = none := by assumption)
    (hs : starEach [e, e2] X.env = (false, eval e X.env) :: starEach [e2] X.env := by rfl) (hpl : (backTo pos (starEach [e2] X.env)).any (·.1) = false := by rfl) :
    DI X ad w G (.Tuple elts kk tpos) (.Call (.Name "zip" p) [e, e2] [] pos) (iA itZM f) := by
  obtain ⟨t, pa, k⟩ := h
  refine ⟨_, pi_zipM hg hm pa hs hpl, fun ex0 ρ σ H ex Rr fr q => k ex0 ρ σ H ex _ fr ?_⟩
  unfold iA at q
  rw [sat_bind] at q
  refine q.imp (fun ds q vs H1 ex1 l a => ?_) fun _ z => z
  unfold itZM at q
  split at q
  · obtain ⟨v, u, rfl, a1, a2⟩ := a.two
    cases a1 with
    | @lst c vs _ h hz hs =>
      cases a2 with
      | @tup d us _ h' hz' hs' =>
        refine ⟨c, d, vs, us, rfl, cut_same.seq h, seqT cut_same h', q (ItzM X.K c d) H1 ex1 (min vs.length us.length) _ _ l ?_ (Nat.le_trans (Nat.min_le_left _ _) hz) (walk_zipM rfl) (fun H' ex' m => ⟨(Same.trans m cut_same).seq h, seqT (Same.trans m cut_same) h'⟩) fun i H' ex' x H'' hi m hex y => zip_turn hs hs' hi m hex y⟩
        rw [List.length_map, List.length_zip, hs.length, hs'.length]
  · exact q.elim
end
end DL

set_option Elab.async false
set_option linter.all false
set_option maxRecDepth 100000
set_option maxHeartbeats 4000000
set_option autoImplicit false
/-! DL25: texts: str, join, split, the signs of a text, the module's texts. -/
namespace DL
open PySem PySem.Spec PyProof.Rows L2
def ConS (mg : Str → Option Value) (x s : Str) : Prop := ∃ t, mg x = some (.str s t)
section
variable {X : Cx} {ad : Adr} {w : Wi} {rs : Sh} {G G' : Shs} {pos : Pos} {tg : Expr}
def oStr : List D → R D
  | [.int i] => if i.natAbs.log2 < 1920 then .ok (.str (Str.ofString (toString i))) else .bad
  | _ => .bad
theorem dcu_str : DCu X ad (.type "str") oStr := by
  refine ⟨_, call_str_int, fun vs ds H Q a q => ?_⟩
  unfold oStr at q
  split at q
  · obtain ⟨v, rfl, a1⟩ := a.one
    cases a1
    split at q
    · rename_i hh
      exact ⟨_, rfl, hh, q _ fl_str⟩
    · exact q.elim
  · exact q.elim
theorem nox_str : NoX oStr := by
  intro ds c z
  unfold oStr at z
  split at z <;> (try split at z) <;> cases z
/-! lists of texts -/
def strL : List D → Option (List Str)
  | [] => some []
  | .str x :: ds => (strL ds).map (x :: ·)
  | _ => none
theorem ats_strs {K : PySem.W.Frag} {H : Hp} : ∀ {ds : List D} {ys : List Str} {vs : List V}, strL ds = some ys → Ats K ad H ds vs → vs = ys.map V.str
  | [], ys, _, e, .nil => by cases e; rfl
  | d :: ds, ys, _, e, .cons h hs => by
    cases h with
    | str x =>
      obtain ⟨zs, e1, rfl⟩ := Option.map_eq_some_iff.mp (show (strL ds).map (x :: ·) = some ys from e)
      rw [ats_strs e1 hs]
      rfl
    | _ => cases e
theorem strs_ats {K : PySem.W.Frag} {H : Hp} : ∀ (ys : List Str), Ats K ad H (ys.map D.str) (ys.map V.str)
  | [] => .nil
  | y :: ys => .cons (.str y) (strs_ats ys)
def asS : D → R Str
  | .str a => .ok a
  | _ => .bad
/-! join -/
def oJoin (a : Str) : D → R D
  | .lst ds => (match strL ds with
    | some ys => if (ys.map (·.length)).sum + ys.length * a.length ≤ 16777216 then .ok (.str (Txt.join a ys)) else .bad
    | none => .bad)
  | _ => .bad
def dJoin (f g : Env → R D) : Env → R D := fun ρ => (f ρ).bind fun x => (asS x).bind fun a => (g ρ).bind fun y => oJoin a y
theorem de_join {o e : Expr} {f g : Env → R D} {apos : Pos} (ho : DE X ad w G o .fz f) (he : DU X ad w G e g) (hs : starEach [e] X.env = [(false, eval e X.env)] := by rfl) (hbase : attributeBase o "join" X.env (eval o X.env) = eval o X.env := by rfl) (hline : (apos.endLine == pos.line) = true := by rfl) :
    DE X ad w G (.Call (.Attribute o "join" apos) [e] [] pos) .fz (dJoin f g) := by
  obtain ⟨to, po, ko⟩ := ho
  obtain ⟨te, pe, ke⟩ := he
  refine ⟨_, pe_join po pe hs hbase hline, fun ex0 ρ σ H ex Q fr q => ko ex0 ρ σ H ex _ fr ?_⟩
  unfold dJoin at q
  rw [sat_bind] at q
  refine q.imp (fun d q v H1 ex1 fp l r _ _ => ?_) fun _ z => z
  have a1 := rep_fz r
  rw [sat_bind] at q
  cases a1 with
  | str a =>
    have q : Sat ((g ρ).bind fun y => oJoin a y) (Post X.K ad H ex .fz Q) (Exc w σ H ex) := q
    rw [sat_bind] at q
    refine ⟨⟨a, rfl⟩, ke ex0 ρ σ H1 ex1 _ (fr.mono l) (q.imp (fun e q u H2 ex2 l2 a2 => ?_) fun _ z => z.mono l)⟩
    cases a2 with
    | @lst p vs ds h hz hh =>
      have q : Sat (match strL ds with
        | some ys => if (ys.map (·.length)).sum + ys.length * a.length ≤ 16777216 then R.ok (D.str (Txt.join a ys)) else .bad
        | none => .bad) (Post X.K ad H ex .fz Q) (Exc w σ H ex) := q
      split at q
      · rename_i ys ey
        split at q
        · rename_i hc
          have := ats_strs ey hh
          subst this
          exact ⟨a, p, ys, rfl, rfl, .inl h, hc, post_fz q (l.trans l2) (.str _)⟩
        · exact q.elim
      · exact q.elim
    | _ => exact q.elim
  | _ => exact q.elim
/-! split -/
def oSplit (a : Str) : D → R D
  | .str b => if (b.length == 0) = false ∧ a.length + 2 ≤ sizeLine then .ok (.lst ((Txt.split a b).map .str)) else .bad
  | _ => .bad
def dSplit (f g : Env → R D) : Env → R D := fun ρ => (f ρ).bind fun x => (asS x).bind fun a => (g ρ).bind fun y => oSplit a y
theorem de_split {o e : Expr} {f g : Env → R D} {apos : Pos} (ho : DE X ad w G o .fz f) (he : DE X ad w G e .fz g) (hs : starEach [e] X.env = [(false, eval e X.env)] := by rfl) (hbase : attributeBase o "split" X.env (eval o X.env) = eval o X.env := by rfl) (hline : (apos.endLine == pos.line) = true := by rfl) :
    DE X ad w G (.Call (.Attribute o "split" apos) [e] [] pos) (.own .fz) (dSplit f g) := by
  obtain ⟨to, po, ko⟩ := ho
  obtain ⟨te, pe, ke⟩ := he
  refine ⟨_, pe_split po pe hs hbase hline, fun ex0 ρ σ H ex Q fr q => ko ex0 ρ σ H ex _ fr ?_⟩
  unfold dSplit at q
  rw [sat_bind] at q
  refine q.imp (fun d q v H1 ex1 fp l r _ _ => ?_) fun _ z => z
  have a1 := rep_fz r
  rw [sat_bind] at q
  cases a1 with
  | str a =>
    have q : Sat ((g ρ).bind fun y => oSplit a y) (Post X.K ad H ex (.own .fz) Q) (Exc w σ H ex) := q
    rw [sat_bind] at q
    have fr1 := fr.mono l
    refine ⟨⟨a, rfl⟩, ke ex0 ρ σ H1 ex1 _ fr1 (q.imp (fun e q u H2 ex2 fp2 l2 r2 _ _ => ?_) fun _ z => z.mono l)⟩
    have a2 := rep_fz r2
    cases a2 with
    | str b =>
      have q : Sat (if (b.length == 0) = false ∧ a.length + 2 ≤ sizeLine then R.ok (D.lst ((Txt.split a b).map .str)) else .bad) (Post X.K ad H ex (.own .fz) Q) (Exc w σ H ex) := q
      split at q
      · rename_i hc
        refine ⟨a, b, rfl, rfl, hc.1, hc.2, fun p hp => ?_⟩
        have q : Post X.K ad H2 ex2 (.own .fz) Q (.lst ((Txt.split a b).map .str)) := fun v H' ex' fp l3 r3 nd nw => (show Post X.K ad H ex (.own .fz) Q _ from q) v H' ex' fp ((l.trans l2).trans l3) r3 nd fun a z zz => nw a z ((l.trans l2).keep a zz)
        refine post_lst q (strs_ats _) ?_ (fr1.mono l2).exok hp
        rw [List.length_map]
        exact Nat.le_trans (PyProof.Rows.split_le a b) hc.2
      · exact q.elim
    | _ => exact q.elim
  | _ => exact q.elim
/-! the module's texts -/
theorem con_s {x s : Str} (h : ConS X.mg x s) : ∃ u v, X.mg x = some u ∧ RelV v u ∧ ∀ H, At X.K ad H (.str s) v := by
  obtain ⟨t, h⟩ := h
  exact ⟨_, .str s, h, ⟨t, rfl⟩, fun H => .str s⟩
/-! the signs of a text -/
def itStr : D → R (List D)
  | .str x => if x.length ≤ sizeLine then .ok (x.cps.toList.map fun c => .str ⟨#[c]⟩) else .bad
  | _ => .bad
def iStrs (f : Env → R D) : Env → R (List D) := fun ρ => (f ρ).bind itStr
theorem di_str {e : Expr} {f : Env → R D} (h : DE X ad w G e .fz f) : DI X ad w G tg e (iStrs f) := by
  obtain ⟨t, p, k⟩ := h
  refine ⟨_, pi_str p, fun ex0 ρ σ H ex Rr fr q => k ex0 ρ σ H ex _ fr ?_⟩
  unfold iStrs at q
  rw [sat_bind] at q
  refine q.imp (fun d q v H1 ex1 fp l r _ _ => ?_) fun _ z => z
  have a := rep_fz r
  cases a with
  | str x =>
    unfold itStr at q
    dsimp only at q
    split at q
    · rename_i hz
      refine ⟨x, rfl, q (Its x) H1 ex1 x.cps.size _ _ l (by simp) hz walk_str (fun H' ex' m => trivial) fun i H' ex' y H'' hi m _ z => ?_⟩
      obtain ⟨rfl, c, hc, rfl⟩ := z
      exact ⟨_, by simp [hc], Le.refl _ _, .str _⟩
    · exact q.elim
  | _ => exact q.elim
/-- a tuple of things looked at -/
theorem du_tup {es : List Expr} {x1} {f : Env → R (List D)} {n : Nat} (h : DUA X ad w G es f) (hn : ∀ ρ ds, f ρ = .ok ds → ds.length = n) (hz : n ≤ 16777216 := by decide) : DU X ad w G (.Tuple es x1 pos) (dTup f) := by
  obtain ⟨t, p, k⟩ := h
  refine ⟨_, pe_tup p, fun ex0 ρ σ H ex Q fr q => k ex0 ρ σ H ex _ fr ?_⟩
  unfold dTup at q
  rw [sat_bind] at q
  cases e : f ρ with
  | exc c => rw [e] at q; exact q
  | bad => rw [e] at q; exact q
  | ok ds =>
    rw [e] at q
    intro vs H1 ex1 l a
    have hl : vs.length ≤ sizeLine := by
      rw [← a.length, hn ρ ds e]
      exact sq16 hz
    refine ⟨hl, fun pp hp => ?_⟩
    have q : PostU X.K ad H ex Q (.tup ds) := q
    have l2 : Le H1 ex1 (upd H1 pp (.tup vs)) ex1 := Le.lay hp
    exact q _ _ ex1 (l.trans l2) (.tup (SqT.of upd_same) hl (a.mono l2.same))
theorem dV_some {ρ : Env} {i : Nat} {d : D} (h : dV i ρ = .ok d) : ρ[i]? = some (some d) := by
  unfold dV at h
  split at h
  · rename_i e
    cases h
    exact e
  · cases h
/-- return (x, y, z), each as its slot holds it -/
theorem sds_retT3 (i j k : Nat) {s1 s2 s3 : Sh} {x y z : Str} {p1 p2 p3 pt : Pos} {kt : Nat} (hN : X.N[i]? = some x := by rfl) (hN2 : X.N[j]? = some y := by rfl) (hN3 : X.N[k]? = some z := by rfl) (hg : sh G i = s1 := by rfl) (hg2 : sh G j = s2 := by rfl) (hg3 : sh G k = s3 := by rfl) (hij : i ≠ j := by decide) (hik : i ≠ k := by decide) (hjk : j ≠ k := by decide)
    (hv : Vis X.env.scope x := by first | exact Or.inl rfl | exact Or.inr (Or.inl rfl) | exact Or.inr (Or.inr rfl)) (hd : (x == ("__debug__" : Str)) = false := by decide) (hcd : (x == ("__classdict__" : Str)) = false := by decide)
    (hv2 : Vis X.env.scope y := by first | exact Or.inl rfl | exact Or.inr (Or.inl rfl) | exact Or.inr (Or.inr rfl)) (hd2 : (y == ("__debug__" : Str)) = false := by decide) (hcd2 : (y == ("__classdict__" : Str)) = false := by decide)
    (hv3 : Vis X.env.scope z := by first | exact Or.inl rfl | exact Or.inr (Or.inl rfl) | exact Or.inr (Or.inr rfl)) (hd3 : (z == ("__debug__" : Str)) = false := by decide) (hcd3 : (z == ("__classdict__" : Str)) = false := by decide)
    (h1 : starEach [.Name x p1, .Name y p2, .Name z p3] X.env = (false, eval (.Name x p1) X.env) :: starEach [.Name y p2, .Name z p3] X.env := by rfl) (h2 : starEach [.Name y p2, .Name z p3] X.env = (false, eval (.Name y p2) X.env) :: starEach [.Name z p3] X.env := by rfl)
    (h3 : starEach [.Name z p3] X.env = (false, eval (.Name z p3) X.env) :: starEach [] X.env := by rfl) :
    SDs X ad w (.tup [s1, s2, s3]) G G' [.Return (some (.Tuple [.Name x p1, .Name y p2, .Name z p3] kt pt)) pos] (oRet (dTup (dCons (dV i) (dCons (dV j) (dCons (dV k) dNil))))) := by
  refine ⟨_, pss_one (ps_ret (pe_tup (pa_cons (pe_var hN hv hd hcd) (pa_cons (pe_var hN2 hv2 hd2 hcd2) (pa_cons (pe_var hN3 hv3 hd3 hcd3) pa_nil h3) h2) h1))), fun H0 ex0 ρ σ H ex De l f q => ?_⟩
  unfold oRet dTup dCons dNil at q
  cases e1 : dV i ρ with
  | exc c => rw [e1] at q; exact absurd e1 (by unfold dV; split <;> exact fun z => by cases z)
  | bad => rw [e1] at q; exact q.elim
  | ok d =>
  rw [e1] at q
  cases e2 : dV j ρ with
  | exc c => rw [e2] at q; exact absurd e2 (by unfold dV; split <;> exact fun z => by cases z)
  | bad => rw [e2] at q; exact q.elim
  | ok d' =>
  rw [e2] at q
  cases e3 : dV k ρ with
  | exc c => rw [e3] at q; exact absurd e3 (by unfold dV; split <;> exact fun z => by cases z)
  | bad => rw [e3] at q; exact q.elim
  | ok d2 =>
  rw [e3] at q
  obtain ⟨fps, f1, f2, f3, f4⟩ := f.slots
  obtain ⟨v, w1, r⟩ := f1 i d (dV_some e1)
  obtain ⟨v', w2, r'⟩ := f1 j d' (dV_some e2)
  obtain ⟨v2, w3, r2⟩ := f1 k d2 (dV_some e3)
  rw [hg] at r
  rw [hg2] at r'
  rw [hg3] at r2
  refine ⟨v, w1, v', w2, v2, w3, show 3 ≤ sizeLine by rw [sizeLine_eq]; omega, fun p hp => ?_⟩
  have ll : Le H ex (upd H p (.tup [v, v', v2])) ex := Le.lay hp
  have hnx : ¬ ex p := fun z => by
    obtain ⟨o, h⟩ := f.exok p z
    rw [hp] at h
    cases h
  have q : Ok X.K ad w (.tup [s1, s2, s3]) G G' H0 ex0 H ex De (.rt (.tup [d, d', d2])) := q
  refine q (.ref p) _ ex (fps i ++ (fps j ++ (fps k ++ []))) (l.trans ll) ll.cuts (.tup (SqT.of (cut_of hnx upd_same)) (show 3 ≤ sizeLine by rw [sizeLine_eq]; omega) (.cons (r.mono ll) (.cons (r'.mono ll) (.cons (r2.mono ll) .nil)))) ?_ fun a z => ?_
  · rw [List.append_nil]
    refine List.nodup_append.mpr ⟨f2 i, List.nodup_append.mpr ⟨f2 j, f2 k, fun a ha b hb hab => f3 j k a hjk ha (hab ▸ hb)⟩, fun a ha b hb hab => ?_⟩
    rcases List.mem_append.mp hb with hb | hb
    · exact f3 i j a hij ha (hab ▸ hb)
    · exact f3 i k a hik ha (hab ▸ hb)
  · rw [List.append_nil] at z
    rcases List.mem_append.mp z with z | z
    · exact (f4 i a z).2
    · rcases List.mem_append.mp z with z | z
      · exact (f4 j a z).2
      · exact (f4 k a z).2
end
end DL

set_option Elab.async false
set_option linter.all false
set_option maxRecDepth 100000
set_option maxHeartbeats 4000000
set_option autoImplicit false
/-! DL26: lists of lists of one's own. -/
namespace DL
open PySem PySem.Spec PyProof.Rows L2
abbrev nest : Sh := .own (.own .fz)
section
variable {K : PySem.W.Frag} {ad : Adr} {G : Shs} {ex0 ex : Own} {ρ : Env} {σ : L2.St} {H : Hp}
theorem rep_k {n k : Nat} {s : Sh} (h : k < n) : (List.replicate n s)[k]? = some s := by
  rw [List.getElem?_replicate, if_pos h]
theorem Fra.ownN (f : Fra K ad G ex0 ρ σ H ex) {i k : Nat} {ds xs : List D} (e : ρ[i]? = some (some (.lst ds))) (g : sh G i = nest) (hd : ds[k]? = some (.lst xs)) :
    ∃ p vs a us, σ[i]? = some (some (.ref p)) ∧ H p = some (.lst vs) ∧ vs[k]? = some (.ref a) ∧ ex a ∧ ¬ ex0 a ∧ H a = some (.lst us) ∧ us.length ≤ sizeLine ∧ Ats K ad (cut H ex) xs us ∧
      ∀ H2 ex2, Le H ex H2 ex2 → ∀ xs' us', us'.length ≤ sizeLine → Ats K ad (cut H2 ex2) xs' us' → Fra K ad G ex0 (ρ.set i (some (.lst (ds.set k (.lst xs'))))) σ (upd H2 a (.lst us')) ex2 := by
  obtain ⟨fps, h1, h2, h3, h4⟩ := f.slots
  obtain ⟨v, e1, r⟩ := h1 i _ e
  rw [g] at r
  generalize hfp : fps i = fp at r
  have hi : i < ρ.length := (List.getElem?_eq_some_iff.mp e).1
  have hkn : k < ds.length := (List.getElem?_eq_some_iff.mp hd).1
  cases r with
  | flt z _ => cases z
  | @own _ _ p vs fq hex0 hHp hzp hs =>
  have nd : (p :: fq).Nodup := hfp ▸ h2 i
  have ndq := (List.nodup_cons.mp nd).2
  obtain ⟨a, us, q1, q2, hex, hH, hz, hA, _⟩ := hs.kth ndq (rep_k hkn) hd
  have hpa : p ≠ a := fun z => (List.nodup_cons.mp nd).1 (z ▸ q2)
  have ha : a ∈ fps i := by rw [hfp]; exact List.mem_cons_of_mem _ q2
  refine ⟨p, vs, a, us, e1, hHp, q1, hex, (h4 i a ha).2, hH, hz, hA, fun H2 ex2 l xs' us' hz' hA' => ?_⟩
  obtain ⟨a', us2, q1', _, hex', _, _, _, wr⟩ := (hs.mono l).kth ndq (rep_k hkn) hd
  rw [q1] at q1'
  cases q1'
  have fm := f.mono l
  refine ⟨by rw [List.length_set, f.len], fun b z => ?_, fps, fun j d' ej => ?_, h2, h3, fun j b z => ⟨l.keep b (h4 j b z).1, (h4 j b z).2⟩⟩
  · by_cases hb : b = a
    · subst hb
      exact ⟨_, upd_same⟩
    · rw [upd_ne hb]
      exact fm.exok b z
  · by_cases hj : j = i
    · subst hj
      rw [List.getElem?_set_self hi] at ej
      cases ej
      refine ⟨_, e1, ?_⟩
      rw [g, hfp]
      refine .own (l.keep p hex0) ((upd_ne hpa).trans (l.same p _ hHp)) hzp ?_
      rw [List.length_set]
      exact wr xs' us' hz' hA'
    · rw [List.getElem?_set_ne (Ne.symm hj)] at ej
      obtain ⟨v', e2, r'⟩ := h1 j d' ej
      refine ⟨v', e2, (r'.mono l).keep (own_same hex') fun b z => ⟨l.keep b (h4 j b z).1, upd_ne fun q => ?_⟩⟩
      subst q
      exact h3 j i b hj z ha
end
section
variable {X : Cx} {ad : Adr} {w : Wi} {rs : Sh} {G G' : Shs} {pos : Pos}
/-- [x, y, ..], each a list of one's own -/
theorem de_lstO {es : List Expr} {f : Env → R (List D)} {n : Nat} (h : DAS X ad w G es (List.replicate n (.own .fz)) f) (hn : ∀ ρ ds, f ρ = .ok ds → ds.length = n) (hz : n ≤ 16777216 := by decide) : DE X ad w G (.List es pos) nest (dLst f) := by
  obtain ⟨t, p, k⟩ := h
  refine ⟨_, pe_lst p, fun ex0 ρ σ H ex Q fr q => k ex0 ρ σ H ex _ fr ?_⟩
  unfold dLst at q
  rw [sat_bind] at q
  cases e : f ρ with
  | exc c => rw [e] at q; exact q
  | bad => rw [e] at q; exact q
  | ok ds =>
    rw [e] at q
    intro vs H1 ex1 fp l r nd nw
    have hlen := (Reps.at (G := H1) cut_same r fun _ _ => rfl).length
    have hd := hn ρ ds e
    have hl : vs.length ≤ sizeLine := by
      rw [← hlen, hd]
      exact sq16 hz
    have q : Post X.K ad H ex nest Q (.lst ds) := q
    refine ⟨hl, fun pp hp => ?_⟩
    have ll : Le H1 ex1 (upd H1 pp (.lst vs)) (plus ex1 pp) := Le.own hp
    have hnx : ∀ a ∈ fp, a ≠ pp := fun a ha z => by
      obtain ⟨_, o, h⟩ := r.in a ha
      rw [z, hp] at h
      cases h
    refine q (.ref pp) _ (plus ex1 pp) (pp :: fp) (l.trans ll) (.own (.inr rfl) upd_same hl ?_) (List.nodup_cons.mpr ⟨fun z => hnx pp z rfl, nd⟩) fun a z => ?_
    · rw [hd]
      exact r.mono ll
    · rcases List.mem_cons.mp z with rfl | z
      · intro hx
        obtain ⟨o, h⟩ := fr.exok a hx
        have := l.same a o h
        rw [hp] at this
        cases this
      · exact nw a z
/-- x[k].m(..), x a list of lists of one's own at slot i -/
def oMutN (i k : Nat) (o : List D → List D → R (List D)) (f : Env → R (List D)) : Env → Out := fun ρ => match dV i ρ with
  | .ok (.lst ds) => (match ds[k]? with
    | some (.lst xs) => (f ρ).then ρ fun es => match o xs es with
      | .ok ys => .nx (ρ.set i (some (.lst (ds.set k (.lst ys)))))
      | _ => .bad
    | _ => .bad)
  | _ => .bad
theorem sd_mutN (i k : Nat) {kk : Int} {x : Str} {p1 p2 p3 apos cpos : Pos} {jj} {name : Str} {id : String} {e : Expr} {es : List Expr} {f : Env → R (List D)} {o : List D → List D → R (List D)} (hm : DMt X ad id o) (slot : Slot "list" name id) (hty : typeOf (.builtin id) = pure (.type "method_descriptor")) (ha : DA X ad w G (e :: es) f)
    (hkk : kk = k := by rfl) (hN : X.N[i]? = some x := by rfl) (hg : sh G i = nest := by rfl) (hv : Vis X.env.scope x := by first | exact Or.inl rfl | exact Or.inr (Or.inl rfl) | exact Or.inr (Or.inr rfl)) (hd : (x == ("__debug__" : Str)) = false := by decide) (hcd : (x == ("__classdict__" : Str)) = false := by decide)
    (hbase : attributeBase (.Subscript (.Name x p1) (.Constant (.int kk) jj p2) p3) name X.env (eval (.Subscript (.Name x p1) (.Constant (.int kk) jj p2) p3) X.env) = eval (.Subscript (.Name x p1) (.Constant (.int kk) jj p2) p3) X.env := by rfl)
    (hfew : ((backTo cpos (starEach (e :: es) X.env)).all (fun x => !x.1) && (backToKw cpos (keywordEach [] X.env)).all (fun x => x.1.isSome)
      && decide ((e :: es).length + ([] : List Keyword).length + (if ([] : List Keyword).isEmpty then 0 else 1) < 30)) = true := by rfl)
    (hline : (apos.endLine == cpos.line) = true := by rfl) (hs : starEach (e :: es) X.env = (false, eval e X.env) :: starEach es X.env := by rfl) (hplain : (backTo cpos (starEach es X.env)).any (·.1) = false := by rfl)
    (hsw : swapsWith (.Call (.Attribute (.Subscript (.Name x p1) (.Constant (.int kk) jj p2) p3) name apos) (e :: es) [] cpos) none pos.line X.env = pure false := by rfl) :
    SD X ad w rs G (.Expr (.Call (.Attribute (.Subscript (.Name x p1) (.Constant (.int kk) jj p2) p3) name apos) (e :: es) [] cpos) pos) (oMutN i k o f) := by
  obtain ⟨r, mr, kr⟩ := hm
  obtain ⟨t, pa, ka⟩ := ha
  refine ⟨_, ps_expr (pe_bm PySem.F.plainAttrs_list slot hty mr (pe_ix ix_seq (pe_var hN hv hd hcd) pe_int (fun _ _ => rfl)) pa hbase hfew hline hs hplain) hsw, fun H0 ex0 ρ σ H ex De l f q => ?_⟩
  unfold oMutN at q
  cases e1 : dV i ρ with
  | exc c => rw [e1] at q; exact q.elim
  | bad => rw [e1] at q; exact q.elim
  | ok d =>
  rw [e1] at q
  have er := dV_some e1
  cases d <;> first | exact q.elim | skip
  rename_i ds
  dsimp only at q
  split at q
  · rename_i xs ek
    obtain ⟨p, vs, a, us, eσ, hP, ev, hex, hn, hH, hz, hA, wr⟩ := f.ownN er hg ek
    refine ⟨_, eσ, .inl ⟨p, vs, kk, .ref a, rfl, rfl, SqL.of hP, ?_, .inl ⟨rfl, _, SqL.of hH⟩, ?_⟩⟩
    · rw [hkk]
      exact atI_nat ev
    · refine ka ex0 ρ σ H ex _ f (sat_then l f q fun es q => ?_)
      intro ws H2 ex2 l2 hA2
      refine kr a us ws xs es H2 ex2 _ (l2.same a _ hH) (l2.keep a hex) hz (hA.mono l2.cuts) hA2 ?_
      cases ho : o xs es with
      | exc c => rw [ho] at q; exact q
      | bad => rw [ho] at q; exact q
      | ok ys =>
        rw [ho] at q
        intro vs2 v hz2 hA3
        exact q σ _ ex2 (own_le (l.trans l2) (l2.keep a hex) hn) (l2.cuts.trans (own_mo (l2.keep a hex))) (wr H2 ex2 l2 ys vs2 hz2 hA3)
  · exact q.elim
end
end DL

set_option Elab.async false
set_option linter.all false
set_option maxRecDepth 100000
set_option maxHeartbeats 4000000
set_option autoImplicit false
/-! DL27: a list of one's own, walked while its place is kept. -/
namespace DL
open PySem PySem.Spec PyProof.Rows L2
/-- slot i, a list that stands at a -/
def pinS (G : Shs) (i : Nat) (a : Addr) : Shs := (i, .pin a) :: G
theorem pinS_at {G : Shs} {i : Nat} {a : Addr} : sh (pinS G i a) i = .pin a := by
  unfold sh pinS
  rw [List.lookup_cons]
  simp
theorem pinS_out {G : Shs} {i j : Nat} {a : Addr} (h : j ≠ i) : sh (pinS G i a) j = sh G j := by
  unfold sh pinS
  rw [List.lookup_cons]
  have : (j == i) = false := by simpa using h
  rw [this]
section
variable {K : PySem.W.Frag} {ad : Adr} {G : Shs} {ex0 ex : Own} {ρ : Env} {σ : L2.St} {H : Hp}
theorem Fra.pin (f : Fra K ad G ex0 ρ σ H ex) {i : Nat} {a : Addr} {vs : List V} {ds : List D} (e : ρ[i]? = some (some (.lst ds))) (g : sh G i = .own .fz) (ea : σ[i]? = some (some (.ref a))) : Fra K ad (pinS G i a) ex0 ρ σ H ex := by
  obtain ⟨fps, h1, h2, h3, h4⟩ := f.slots
  refine ⟨f.len, f.exok, fps, fun j d ej => ?_, h2, h3, h4⟩
  obtain ⟨v, e1, r⟩ := h1 j d ej
  refine ⟨v, e1, ?_⟩
  by_cases hj : j = i
  · subst hj
    rw [e] at ej
    cases ej
    rw [ea] at e1
    cases e1
    rw [pinS_at]
    rw [g] at r
    generalize fps j = fp at r
    cases r with
    | flt z _ => cases z
    | own hex hH hz hs =>
      obtain ⟨rfl, hA⟩ := hs.fzs
      exact .pin hex hH hz hA
  · rw [pinS_out hj]
    exact r
theorem Fra.unpin {i : Nat} {a : Addr} (f : Fra K ad (pinS G i a) ex0 ρ σ H ex) (g : sh G i = .own .fz) : Fra K ad G ex0 ρ σ H ex := by
  obtain ⟨fps, h1, h2, h3, h4⟩ := f.slots
  refine ⟨f.len, f.exok, fps, fun j d ej => ?_, h2, h3, h4⟩
  obtain ⟨v, e1, r⟩ := h1 j d ej
  refine ⟨v, e1, ?_⟩
  by_cases hj : j = i
  · subst hj
    rw [pinS_at] at r
    rw [g]
    generalize fps j = fp at r
    cases r with
    | pin hex hH hz hA => exact .own hex hH hz hA.reps
  · rw [pinS_out hj] at r
    exact r
theorem Fra.pinned {i : Nat} {a : Addr} (f : Fra K ad (pinS G i a) ex0 ρ σ H ex) {d : D} (e : ρ[i]? = some (some d)) : ∃ ds vs, d = .lst ds ∧ σ[i]? = some (some (.ref a)) ∧ ex a ∧ ¬ ex0 a ∧ H a = some (.lst vs) ∧ vs.length ≤ sizeLine ∧ Ats K ad (cut H ex) ds vs := by
  obtain ⟨fps, h1, h2, h3, h4⟩ := f.slots
  obtain ⟨v, e1, r⟩ := h1 i d e
  rw [pinS_at] at r
  generalize hfp : fps i = fp at r
  cases r with
  | @pin ds _ vs hex hH hz hA => exact ⟨ds, vs, rfl, e1, hex, (h4 i a (by rw [hfp]; simp)).2, hH, hz, hA⟩
end
section
variable {X : Cx} {ad : Adr} {w : Wi} {rs : Sh} {G G' : Shs} {pos : Pos} {i : Nat} {a : Addr}
theorem de_up {e : Expr} {s : Sh} {f : Env → R D} (h : DE X ad w G e s f) (g : sh G i = .own .fz := by rfl) : DE X ad w (pinS G i a) e s f := by
  obtain ⟨t, p, k⟩ := h
  exact ⟨t, p, fun ex0 ρ σ H ex Q fr q => k ex0 ρ σ H ex Q (fr.unpin g) q⟩
theorem du_up {e : Expr} {f : Env → R D} (h : DU X ad w G e f) (g : sh G i = .own .fz := by rfl) : DU X ad w (pinS G i a) e f := by
  obtain ⟨t, p, k⟩ := h
  exact ⟨t, p, fun ex0 ρ σ H ex Q fr q => k ex0 ρ σ H ex Q (fr.unpin g) q⟩
theorem da_up {e : List Expr} {f : Env → R (List D)} (h : DA X ad w G e f) (g : sh G i = .own .fz := by rfl) : DA X ad w (pinS G i a) e f := by
  obtain ⟨t, p, k⟩ := h
  exact ⟨t, p, fun ex0 ρ σ H ex Q fr q => k ex0 ρ σ H ex Q (fr.unpin g) q⟩
theorem dt_up {e : Expr} {f : Env → R Bool} (h : DT X ad w G e f) (g : sh G i = .own .fz := by rfl) : DT X ad w (pinS G i a) e f := by
  obtain ⟨t, p, k⟩ := h
  exact ⟨t, p, fun ex0 ρ σ H ex Q fr q => k ex0 ρ σ H ex Q (fr.unpin g) q⟩
theorem walk_pin {K : PySem.W.Frag} {a : Addr} {n : Nat} : Walk (Itl K a) n (fun H => ∃ vs, SqL K H a vs ∧ vs.length = n) (fun i H v H' => H' = H ∧ ∀ vs, SqL K H a vs → vs[i]? = some v) where
  goes := by
    rintro i H hi ⟨vs, q, rfl⟩
    exact ⟨vs, vs[i], q, List.getElem?_eq_getElem hi⟩
  stops := by
    rintro H ⟨vs, q, rfl⟩
    exact ⟨vs, q, Nat.le_refl _⟩
  yields := by
    rintro i H v H' hi _ ⟨e, y⟩
    exact ⟨e, y⟩
/-- as many turns as the list is long, which no turn changes -/
def loopQ (i : Nat) (h : D → Env → R Env) (g : Env → Out) : Nat → Nat → Env → Out
  | 0, k, ρ => match dV i ρ with
    | .ok (.lst ds) => if ds.length = k then .nx ρ else .bad
    | _ => .bad
  | n + 1, k, ρ => match dV i ρ with
    | .ok (.lst ds) => if ds.length = k + (n + 1) then (match ds[k]? with
      | some d => (match h d ρ with
        | .ok ρ1 => (g ρ1).seq (loopQ i h g n (k + 1))
        | _ => .bad)
      | none => .bad) else .bad
    | _ => .bad
def oForP (i : Nat) (h : D → Env → R Env) (g : Env → Out) : Env → Out := fun ρ => match dV i ρ with
  | .ok (.lst ds) => loopQ i h g ds.length 0 ρ
  | _ => .bad
theorem sd_forP (i : Nat) {x : Str} {px : Pos} {tg : Expr} {body : List Stmt} {vs : List Nat} {h : D → Env → R Env} {g : Env → Out} (hp : PassesOwn (model X.prog X.w) X.A X.env X.xe) (hc : X.calm = true) (hg : ∀ a, DG X ad (pinS G i a) tg vs h) (hb : ∀ a, SDs X ad w rs (pinS G i a) (pinS G i a) body g)
    (hN : X.N[i]? = some x := by rfl) (hsh : sh G i = .own .fz := by rfl) (hv : Vis X.env.scope x := by first | exact Or.inl rfl | exact Or.inr (Or.inl rfl) | exact Or.inr (Or.inr rfl)) (hd : (x == ("__debug__" : Str)) = false := by decide) (hcd : (x == ("__classdict__" : Str)) = false := by decide)
    (hs : ∀ z, foldedSetIterable (.Name x px) X.env z = pure z := by intro _; rfl) : SD X ad w rs G (.For tg (.Name x px) body [] pos) (oForP i h g) := by
  let gt : TG := fun v σ H Q => ∃ a t, PG X tg t ∧ (∀ ex0 ρ σ H ex d v Q, Fra X.K ad (pinS G i a) ex0 ρ σ H ex → At X.K ad (cut H ex) d v → Sat (h d ρ) (fun ρ' => ∀ σ', Fra X.K ad (pinS G i a) ex0 ρ' σ' H ex → (∀ us : List Nat, (∀ i ∈ vs, i ∈ us) → L2.wipe σ' us = L2.wipe σ us) → Q σ' H) (fun _ => False) → t v σ H Q) ∧ t v σ H Q
  let tb : TS := fun De σ H => ∃ t, PSs X body t ∧ t De σ H
  have pg : PG X tg gt := ⟨fun pins s σ H v u Q I r ⟨a, t, p, _, z⟩ => p.run pins s σ H v u Q I r z⟩
  have pb : PSs X body tb := ⟨fun pins s σ H De I ⟨t, p, z⟩ => p.run pins s σ H De I z⟩
  refine ⟨_, ps_for hp hc (pi_lt (pe_var hN hv hd hcd)) pg pb hs, fun H0 ex0 ρ σ H ex De l f q => ?_⟩
  unfold oForP at q
  cases e1 : dV i ρ with
  | exc c => rw [e1] at q; exact q.elim
  | bad => rw [e1] at q; exact q.elim
  | ok d =>
  rw [e1] at q
  have er := dV_some e1
  cases d <;> first | exact q.elim | skip
  rename_i ds
  have q : Ok X.K ad w rs G G H0 ex0 H ex De (loopQ i h g ds.length 0 ρ) := q
  obtain ⟨a, us, ds', ed, eσ, hex, hn, hH, hz, hA, _⟩ := f.own er hsh
  cases ed
  have fp := f.pin (vs := us) er hsh eσ
  refine ⟨_, eσ, a, rfl, .inl ⟨⟨us, SqL.of hH⟩, ?_⟩⟩
  refine for_it (walk_pin (n := ds.length)) (fun k σ' H' => ∃ ρ' ex', Le H0 ex0 H' ex' ∧ Fra X.K ad (pinS G i a) ex0 ρ' σ' H' ex' ∧ Ok X.K ad w rs G G H0 ex0 H' ex' De (loopQ i h g (ds.length - k) k ρ')) ⟨ρ, ex, l, fp, q⟩ ?_ ?_ ?_
  · rintro k σ' H' hk ⟨ρ', ex', l', f', q'⟩
    have : ∃ es, dV i ρ' = .ok (.lst es) ∧ es.length = ds.length := by
      by_cases hz : ds.length - k = 0
      · rw [hz] at q'
        unfold loopQ at q'
        split at q'
        · rename_i es ee
          split at q'
          · exact ⟨es, ee, by omega⟩
          · exact q'.elim
        · exact q'.elim
      · obtain ⟨m, hm⟩ : ∃ m, ds.length - k = m + 1 := ⟨ds.length - k - 1, by omega⟩
        rw [hm] at q'
        unfold loopQ at q'
        split at q'
        · rename_i es ee
          split at q'
          · exact ⟨es, ee, by omega⟩
          · exact q'.elim
        · exact q'.elim
    obtain ⟨es, ee, he⟩ := this
    obtain ⟨ds2, vs2, e2, _, _, _, hH2, _, hA2⟩ := f'.pinned (dV_some ee)
    cases e2
    exact ⟨vs2, SqL.of hH2, by rw [← hA2.length, he]⟩
  · rintro k x σ' H' H'' hk ⟨ρ', ex', l', f', q'⟩ ⟨rfl, gy⟩
    obtain ⟨m, hm⟩ : ∃ m, ds.length - k = m + 1 := ⟨ds.length - k - 1, by omega⟩
    rw [hm] at q'
    unfold loopQ at q'
    split at q'
    · rename_i es ee
      split at q'
      · rename_i hes
        split at q'
        · rename_i d hd2
          obtain ⟨ds2, vs3, e2, _, hex2, _, hH2, _, hA2⟩ := f'.pinned (dV_some ee)
          cases e2
          obtain ⟨d', hd3, ha⟩ := hA2.getV (gy vs3 (SqL.of hH2))
          rw [hd2] at hd3
          cases hd3
          obtain ⟨t, p, kg⟩ := hg a
          refine ⟨a, t, p, kg, kg ex0 ρ' σ' H'' ex' d x _ f' ha ?_⟩
          cases hh : h d ρ' with
          | exc c => rw [hh] at q'; exact q'
          | bad => rw [hh] at q'; exact q'
          | ok ρ2 =>
            rw [hh] at q'
            intro σ2 f2 _
            obtain ⟨t2, p2, kb⟩ := hb a
            refine ⟨t2, p2, kb H0 ex0 ρ2 σ2 H'' ex' _ l' f2 ?_⟩
            dsimp only at q'
            cases hg' : g ρ2 with
            | nx ρ3 =>
              rw [hg'] at q'
              have hm2 : ds.length - (k + 1) = m := by omega
              exact fun σ3 H3 ex3 l3 m3 f3 => ⟨ρ3, ex3, l3, f3, by rw [hm2]; exact q'.from m3⟩
            | rt d => rw [hg'] at q'; exact q'
            | xc c ρ3 =>
              rw [hg'] at q'
              exact fun σ3 H3 ex3 l3 m3 f3 => q' σ3 H3 ex3 l3 m3 (f3.up fun j hj => by
                rw [pinS_out fun z => ?_]
                · exact hj
                · subst z
                  rw [hsh] at hj
                  cases hj)
            | bad => rw [hg'] at q'; exact q'
        · exact q'.elim
      · exact q'.elim
    · exact q'.elim
  · rintro σ' H' ⟨ρ', ex', l', f', q'⟩
    rw [Nat.sub_self] at q'
    unfold loopQ at q'
    split at q'
    · split at q'
      · exact q' σ' H' ex' l' Mo.refl (f'.unpin hsh)
      · exact q'.elim
    · exact q'.elim
end
end DL

set_option Elab.async false
set_option linter.all false
set_option maxRecDepth 100000
set_option maxHeartbeats 4000000
set_option autoImplicit false
/-! DL28: calls with no argument; a text, so many times. -/
namespace DL
open PySem PySem.Spec PyProof.Rows L2
/-- a text so many times -/
def repS (x : Str) (n : Int) : Str := if n < 1 then Str.empty else if (n == 1 || x.length == 0) = true then x else ⟨(List.replicate n.toNat x.cps).foldl (· ++ ·) #[]⟩
def rMulS : R2 := fun x y H Q => ∃ (z : Str) (n : Int), x = V.str z ∧ y = .int n ∧ -(2 ^ 62) ≤ n ∧ n ≤ 16777216 ∧ z.length * n.toNat ≤ sizeLine ∧ (repS z n).length ≤ sizeLine ∧ Q (.str (repS z n)) H
section
variable {X : Cx}
theorem op_mulS : OpR X (binaryOp .Mult) rMulS := by
  intro pins s σ H x y v u Q I rx ry h
  obtain ⟨z, n, rfl, rfl, h1, h2, h3, h4, q⟩ := h
  obtain ⟨t, rfl⟩ := rx
  obtain ⟨t2, rfl⟩ := ry
  have e1 : ¬ n < -(2 ^ 63 : Int) := by omega
  have e2 : ¬ n ≥ 2 ^ 63 := by omega
  refine PySem.P.mul_str (by rw [decide_eq_false e1, decide_eq_false e2]; rfl) (fun a b => ?_) (fun a b => ?_) ?_
  · refine Int.not_lt.mpr (Int.le_ediv_of_mul_le (by omega) ?_)
    have h3' : ((z.length * n.toNat : Nat) : Int) ≤ (sizeLine : Nat) := Int.ofNat_le.mpr h3
    rw [Int.natCast_mul, show ((n.toNat : Nat) : Int) = n by omega, sizeLine_eq] at h3'
    omega
  · unfold Builtin.Str.tooLong
    exact decide_eq_false (by omega)
  · unfold repS at q h4
    by_cases c : n < 1
    · rw [if_pos c] at q h4 ⊢
      exact ⟨h4, .str _, H, I.tok _, ⟨_, rfl⟩, q⟩
    · rw [if_neg c] at q h4 ⊢
      by_cases c2 : (n == 1 || z.length == 0) = true
      · rw [if_pos c2] at q h4 ⊢
        exact ⟨.str z, H, I, ⟨t, rfl⟩, q⟩
      · rw [if_neg c2] at q h4 ⊢
        exact ⟨h4, .str _, H, I.tok _, ⟨_, rfl⟩, q⟩
variable {ad : Adr}
def oMulS : D → D → R D
  | .str z, .int n => if -(2 ^ 62) ≤ n ∧ n ≤ 16777216 ∧ z.length * n.toNat ≤ 16777216 ∧ (repS z n).length ≤ 16777216 then .ok (.str (repS z n)) else .bad
  | _, _ => .bad
theorem dop_mulS : DOp X ad (binaryOp .Mult) .fz oMulS := by
  refine ⟨_, op_mulS, fun x y d e H ex Q hx a b q => ?_⟩
  cases a <;> cases b <;> first | exact q.elim | skip
  unfold oMulS at q
  dsimp only at q
  split at q
  · rename_i hh
    exact ⟨_, _, rfl, rfl, hh.1, hh.2.1, by rw [sizeLine_eq]; exact hh.2.2.1, by rw [sizeLine_eq]; exact hh.2.2.2, post_fz q (Le.refl _ _) (.str _)⟩
  · exact q.elim
theorem no_mulS : ∀ d e c, oMulS d e ≠ .exc c := by
  intro d e c z
  unfold oMulS at z
  split at z <;> (try split at z) <;> cases z
end
section
variable {X : Cx} {ad : Adr} {w : Wi} {G : Shs} {pos : Pos}
theorem de_call0 {k j : Nat} {x : Str} {p : Pos} {F : List D → R D} {s : Sh} (c : Cal X.prog X.w X.K X.mg X.base ad k x 0 s F) (hr : Room j X.A) (hk : k ≤ j) (tk : Tk X ad w) (hg : Gl X x := by rfl) (hdb : (x == ("__debug__" : Str)) = false := by decide) :
    DE X ad w G (.Call (.Name x p) [] [] pos) s (dCall F dNil) := by
  obtain ⟨fa, fd, ps, F1, hm, hkp, hb⟩ := c.ex
  obtain ⟨W, hW, lk⟩ := tk
  have pe : PE X (.Call (.Name x p) [] [] pos) (fun σ H Q => spD X.K ad 0 s F [] H Q fun e u H' => W e u σ H') := ⟨fun pins s0 σ H Q I h => by
    refine wpAny_Call_Name_kw (ld_glob I hg hm ?_ hdb)
    exact PySem.W.callWith_K0 I.kIn hkp (run_fnS F1 (hr.mono hk) hb (passAt hW σ) I .nil h)⟩
  refine ⟨_, pe, fun ex0 ρ σ H ex Q fr q => ?_⟩
  refine ⟨rfl, ex, [], fr.exok, .nil, ?_⟩
  refine Sat.imp (show Sat (F []) (Post X.K ad H ex s Q) (Exc w σ H ex) from q) (fun d q v H2 ex2 fp l2 r nd nw => ?_) fun c q H2 sm => ?_
  · exact q v H2 ex2 fp l2 r nd nw
  · exact lk c σ H2 (q H2 ex ⟨sm, fun _ z => z, fun _ z => .inl z⟩)
end
end DL

set_option Elab.async false
set_option linter.all false
set_option maxRecDepth 100000
set_option maxHeartbeats 4000000
set_option autoImplicit false
/-! DL29: x.extend(a tuple). -/
namespace PySem
open Sem (wp)
open Builtin AutoSeq1
theorem extend_tupleW (l b : Addr) (xs ys : Array Value) (n n2 : Nat) (dd : Option Addr) (sl : Array (Option Value)) (hz : xs.size + ys.size ≤ sizeLine) (hx : ¬ (!xs.isEmpty && Builtin.List.listTooLong (xs.size + ys.size)) = true) :
    Meets (Builtin.«list.extend» ⟨[.ref l, .ref b], []⟩) (fun _ R s => s.heap.get? l = some { cls := .type "list", dict := none, data := .seq xs n, slots := #[] } ∧ s.heap.get? b = some { cls := .type "tuple", dict := dd, data := .seq ys n2, slots := sl } ∧
      R (.ok (.ret Value.none)) { s with heap := s.heap.update l (Obj.mapSeq fun x => x ++ ys), toks := s.toks }) :=
  .of_wp fun prog w A R s h => by
    obtain ⟨hp, g, d, tk, os⟩ := s
    obtain ⟨hl, hb, h⟩ := h
    have g1 := idx_int
    have g2 := sub_tuple_tuple
    have g3 := sub_list_list
    have g4 := sub_tuple_list
    have g5 := sub_list_tuple
    have z1 : xs.size ≤ sizeLine := by omega
    have z2 : (xs ++ ys).size ≤ sizeLine + 1 := by
      rw [Array.size_append]
      omega
    wp_walk using (wpAny_updateSeq hl rfl (hz := z1) (_hz' := z2)), wpAny_loadPart' hl, wpAny_loadPart' hb
    exact ⟨_, rfl, h⟩
end PySem
namespace DL
open PySem PySem.Spec PyProof.Rows L2
section
variable {X : Cx} {ad : Adr}
def rExtT (K : PySem.W.Frag) : V → List V → Hp → VK → Prop := fun x vs H Q => ∃ l b xs zs, x = .ref l ∧ vs = [.ref b] ∧ H l = some (.lst xs) ∧ SqT K H b zs ∧ xs.length + zs.length ≤ sizeLine ∧ Q .non (upd H l (.lst (xs ++ zs)))
theorem mt_extT : MtM X "list.extend" (rExtT X.K) := by
  intro pins s σ H x vs v us Q I rx rv h
  obtain ⟨l, b, xs, zs, rfl, rfl, hH, hB, hz, q⟩ := h
  cases rx
  obtain ⟨u, rfl, ru⟩ := rv.one
  cases ru
  obtain ⟨z, its, n, r, hl, e⟩ := I.lstM hH
  obtain ⟨its2, r2, ⟨⟨cls, dd, data, sl⟩, ho, hc, n2, hd⟩, hl2⟩ := I.tuple hB
  dsimp only at hc hd
  subst hc hd
  have l2 := r2.length
  have hsz : its.toArray.size + its2.toArray.size ≤ sizeLine := by rw [List.size_toArray, List.size_toArray]; omega
  refine call_meets PySem.F.slot_list_extend ⟨_, e, rfl⟩ PySem.F.entry_list_extend (PySem.F.args_list_extend_2 _ _) (PySem.extend_tupleW l b its.toArray its2.toArray n n2 dd sl hsz (by rw [notLongL hsz, Bool.and_false]; exact Bool.false_ne_true)) ⟨e, ho, ?_⟩
  refine ⟨.non, _, I.lset (its' := its ++ its2) hH e (by simp) (r.append r2) ?_, rfl, q⟩
  rw [List.length_append]
  omega
def mExtT (xs ds : List D) : R (List D) := match ds with
  | [.tup es] => if xs.length + es.length ≤ 16777216 then .ok (xs ++ es) else .bad
  | _ => .bad
theorem dmt_extT : DMt X ad "list.extend" mExtT := by
  refine ⟨_, mt_extT, fun a vs us xs ds H ex Q hH hex hz hA hB q => ?_⟩
  unfold mExtT at q
  split at q
  · rename_i es
    obtain ⟨v, rfl, a1⟩ := hB.one
    cases a1 with
    | @tup b ws _ hT hz2 hs =>
      split at q
      · rename_i hl
        rw [hA.length, hs.length] at hl
        refine ⟨a, b, vs, ws, rfl, rfl, hH, seqT cut_same hT, by rw [sizeLine_eq]; exact hl, q _ _ ?_ (hA.append hs)⟩
        rw [List.length_append, sizeLine_eq]
        exact hl
      · exact q.elim
  · exact q.elim
end
end DL

set_option Elab.async false
set_option linter.all false
set_option maxRecDepth 100000
set_option maxHeartbeats 4000000
namespace DL
open PySem
def g_check_web : Env → Out := (oSeq (oAsg (tT (tCons' (tN 1) (tCons' (tN 2) (tCons' (tN 3) tNil')))) (dV 0))
    (oSeq (oIf (bOr (dB (d2 oLt (dV 1) (dC (.int 1)))) (bOr (dB (d2 oGt (dV 1) (dC (.int 12)))) (bOr (dB (d2 oLt (dV 2) (dC (.int 2)))) (bOr (dB (d2 oGt (dV 2) (dC (.int 3)))) (dB (d2 oGt (dCall oLen (dCons (dV 3) dNil)) (dC (.int 40))))))))
    (oRaise .web)
    oNx)
    (oFor (iS (dV 3)) (tT (tCons' (tN 4) (tCons' (tN 5) (tCons' (tN 6) tNil'))))
    (oSeq (oIf (bOr (dB (d2 oLt (dCall oMin (dCons (dV 4) (dCons (dV 5) dNil))) (dC (.int 0)))) (bOr (dB (d2 oGe (dCall oMax (dCons (dV 4) (dCons (dV 5) dNil))) (dV 1))) (dB (d2 oEq (dV 4) (dV 5)))))
    (oRaise .web)
    oNx)
    (oIf (bOr (dB (d2 oNe (dCall oLen (dCons (dV 6) dNil)) (dV 2))) (dB (d2 oLt (dCall oMinA (dCons (dV 6) dNil)) (dC (.int 0)))))
    (oRaise .web)
    oNx)))))
def F_check_web : List D → R D := runD 6 (.ok .non) g_check_web
def g_law_cell_at : Env → Out := (oSeq (oIf (dB (d2 oLt (dV 1) (dCall oLen (dCons (dV 0) dNil))))
    (oRet (d2 oIx (dV 0) (dV 1)))
    oNx)
    (oRet (dC (.int 0))))
def F_law_cell_at : List D → R D := runD 0 (.ok .non) g_law_cell_at
def g_law_mix : Env → Out := (oSeq (oIf (dB (d2 oGe (dV 0) (d2 oPow (dC (.int 10)) (dC (.int 18)))))
    (oSeq (oFor (iA itR1 (dCons (dV 1) dNil)) (tN 2)
    (oSet 0 (d2 oDiv (dV 0) (d2 oPow (dC (.int 10)) (dC (.int 6))))))
    (oRet (d2 oMod (dV 0) (d2 oPow (dC (.int 10)) (dC (.int 6))))))
    oNx)
    (oSeq (oSet 3 (d2 oMod (d2 oMul (d2 oAdd (d2 oAdd (d2 oMod (dV 0) (dC (.int 1000003))) (d2 oMul (d2 oMul (dV 1) (dV 1)) (dC (.int 7919)))) (dV 1)) (dC (.int 48271))) (dC (.int 2147483629))))
    (oSeq (oSet 3 (d2 oMod (d2 oMul (dV 3) (dV 3)) (dC (.int 2147483587))))
    (oRet (d2 oDiv (d2 oMod (d2 oMul (dV 3) (d2 oAdd (dV 3) (dC (.int 2)))) (dC (.int 2147483579))) (dC (.int 7)))))))
def F_law_mix : List D → R D := runD 2 (.ok .non) g_law_mix
def g_law_price : Env → Out := (oSeq (oIf (dB (d2 oEq (dV 1) (dC (.int 1))))
    (oRet (d2 oMod (dV 0) (dC (.int 1000))))
    oNx)
    (oSeq (oIf (dB (d2 oEq (dV 1) (dC (.int 2))))
    (oRet (d2 oAdd (d2 oMul (d2 oMod (dV 0) (dC (.int 1000))) (d2 oIx (dLst (dCons (d2 oPow (dC (.int 10)) (dC (.int 36))) (dCons (d2 oPow (dC (.int 10)) (dC (.int 37))) dNil))) (d2 oMod (d2 oDiv (dV 0) (dC (.int 3000))) (dC (.int 2))))) (d2 oMod (d2 oDiv (dV 0) (dC (.int 1000))) (dC (.int 3)))))
    oNx)
    (oRet (d2 oMod (dV 0) (d2 oIx (dLst (dCons (dC (.int 10)) (dCons (dC (.int 4)) dNil))) (dCall oInt (dCons (d2 oEq (dV 1) (dC (.int 3))) dNil)))))))
def F_law_price : List D → R D := runD 0 (.ok .non) g_law_price
def g_law_web : Env → Out := (oSeq (oSet 1 (dCall F_law_cell_at (dCons (dV 0) (dCons (dC (.int 0)) dNil))))
    (oSeq (oSet 2 (d2 oAdd (dC (.int 1)) (d2 oMod (dCall F_law_mix (dCons (dV 1) (dCons (dC (.int 0)) dNil))) (dC (.int 6)))))
    (oSeq (oSet 3 (d2 oAdd (d2 oMul (dC (.int 3)) (dV 2)) (dC (.int 3))))
    (oSeq (oSet 4 (d2 oMod (dCall F_law_mix (dCons (dV 1) (dCons (dC (.int 4)) dNil))) (dC (.int 8))))
    (oSeq (oIf (dB (d2 oEq (d2 oMod (dCall F_law_mix (dCons (dV 1) (dCons (dC (.int 1)) dNil))) (dC (.int 8))) (dC (.int 1))))
    (oSeq (oSet 2 (d2 oAdd (dC (.int 7)) (d2 oMod (dCall F_law_mix (dCons (dV 1) (dCons (dC (.int 0)) dNil))) (dC (.int 6)))))
    (oSet 3 (d2 oAdd (dV 2) (dC (.int 7)))))
    oNx)
    (oSeq (oIf (dB (d2 oEq (d2 oMod (dCall F_law_mix (dCons (dV 1) (dCons (dC (.int 1)) dNil))) (dC (.int 8))) (dC (.int 2))))
    (oAsg (tT (tCons' (tN 2) (tCons' (tN 3) (tCons' (tN 4) tNil')))) (dTup (dCons (d2 oAdd (dC (.int 2)) (d2 oMod (dCall F_law_mix (dCons (dV 1) (dCons (dC (.int 0)) dNil))) (dC (.int 4)))) (dCons (dC (.int 41)) (dCons (dC (.int 3)) dNil)))))
    oNx)
    (oSeq (oSet 5 (d2 oAdd (dC (.int 2)) (d2 oMod (dCall F_law_mix (dCons (dV 1) (dCons (dC (.int 2)) dNil))) (dC (.int 2)))))
    (oSeq (oSet 6 (dLst dNil))
    (oSeq (oFor (iA itR1 (dCons (d2 oMod (dCall F_law_mix (dCons (dV 1) (dCons (dC (.int 3)) dNil))) (dV 3)) dNil)) (tN 7)
    (oSeq (oSet 8 (dCall F_law_mix (dCons (dCall F_law_cell_at (dCons (dV 0) (dCons (d2 oAdd (dC (.int 1)) (d2 oMod (dV 7) (dC (.int 10)))) dNil))) (dCons (d2 oAdd (dC (.int 20)) (dV 7)) dNil))))
    (oSeq (oSet 9 (d2 oMod (dV 8) (dV 2)))
    (oSeq (oSet 10 (d2 oMod (d2 oAdd (d2 oAdd (dV 9) (dC (.int 1))) (d2 oMod (d2 oDiv (dV 8) (dC (.int 16))) (dCall oMax (dCons (dC (.int 1)) (dCons (d2 oSub (dV 2) (dC (.int 1))) dNil))))) (dV 2)))
    (oSeq (oSet 11 (dLst dNil))
    (oSeq (oFor (iA itR1 (dCons (dV 5) dNil)) (tN 12)
    (oSeq (oSet 13 (dCall F_law_mix (dCons (dCall F_law_cell_at (dCons (dV 0) (dCons (d2 oAdd (dC (.int 1)) (d2 oMod (dV 7) (dC (.int 10)))) dNil))) (dCons (d2 oAdd (d2 oAdd (dC (.int 60)) (d2 oMul (dC (.int 3)) (dV 7))) (dV 12)) dNil))))
    (oMut 11 mAppend (dCons (dCall F_law_price (dCons (dV 13) (dCons (dV 4) dNil))) dNil))))
    (oIf (bAnd (dB (d2 oNe (dV 9) (dV 10))) (dB (d2 oLt (dCall oLen (dCons (dV 6) dNil)) (dC (.int 40)))))
    (oMut 6 mAppend (dCons (dTup (dCons (dV 9) (dCons (dV 10) (dCons (oL tupK (kL (dV 11))) dNil)))) dNil))
    oNx)))))))
    (oRet (dTup (dCons (dV 2) (dCons (dV 5) (dCons (dV 6) dNil))))))))))))))
def F_law_web : List D → R D := runD 13 (.ok .non) g_law_web
def g_law_kept : Env → Out := (oSeq (oIf (bNot (dB (d1 oIsVE (dV 0))))
    (oRet (dC (.str (PySem.Str.ofString "other"))))
    oNx)
    (oSeq (oSet 1 (dLst (dCons (d1 (oIsX .web) (dV 0)) (dCons (d1 (oIsX .way) (dV 0)) (dCons (d1 (oIsX .place) (dV 0)) (dCons (d1 (oIsX .step) (dV 0)) dNil))))))
    (oSeq (oSet 1 (d2 oAdd (dV 1) (dLst (dCons (d1 (oIsX .width) (dV 0)) (dCons (d1 (oIsX .many) (dV 0)) dNil)))))
    (oSeq (oSet 1 (d2 oAdd (dV 1) (dLst (dCons (d1 (oIsX .text) (dV 0)) (dCons (d1 (oIsX .row) (dV 0)) dNil)))))
    (oSeq (oIf (dB (d2 oNe (oMl oCountD (dV 1) (dCons (dC (.bl true)) dNil)) (dC (.int 1))))
    (oRet (dC (.str (PySem.Str.ofString "other"))))
    oNx)
    (oRet (d2 oIx (dLst (dCons (dC (.str (PySem.Str.ofString "web"))) (dCons (dC (.str (PySem.Str.ofString "way"))) (dCons (dC (.str (PySem.Str.ofString "place"))) (dCons (dC (.str (PySem.Str.ofString "step"))) (dCons (dC (.str (PySem.Str.ofString "width"))) (dCons (dC (.str (PySem.Str.ofString "many"))) (dCons (dC (.str (PySem.Str.ofString "text"))) (dCons (dC (.str (PySem.Str.ofString "row"))) dNil))))))))) (oMl oIndexD (dV 1) (dCons (dC (.bl true)) dNil)))))))))
def F_law_kept : List D → R D := runD 1 (.ok .non) g_law_kept
def g_law_is_web : Env → Out := (oSeq (oAsg (tT (tCons' (tN 1) (tCons' (tN 2) (tCons' (tN 3) tNil')))) (dV 0))
    (oSeq (oIf (bOr (bNot (dB (dChain oLe oLe (dC (.int 1)) (dV 1) (dC (.int 12))))) (bOr (dB (d2 (oIn true) (dV 2) (dLst (dCons (dC (.int 2)) (dCons (dC (.int 3)) dNil))))) (dB (d2 oGt (dCall oLen (dCons (dV 3) dNil)) (dC (.int 40))))))
    (oRet (dC (.bl false)))
    oNx)
    (oSeq (oFor (iS (dV 3)) (tT (tCons' (tN 4) (tCons' (tN 5) (tCons' (tN 6) tNil'))))
    (oSeq (oIf (bOr (bNot (dB (dChain oLe oLt (dC (.int 0)) (dV 4) (dV 1)))) (bOr (bNot (dB (dChain oLe oLt (dC (.int 0)) (dV 5) (dV 1)))) (bOr (dB (d2 oEq (dV 4) (dV 5))) (dB (d2 oNe (dCall oLen (dCons (dV 6) dNil)) (dV 2))))))
    (oRet (dC (.bl false)))
    oNx)
    (oIf (dB (d2 oNe (dLc [7] (iS (dV 6)) (tN 7) (dB (d2 oLt (dV 7) (dC (.int 0)))) (dV 7)) (dLst dNil)))
    (oRet (dC (.bl false)))
    oNx)))
    (oRet (dC (.bl true))))))
def F_law_is_web : List D → R D := runD 7 (.ok .non) g_law_is_web
def g_law_cut : Env → Out := (oSeq (oSet 1 (d2 oPow (d2 oPow (dC (.int 10)) (dC (.int 60))) (dC (.int 60))))
    (oRet (dLc [2] (iS (dV 0)) (tN 2) bYes (d2 oIx (dLst (dCons (dV 2) (dCons (d2 oAdd (dV 1) (d2 oMod (dV 2) (dV 1))) dNil))) (dCall oInt (dCons (d2 oGe (dV 2) (dV 1)) dNil))))))
def F_law_cut : List D → R D := runD 2 .bad g_law_cut
def g_covers : Env → Out := (oRet (dCall oAll (dCons (dLc [2] (iA itR1 (dCons (dCall oLen (dCons (dV 0) dNil)) dNil)) (tN 2) bYes (d2 oLe (d2 oIx (dV 0) (dV 2)) (d2 oIx (dV 1) (dV 2)))) dNil)))
def F_covers : List D → R D := runD 1 (.ok .non) g_covers
def g_stair_of : Env → Out := (oSeq (oSet 1 (dLst dNil))
    (oSeq (oFor (iS (oL oSort (kL (dV 0)))) (tN 2)
    (oIf (bNot (dB (dCall oAny (dCons (dLc [3] (kL (dV 1)) (tN 3) bYes (dCall F_covers (dCons (dV 3) (dCons (dV 2) dNil)))) dNil))))
    (oMut 1 mAppend (dCons (dV 2) dNil))
    oNx))
    (oRet (dV 1))))
def F_stair_of : List D → R D := runD 3 .bad g_stair_of
def g_is_stair : Env → Out := (oRet (d2 oEq (dV 0) (dCall F_stair_of (dCons (dV 0) dNil))))
def F_is_stair : List D → R D := runD 0 (.ok .non) g_is_stair
def g_law_covers : Env → Out := (oRet (d2 oEq (dLc [2] (iA itR1 (dCons (dCall oLen (dCons (dV 0) dNil)) dNil)) (tN 2) (dB (d2 oGt (d2 oIx (dV 0) (dV 2)) (d2 oIx (dV 1) (dV 2)))) (dV 2)) (dLst dNil)))
def F_law_covers : List D → R D := runD 1 (.ok .non) g_law_covers
def g_law_stair_v2 : Env → Out := (oSeq (oSet 1 (dLst dNil))
    (oSeq (oFor (iS (oL oSortSet (kL (dV 0)))) (tN 2)
    (oIf (dB (d2 oEq (dLc [3] (kL (dV 1)) (tN 3) (dB (dCall F_law_covers (dCons (dV 3) (dCons (dV 2) dNil)))) (dV 3)) (dLst dNil)))
    (oMut 1 mAppend (dCons (dV 2) dNil))
    oNx))
    (oRet (dV 1))))
def F_law_stair_v2 : List D → R D := runD 3 .bad g_law_stair_v2
def g_lowest : Env → Out := (oSeq (oAsg (tT (tCons' (tN 2) (tCons' (tN 3) tNil'))) (dTup (dCons (dV 0) (dCons (dV 1) dNil))))
    (oSeq (oWhile fuel (dB (d2 oGt (dV 3) (dC (.int 0))))
    (oAsg (tT (tCons' (tN 2) (tCons' (tN 3) tNil'))) (dTup (dCons (dV 3) (dCons (d2 oMod (dV 2) (dV 3)) dNil)))))
    (oRet (dTup (dCons (d2 oDiv (dV 0) (dV 2)) (dCons (d2 oDiv (dV 1) (dV 2)) dNil))))))
def F_lowest : List D → R D := runD 2 (.ok .non) g_lowest
def g_is_below : Env → Out := (oSeq (oSet 3 (dTup (dCons (d2 oSub (d2 oIx (dV 1) (dC (.int 0))) (d2 oIx (dV 0) (dC (.int 0)))) (dCons (d2 oSub (d2 oIx (dV 0) (dC (.int 1))) (d2 oIx (dV 1) (dC (.int 1)))) dNil))))
    (oSeq (oSet 4 (dTup (dCons (d2 oSub (d2 oIx (dV 2) (dC (.int 0))) (d2 oIx (dV 1) (dC (.int 0)))) (dCons (d2 oSub (d2 oIx (dV 1) (dC (.int 1))) (d2 oIx (dV 2) (dC (.int 1)))) dNil))))
    (oRet (d2 oGt (d2 oMul (d2 oIx (dV 3) (dC (.int 1))) (d2 oIx (dV 4) (dC (.int 0)))) (d2 oMul (d2 oIx (dV 4) (dC (.int 1))) (d2 oIx (dV 3) (dC (.int 0))))))))
def F_is_below : List D → R D := runD 2 (.ok .non) g_is_below
def g_corners : Env → Out := (oSeq (oIf (dB (d2 oEq (dV 0) (dLst dNil)))
    (oRet (dLst dNil))
    oNx)
    (oSeq (oIf (dB (d2 oNe (dCall oLen (dCons (d2 oIx (dV 0) (dC (.int 0))) dNil)) (dC (.int 2))))
    (oRaise .width)
    oNx)
    (oSeq (oSet 1 (dLst dNil))
    (oSeq (oFor (iS (dV 0)) (tN 2)
    (oSeq (oWhile fuel (bAnd (dB (d2 oGt (dCall oLen (dCons (dV 1) dNil)) (dC (.int 1)))) (bNot (dB (dCall F_is_below (dCons (ixK (kL (dV 1)) (d2 oSub (dCall oLen (dCons (dV 1) dNil)) (dC (.int 2)))) (dCons (ixK (kL (dV 1)) (d2 oSub (dCall oLen (dCons (dV 1) dNil)) (dC (.int 1)))) (dCons (dV 2) dNil)))))))
    (oMut 1 mPop dNil))
    (oMut 1 mAppend (dCons (dV 2) dNil))))
    (oSeq (oSet 3 (dLst (dCons (dTup (dCons (dC (.int 1)) (dCons (dC (.int 1)) dNil))) dNil)))
    (oSeq (oFor (iA itR2 (dCons (dC (.int 1)) (dCons (dCall oLen (dCons (dV 1) dNil)) dNil))) (tN 4)
    (oSeq (oSet 5 (d2 oSub (d2 oIx (ixK (kL (dV 1)) (d2 oSub (dV 4) (dC (.int 1)))) (dC (.int 1))) (d2 oIx (ixK (kL (dV 1)) (dV 4)) (dC (.int 1)))))
    (oMut 3 mAppend (dCons (dCall F_lowest (dCons (dV 5) (dCons (d2 oSub (d2 oAdd (dV 5) (d2 oIx (ixK (kL (dV 1)) (dV 4)) (dC (.int 0)))) (d2 oIx (ixK (kL (dV 1)) (d2 oSub (dV 4) (dC (.int 1)))) (dC (.int 0)))) dNil))) dNil))))
    (oSeq (oMut 3 mAppend (dCons (dTup (dCons (dC (.int 0)) (dCons (dC (.int 1)) dNil))) dNil))
    (oRet (dLc [4, 2] (iA itE (dCons (dV 1) dNil)) (tT (tCons' (tN 4) (tCons' (tN 2) tNil'))) bYes (dTup (dCons (dV 2) (dCons (ixK (kL (dV 3)) (d2 oAdd (dV 4) (dC (.int 1)))) (dCons (ixK (kL (dV 3)) (dV 4)) dNil)))))))))))))
def F_corners : List D → R D := runD 5 .bad g_corners
def g_law_any_stair : Env → Out := (oSeq (oSet 2 (dCall F_law_cell_at (dCons (dV 0) (dCons (dC (.int 0)) dNil))))
    (oSeq (oSet 3 (d2 oIx (dLst (dCons (dC (.int 0)) (dCons (dC (.int 0)) (dCons (d2 oMul (dC (.int 9)) (d2 oPow (dC (.int 10)) (dC (.int 41)))) (dCons (d2 oPow (dC (.int 10)) (dC (.int 38))) dNil))))) (d2 oMod (dCall F_law_mix (dCons (dV 2) (dCons (dC (.int 1)) dNil))) (dC (.int 4)))))
    (oSeq (oSet 4 (d2 oIx (dLst (dCons (dC (.int 4)) (dCons (dC (.int 12)) (dCons (dC (.int 40)) (dCons (dC (.int 1000)) dNil))))) (d2 oMod (dCall F_law_mix (dCons (dV 2) (dCons (dC (.int 2)) dNil))) (dC (.int 4)))))
    (oSeq (oSet 5 (dLst dNil))
    (oSeq (oFor (iA itR1 (dCons (d2 oMod (dCall F_law_mix (dCons (dV 2) (dCons (dC (.int 3)) dNil))) (dC (.int 41))) dNil)) (tN 6)
    (oSeq (oSet 7 (dLst dNil))
    (oSeq (oFor (iA itR1 (dCons (dV 1) dNil)) (tN 8)
    (oSeq (oSet 9 (dCall F_law_mix (dCons (dCall F_law_cell_at (dCons (dV 0) (dCons (d2 oAdd (dC (.int 1)) (d2 oMod (dV 6) (dC (.int 30)))) dNil))) (dCons (d2 oAdd (d2 oMod (d2 oMul (dC (.int 3)) (dV 6)) (dC (.int 60))) (dV 8)) dNil))))
    (oMut 7 mAppend (dCons (d2 oAdd (d2 oMod (dV 9) (dV 4)) (d2 oMul (dV 3) (d2 oMod (d2 oDiv (dV 9) (dC (.int 100000))) (dC (.int 2))))) dNil))))
    (oSeq (oIf (bAnd (dB (d2 oEq (d2 oMod (dCall F_law_mix (dCons (dV 2) (dCons (dC (.int 4)) dNil))) (dC (.int 2))) (dC (.int 1)))) (dB (d2 oEq (dV 1) (dC (.int 2)))))
    (oSetItem 7 (dC (.int 1)) (dCall oMax (dCons (dC (.int 0)) (dCons (d2 oSub (d2 oSub (d2 oAdd (dV 4) (d2 oDiv (dV 4) (dC (.int 2)))) (ixK (kL (dV 7)) (dC (.int 0)))) (d2 oMul (d2 oMod (ixK (kL (dV 7)) (dC (.int 1))) (dC (.int 4))) (d2 oMod (dV 6) (dC (.int 3))))) dNil))))
    oNx)
    (oMut 5 mAppend (dCons (oL tupK (kL (dV 7))) dNil))))))
    (oRet (dCall F_law_stair_v2 (dCons (dV 5) dNil))))))))
def F_law_any_stair : List D → R D := runD 8 .bad g_law_any_stair
def g_law_any_stair_v2 : Env → Out := (oSeq (oSet 2 (dCall F_law_cell_at (dCons (dV 0) (dCons (dC (.int 0)) dNil))))
    (oSeq (oSet 3 (d2 oIx (dLst (dCons (dC (.int 0)) (dCons (dC (.int 0)) (dCons (dC (.int 0)) (dCons (d2 oPow (dC (.int 10)) (dC (.int 38))) dNil))))) (d2 oMod (dCall F_law_mix (dCons (dV 2) (dCons (dC (.int 1)) dNil))) (dC (.int 4)))))
    (oSeq (oSet 4 (d2 oIx (dLst (dCons (dC (.int 4)) (dCons (dC (.int 12)) (dCons (dC (.int 40)) (dCons (dC (.int 1000)) dNil))))) (d2 oMod (dCall F_law_mix (dCons (dV 2) (dCons (dC (.int 2)) dNil))) (dC (.int 4)))))
    (oSeq (oSet 5 (dLst dNil))
    (oSeq (oFor (iA itR1 (dCons (d2 oMod (dCall F_law_mix (dCons (dV 2) (dCons (dC (.int 3)) dNil))) (dC (.int 41))) dNil)) (tN 6)
    (oSeq (oSet 7 (dLst dNil))
    (oSeq (oFor (iA itR1 (dCons (dV 1) dNil)) (tN 8)
    (oSeq (oSet 9 (dCall F_law_mix (dCons (dCall F_law_cell_at (dCons (dV 0) (dCons (d2 oAdd (dC (.int 1)) (d2 oMod (dV 6) (dC (.int 30)))) dNil))) (dCons (d2 oAdd (d2 oMod (d2 oMul (dC (.int 3)) (dV 6)) (dC (.int 60))) (dV 8)) dNil))))
    (oMut 7 mAppend (dCons (d2 oAdd (d2 oMod (dV 9) (dV 4)) (d2 oMul (dV 3) (d2 oMod (d2 oDiv (dV 9) (dC (.int 100000))) (dC (.int 2))))) dNil))))
    (oSeq (oIf (bAnd (dB (d2 oEq (d2 oMod (dCall F_law_mix (dCons (dV 2) (dCons (dC (.int 4)) dNil))) (dC (.int 2))) (dC (.int 1)))) (dB (d2 oEq (dV 1) (dC (.int 2)))))
    (oSetItem 7 (dC (.int 1)) (dCall oMax (dCons (dC (.int 0)) (dCons (d2 oSub (d2 oSub (d2 oAdd (dV 4) (d2 oDiv (dV 4) (dC (.int 2)))) (ixK (kL (dV 7)) (dC (.int 0)))) (d2 oMul (d2 oMod (ixK (kL (dV 7)) (dC (.int 1))) (dC (.int 4))) (d2 oMod (dV 6) (dC (.int 3))))) dNil))))
    oNx)
    (oMut 5 mAppend (dCons (oL tupK (kL (dV 7))) dNil))))))
    (oRet (dCall F_law_stair_v2 (dCons (dV 5) dNil))))))))
def F_law_any_stair_v2 : List D → R D := runD 8 .bad g_law_any_stair_v2
def g_covers_within : Env → Out := (oSeq (oAsg (tT (tCons' (tN 3) (tCons' (tN 4) tNil'))) (dV 2))
    (oRet (dCall oAll (dCons (dLc [5] (iA itR1 (dCons (dCall oLen (dCons (dV 0) dNil)) dNil)) (tN 5) bYes (d2 oLe (d2 oMul (d2 oIx (dV 0) (dV 5)) (dV 4)) (d2 oMul (d2 oIx (dV 1) (dV 5)) (d2 oAdd (dV 3) (dV 4))))) dNil))))
def F_covers_within : List D → R D := runD 3 (.ok .non) g_covers_within
def g_is_picked : Env → Out := (oSeq (oIf (bNot (dB (dCall oAll (dCons (dLc [3] (iS (dV 1)) (tN 3) bYes (d2 (oIn false) (dV 3) (dV 0))) dNil))))
    (oRet (dC (.bl false)))
    oNx)
    (oRet (dCall oAll (dCons (dLc [2] (iA itR2 (dCons (dC (.int 1)) (dCons (dCall oLen (dCons (dV 1) dNil)) dNil))) (tN 2) bYes (d2 oLtG (d2 oIx (dV 1) (d2 oSub (dV 2) (dC (.int 1)))) (d2 oIx (dV 1) (dV 2)))) dNil))))
def F_is_picked : List D → R D := runD 2 (.ok .non) g_is_picked
def g_is_cover : Env → Out := (oSeq (oIf (bNot (dB (dCall F_is_picked (dCons (dV 0) (dCons (dV 1) dNil)))))
    (oRet (dC (.bl false)))
    oNx)
    (oRet (dCall oAll (dCons (dLc [3] (iS (dV 0)) (tN 3) bYes (dCall oAny (dCons (dLc [4] (iS (dV 1)) (tN 4) bYes (dCall F_covers_within (dCons (dV 4) (dCons (dV 3) (dCons (dV 2) dNil))))) dNil))) dNil))))
def F_is_cover : List D → R D := runD 2 (.ok .non) g_is_cover
def g_are_apart : Env → Out := (oSeq (oIf (bNot (dB (dCall F_is_picked (dCons (dV 0) (dCons (dV 1) dNil)))))
    (oRet (dC (.bl false)))
    oNx)
    (oSeq (oFor (iS (dV 0)) (tN 3)
    (oIf (dB (d2 oGt (dCall oLen (dCons (dLc [4] (iS (dV 1)) (tN 4) (dB (dCall F_covers_within (dCons (dV 3) (dCons (dV 4) (dCons (dV 2) dNil))))) (dV 4)) dNil)) (dC (.int 1))))
    (oRet (dC (.bl false)))
    oNx))
    (oRet (dC (.bl true)))))
def F_are_apart : List D → R D := runD 2 (.ok .non) g_are_apart
def g_law_near : Env → Out := (oSeq (oFor (iA itR1 (dCons (dCall oLen (dCons (dV 0) dNil)) dNil)) (tN 3)
    (oIf (dB (d2 oGt (d2 oMul (d2 oIx (dV 0) (dV 3)) (d2 oIx (dV 2) (dC (.int 1)))) (d2 oMul (d2 oIx (dV 1) (dV 3)) (d2 oAdd (d2 oIx (dV 2) (dC (.int 0))) (d2 oIx (dV 2) (dC (.int 1)))))))
    (oRet (dC (.bl false)))
    oNx))
    (oRet (dC (.bl true))))
def F_law_near : List D → R D := runD 1 (.ok .non) g_law_near
def g_law_is_cover : Env → Out := (oSeq (oIf (bOr (dB (d2 oNe (dLc [3] (iS (dV 1)) (tN 3) (dB (d2 (oIn true) (dV 3) (dV 0))) (dV 3)) (dLst dNil))) (dB (d2 oNe (dV 1) (oL oSortSet (kL (dV 1))))))
    (oRet (dC (.bl false)))
    oNx)
    (oSeq (oFor (iS (dV 0)) (tN 3)
    (oIf (dB (d2 oEq (dLc [4] (iS (dV 1)) (tN 4) (dB (dCall F_law_near (dCons (dV 4) (dCons (dV 3) (dCons (dV 2) dNil))))) (dV 4)) (dLst dNil)))
    (oRet (dC (.bl false)))
    oNx))
    (oRet (dC (.bl true)))))
def F_law_is_cover : List D → R D := runD 2 (.ok .non) g_law_is_cover
def g_law_are_apart : Env → Out := (oSeq (oIf (bOr (dB (d2 oNe (dLc [4] (iS (dV 1)) (tN 4) (dB (d2 (oIn true) (dV 4) (dV 0))) (dV 4)) (dLst dNil))) (dB (d2 oNe (dV 1) (oL oSortSet (kL (dV 1))))))
    (oRet (dC (.bl false)))
    oNx)
    (oSeq (oFor (iS (dV 0)) (tN 3)
    (oIf (dB (d2 oGt (dCall oLen (dCons (dLc [4] (iS (dV 1)) (tN 4) (dB (dCall F_law_near (dCons (dV 3) (dCons (dV 4) (dCons (dV 2) dNil))))) (dV 4)) dNil)) (dC (.int 1))))
    (oRet (dC (.bl false)))
    oNx))
    (oRet (dC (.bl true)))))
def F_law_are_apart : List D → R D := runD 2 (.ok .non) g_law_are_apart
def g_sure : Env → Out := (oIf (bNot (dB (dV 0)))
    (oRaise .text)
    oNx)
def F_sure : List D → R D := runD 0 (.ok .non) g_sure
def g_count_in : Env → Out := (oSeq (oDrop (dCall F_sure (dCons (dChain oLt oLe (dC (.int 0)) (dCall oLen (dCons (dV 0) dNil)) (dC (.int 40))) dNil)))
    (oSeq (oFor (iStrs (dV 0)) (tN 1)
    (oDrop (dCall F_sure (dCons (d2 (oInS false) (dV 1) (dC (.str (PySem.Str.ofString "0123456789")))) dNil))))
    (oSeq (oDrop (dCall F_sure (dCons (vOr (d2 oNe (d2 oIx (dV 0) (dC (.int 0))) (dC (.str (PySem.Str.ofString "0")))) (d2 oEq (dV 0) (dC (.str (PySem.Str.ofString "0"))))) dNil)))
    (oRet (dCall oInt (dCons (dV 0) dNil))))))
def F_count_in : List D → R D := runD 1 (.ok .non) g_count_in
def g_number_in : Env → Out := (oSeq (oIf (dB (d2 oNe (slA (dV 0) pNo (pSo (dC (.int 1)))) (dC (.str (PySem.Str.ofString "-")))))
    (oRet (dCall F_count_in (dCons (dV 0) dNil)))
    oNx)
    (oSeq (oDrop (dCall F_sure (dCons (d2 oNe (dV 0) (dC (.str (PySem.Str.ofString "-0")))) dNil)))
    (oRet (d2 oSub (dC (.int 0)) (dCall F_count_in (dCons (slA (dV 0) (pSo (dC (.int 1))) pNo) dNil))))))
def F_number_in : List D → R D := runD 0 (.ok .non) g_number_in
def g_show_web : Env → Out := (oSeq (oAsg (tT (tCons' (tN 1) (tCons' (tN 2) (tCons' (tN 3) tNil')))) (dV 0))
    (oSeq (oSet 4 (dLst (dCons (d2 oAdd (d2 oAdd (d2 oAdd (dC (.str (PySem.Str.ofString "places "))) (dCall oStr (dCons (dV 1) dNil))) (dC (.str (PySem.Str.ofString " prices ")))) (dCall oStr (dCons (dV 2) dNil))) dNil)))
    (oSeq (oFor (iS (dV 3)) (tT (tCons' (tN 5) (tCons' (tN 6) (tCons' (tN 7) tNil'))))
    (oMut 4 mAppend (dCons (dJoin (dC (.str (PySem.Str.ofString " "))) (d2 oAdd (dLst (dCons (dC (.str (PySem.Str.ofString "step"))) (dCons (dCall oStr (dCons (dV 5) dNil)) (dCons (dCall oStr (dCons (dV 6) dNil)) dNil)))) (dLc [8] (iS (dV 7)) (tN 8) bYes (dCall oStr (dCons (dV 8) dNil))))) dNil)))
    (oRet (dJoin (dC (.str (PySem.Str.ofString "\n"))) (dV 4))))))
def F_show_web : List D → R D := runD 8 (.ok .non) g_show_web
def g_read_web : Env → Out := (oSeq (oSet 1 (dLc [7] (iS (dSplit (dV 0) (dC (.str (PySem.Str.ofString "\n"))))) (tN 7) bYes (dSplit (dV 7) (dC (.str (PySem.Str.ofString " "))))))
    (oSeq (oDrop (dCall F_sure (dCons (vAnd (d2 oEq (dCall oLen (dCons (d2 oIx (dV 1) (dC (.int 0))) dNil)) (dC (.int 4))) (vAnd (d2 oEq (d2 oIx (d2 oIx (dV 1) (dC (.int 0))) (dC (.int 0))) (dC (.str (PySem.Str.ofString "places")))) (d2 oEq (d2 oIx (d2 oIx (dV 1) (dC (.int 0))) (dC (.int 2))) (dC (.str (PySem.Str.ofString "prices")))))) dNil)))
    (oSeq (oSet 2 (dCall F_number_in (dCons (d2 oIx (d2 oIx (dV 1) (dC (.int 0))) (dC (.int 1))) dNil)))
    (oSeq (oSet 3 (dCall F_number_in (dCons (d2 oIx (d2 oIx (dV 1) (dC (.int 0))) (dC (.int 3))) dNil)))
    (oSeq (oSet 4 (dLst dNil))
    (oSeq (oFor (iS (slA (dV 1) (pSo (dC (.int 1))) pNo)) (tN 5)
    (oSeq (oDrop (dCall F_sure (dCons (vAnd (d2 oEq (d2 oIx (dV 5) (dC (.int 0))) (dC (.str (PySem.Str.ofString "step")))) (vAnd (d2 oGe (dV 3) (dC (.int 0))) (d2 oEq (dCall oLen (dCons (dV 5) dNil)) (d2 oAdd (dC (.int 3)) (dV 3))))) dNil)))
    (oSeq (oSet 6 (dLc [8] (iS (slA (dV 5) (pSo (dC (.int 1))) pNo)) (tN 8) bYes (dCall F_number_in (dCons (dV 8) dNil))))
    (oMut 4 mAppend (dCons (dTup (dCons (d2 oIx (dV 6) (dC (.int 0))) (dCons (d2 oIx (dV 6) (dC (.int 1))) (dCons (d1 oTupOf (slA (dV 6) (pSo (dC (.int 2))) pNo)) dNil)))) dNil)))))
    (oSeq (oDrop (dCallL F_check_web (dCons (dTup (dCons (dV 2) (dCons (dV 3) (dCons (dV 4) dNil)))) dNil)))
    (oRet (dTup (dCons (dV 2) (dCons (dV 3) (dCons (dV 4) dNil))))))))))))
def F_read_web : List D → R D := runD 8 .bad g_read_web
def g_law_mix_v2 : Env → Out := (oSeq (oIf (dB (d2 oGe (dV 0) (d2 oPow (dC (.int 10)) (dC (.int 18)))))
    (oSeq (oFor (iA itR1 (dCons (dV 1) dNil)) (tN 2)
    (oSet 0 (d2 oDiv (dV 0) (d2 oPow (dC (.int 10)) (dC (.int 6))))))
    (oRet (d2 oMod (dV 0) (d2 oPow (dC (.int 10)) (dC (.int 6))))))
    oNx)
    (oSeq (oSet 3 (d2 oMod (d2 oMul (d2 oAdd (d2 oAdd (d2 oMod (dV 0) (dC (.int 1000003))) (d2 oMul (d2 oMul (dV 1) (dV 1)) (dC (.int 7919)))) (dV 1)) (dC (.int 48271))) (dC (.int 2147483629))))
    (oSeq (oSet 3 (d2 oMod (d2 oMul (dV 3) (dV 3)) (dC (.int 2147483587))))
    (oRet (d2 oDiv (d2 oMod (d2 oMul (dV 3) (d2 oAdd (dV 3) (dC (.int 2)))) (dC (.int 2147483579))) (dC (.int 7)))))))
def F_law_mix_v2 : List D → R D := runD 2 (.ok .non) g_law_mix_v2
def g_law_whole : Env → Out := (oRet (vAnd (d1 (oIsi .int) (dV 0)) (vNot (d1 (oIsi .bool) (dV 0)))))
def F_law_whole : List D → R D := runD 0 (.ok .non) g_law_whole
def g_law_web_text : Env → Out := (oSeq (oSet 1 (d2 oAdd (d2 oAdd (d2 oAdd (dC (.str (PySem.Str.ofString "places "))) (dCall oStr (dCons (d2 oIx (dV 0) (dC (.int 0))) dNil))) (dC (.str (PySem.Str.ofString " prices ")))) (dCall oStr (dCons (d2 oIx (dV 0) (dC (.int 1))) dNil))))
    (oSeq (oFor (iS (d2 oIx (dV 0) (dC (.int 2)))) (tT (tCons' (tN 2) (tCons' (tN 3) (tCons' (tN 4) tNil'))))
    (oSet 1 (d2 oAdd (d2 oAdd (dV 1) (dC (.str (PySem.Str.ofString "\nstep ")))) (dJoin (dC (.str (PySem.Str.ofString " "))) (dLc [5] (iS (d2 oAdd (dTup (dCons (dV 2) (dCons (dV 3) dNil))) (dV 4))) (tN 5) bYes (dCall oStr (dCons (dV 5) dNil)))))))
    (oRet (dV 1))))
def F_law_web_text : List D → R D := runD 5 (.ok .non) g_law_web_text
def g_law_same : Env → Out := (oSeq (oIf (bOr (bNot (dB (d1 (oIsi .tuple) (dV 0)))) (bOr (dB (d2 oNe (dCall oLen (dCons (dV 0) dNil)) (dC (.int 3)))) (bOr (dB (d2 oNe (dV 0) (dV 1))) (bNot (dB (d1 (oIsi .list) (d2 oIx (dV 0) (dC (.int 2)))))))))
    (oRet (dC (.bl false)))
    oNx)
    (oSeq (oFor (iS (d2 oIx (dV 0) (dC (.int 2)))) (tT (tCons' (tN 2) (tCons' (tN 3) (tCons' (tN 4) tNil'))))
    (oSeq (oSet 5 (d2 oAdd (dLst (dCons (dV 2) (dCons (dV 3) (dCons (d2 oIx (dV 0) (dC (.int 0))) (dCons (d2 oIx (dV 0) (dC (.int 1))) dNil))))) (d1 oLstOf (dV 4))))
    (oIf (bOr (bNot (dB (d1 (oIsi .tuple) (dV 4)))) (dB (d2 oGt (dCall oLen (dCons (dLc [6] (iS (dV 5)) (tN 6) (bNot (dB (dCall F_law_whole (dCons (dV 6) dNil)))) (dV 6)) dNil)) (dC (.int 0)))))
    (oRet (dC (.bl false)))
    oNx)))
    (oRet (vAnd (dCall F_law_whole (dCons (d2 oIx (dV 0) (dC (.int 0))) dNil)) (dCall F_law_whole (dCons (d2 oIx (dV 0) (dC (.int 1))) dNil))))))
def F_law_same : List D → R D := runD 5 (.ok .non) g_law_same
def g_law_good : Env → Out := (oSeq (oSet 1 (dTup (dCons (d2 oIx (dV 0) (dC (.int 0))) (dCons (d2 oIx (dV 0) (dC (.int 1))) (dCons (d1 oLstOf (d2 oIx (dV 0) (dC (.int 2)))) dNil)))))
    (oSeq (oSet 2 (dCall F_law_web_text (dCons (dV 0) dNil)))
    (oSeq (oSet 3 (dCall F_show_web (dCons (dV 1) dNil)))
    (oSeq (oIf (bOr (bNot (dB (d1 (oIsi .str) (dV 3)))) (bOr (dB (d2 oNe (dV 3) (dV 2))) (dB (d2 oNe (dV 1) (dV 0)))))
    (oRet (dC (.bl false)))
    oNx)
    (oSeq (oFor (iA itR1 (dCons (dC (.int 2)) dNil)) (tN 4)
    (oSeq (oSet 5 (dCall F_read_web (dCons (dV 2) dNil)))
    (oSeq (oIf (bNot (dB (dCallL F_law_same (dCons (dV 5) (dCons (dV 0) dNil)))))
    (oRet (dC (.bl false)))
    oNx)
    (oMutK 5 2 mAppend (dCons (dTup (dCons (dC (.int 0)) (dCons (dC (.int 0)) (dCons (dTup dNil) dNil)))) dNil)))))
    (oRet (dC (.bl true))))))))
def F_law_good : List D → R D := runD 5 (.ok .non) g_law_good
def g_row_shown : Env → Out := (oRet (dJoin (dC (.str (PySem.Str.ofString "/"))) (dLc [1] (iS (dV 0)) (tN 1) bYes (dCall oStr (dCons (dV 1) dNil)))))
def F_row_shown : List D → R D := runD 1 (.ok .non) g_row_shown
def g_row_in : Env → Out := (oSeq (oSet 1 (dSplit (dV 0) (dC (.str (PySem.Str.ofString "/")))))
    (oSeq (oDrop (dCall F_sure (dCons (vOr (d2 oEq (dCall oLen (dCons (dV 1) dNil)) (dC (.int 2))) (d2 oEq (dCall oLen (dCons (dV 1) dNil)) (dC (.int 3)))) dNil)))
    (oRet (oL tupK (kL (dLc [2] (iS (dV 1)) (tN 2) bYes (dCall F_number_in (dCons (dV 2) dNil))))))))
def F_row_in : List D → R D := runD 2 (.ok .non) g_row_in
def g_show_stair : Env → Out := (oSeq (oIf (dB (d2 oEq (dV 0) (dLst dNil)))
    (oRet (dC (.str (PySem.Str.ofString "-"))))
    oNx)
    (oRet (dJoin (dC (.str (PySem.Str.ofString " "))) (dLc [1] (iS (dV 0)) (tN 1) bYes (dCall F_row_shown (dCons (dV 1) dNil))))))
def F_show_stair : List D → R D := runD 1 (.ok .non) g_show_stair
def g_read_stair : Env → Out := (oSeq (oIf (dB (d2 oEq (dV 0) (dC (.str (PySem.Str.ofString "-")))))
    (oRet (dLst dNil))
    oNx)
    (oSeq (oSet 1 (dLc [3] (iS (dSplit (dV 0) (dC (.str (PySem.Str.ofString " "))))) (tN 3) bYes (dCall F_row_in (dCons (dV 3) dNil))))
    (oSeq (oForP 1 (tN 2)
    (oDrop (dCall F_sure (dCons (d2 oEq (dCall oLen (dCons (dV 2) dNil)) (dCall oLen (dCons (ixK (kL (dV 1)) (dC (.int 0))) dNil))) dNil))))
    (oSeq (oDrop (dCall F_sure (dCons (dCallL F_is_stair (dCons (dV 1) dNil)) dNil)))
    (oRet (dV 1))))))
def F_read_stair : List D → R D := runD 3 .bad g_read_stair
def g_show_way : Env → Out := (oSeq (oIf (dB (d2 oEq (dV 0) (dLst dNil)))
    (oRet (dC (.str (PySem.Str.ofString "-"))))
    oNx)
    (oRet (dJoin (dC (.str (PySem.Str.ofString " "))) (dLc [1] (iS (dV 0)) (tN 1) bYes (dCall oStr (dCons (dV 1) dNil))))))
def F_show_way : List D → R D := runD 1 (.ok .non) g_show_way
def g_read_way : Env → Out := (oSeq (oIf (dB (d2 oEq (dV 0) (dC (.str (PySem.Str.ofString "-")))))
    (oRet (dLst dNil))
    oNx)
    (oRet (dLc [1] (iS (dSplit (dV 0) (dC (.str (PySem.Str.ofString " "))))) (tN 1) bYes (dCall F_count_in (dCons (dV 1) dNil)))))
def F_read_way : List D → R D := runD 1 .bad g_read_way
def g_law_covers_v2 : Env → Out := (oRet (d2 oEq (dCall oLen (dCons (dLc [2] (iA itR1 (dCons (dCall oLen (dCons (dV 0) dNil)) dNil)) (tN 2) (dB (d2 oGt (d2 oIx (dV 0) (dV 2)) (d2 oIx (dV 1) (dV 2)))) (dV 2)) dNil)) (dC (.int 0))))
def F_law_covers_v2 : List D → R D := runD 1 (.ok .non) g_law_covers_v2
def g_law_stair_of : Env → Out := (oSeq (oSet 1 (dLst dNil))
    (oSeq (oFor (iS (oL oSortSet (kL (dV 0)))) (tN 2)
    (oIf (dB (d2 oEq (dCall oLen (dCons (dLc [3] (kL (dV 1)) (tN 3) (dB (dCall F_law_covers_v2 (dCons (dV 3) (dCons (dV 2) dNil)))) (dV 3)) dNil)) (dC (.int 0))))
    (oMut 1 mAppend (dCons (dV 2) dNil))
    oNx))
    (oRet (dV 1))))
def F_law_stair_of : List D → R D := runD 3 .bad g_law_stair_of
def g_law_drawn_stair : Env → Out := (oSeq (oSet 2 (dCall F_law_mix_v2 (dCons (dCall F_law_cell_at (dCons (dV 0) (dCons (dV 1) dNil))) (dCons (dC (.int 0)) dNil))))
    (oSeq (oSet 3 (d2 oAdd (dC (.int 2)) (d2 oMod (dV 2) (dC (.int 2)))))
    (oSeq (oSet 4 (d2 oIx (dLst (dCons (dC (.int 1)) (dCons (dC (.int 1)) (dCons (dC (.int 1)) (dCons (d2 oPow (dC (.int 10)) (dC (.int 30))) (dCons (dC (.int 1)) (dCons (d2 oPow (dC (.int 10)) (dC (.int 38))) (dCons (dC (.int 1)) (dCons (dC (.int 1)) dNil))))))))) (d2 oMod (d2 oDiv (dV 2) (dC (.int 2))) (dC (.int 8)))))
    (oSeq (oSet 5 (dLst dNil))
    (oSeq (oFor (iA itR1 (dCons (d2 oMod (d2 oDiv (dV 2) (dC (.int 64))) (dC (.int 40))) dNil)) (tN 6)
    (oSeq (oSet 7 (dCall F_law_mix_v2 (dCons (dCall F_law_cell_at (dCons (dV 0) (dCons (d2 oAdd (d2 oAdd (dV 1) (dC (.int 1))) (d2 oDiv (dV 6) (dC (.int 8)))) dNil))) (dCons (d2 oMod (dV 6) (dC (.int 8))) dNil))))
    (oSeq (oSet 8 (dLc [9] (iS (slA (dLst (dCons (dC (.int 1)) (dCons (dC (.int 41)) (dCons (dC (.int 1700)) dNil)))) pNo (pSo (dV 3)))) (tN 9) bYes (d2 oSub (d2 oMul (d2 oMod (d2 oDiv (dV 7) (dV 9)) (dC (.int 40))) (dV 4)) (d2 oMul (d2 oMod (d2 oDiv (dV 2) (dC (.int 16))) (dC (.int 4))) (dC (.int 9))))))
    (oSeq (oIf (dB (d2 oEq (d2 oMod (dV 6) (dC (.int 2))) (dC (.int 1))))
    (oSetItem 8 (dC (.int 1)) (d2 oSub (d2 oMul (dC (.int 60)) (dV 4)) (ixK (kL (dV 8)) (dC (.int 0)))))
    oNx)
    (oMut 5 mAppend (dCons (oL tupK (kL (dV 8))) dNil))))))
    (oRet (dCall F_law_stair_of (dCons (dV 5) dNil))))))))
def F_law_drawn_stair : List D → R D := runD 8 .bad g_law_drawn_stair
def g_law_row_text : Env → Out := (oRet (dJoin (dC (.str (PySem.Str.ofString "/"))) (dLc [1] (iS (dV 0)) (tN 1) bYes (dCall oStr (dCons (dV 1) dNil)))))
def F_law_row_text : List D → R D := runD 1 (.ok .non) g_law_row_text
def g_law_stair_text : Env → Out := (oRet (d2 oAdd (dJoin (dC (.str (PySem.Str.ofString " "))) (dLc [1] (iS (dV 0)) (tN 1) bYes (dCall F_law_row_text (dCons (dV 1) dNil)))) (d2 oMulS (dC (.str (PySem.Str.ofString "-"))) (dCall oInt (dCons (d2 oEq (dV 0) (dLst dNil)) dNil)))))
def F_law_stair_text : List D → R D := runD 1 (.ok .non) g_law_stair_text
def g_law_way_text : Env → Out := (oRet (d2 oAdd (dJoin (dC (.str (PySem.Str.ofString " "))) (dLc [1] (iS (dV 0)) (tN 1) bYes (dCall oStr (dCons (dV 1) dNil)))) (d2 oMulS (dC (.str (PySem.Str.ofString "-"))) (dCall oInt (dCons (d2 oEq (dV 0) (dLst dNil)) dNil)))))
def F_law_way_text : List D → R D := runD 1 (.ok .non) g_law_way_text
def g_law_same_v2 : Env → Out := (oSeq (oIf (bOr (dB (d2 oNe (d2 oIx (dV 0) (dC (.int 0))) (dV 1))) (bOr (dB (d2 oNe (d2 oIx (dV 0) (dC (.int 1))) (dV 2))) (bOr (bNot (dB (d1 (oIsi .list) (d2 oIx (dV 0) (dC (.int 0)))))) (bNot (dB (d1 (oIsi .list) (d2 oIx (dV 0) (dC (.int 1)))))))))
    (oRet (dC (.bl false)))
    oNx)
    (oSeq (oSet 3 (d1 oLstOf (d2 oIx (dV 0) (dC (.int 1)))))
    (oSeq (oFor (iS (d2 oIx (dV 0) (dC (.int 0)))) (tN 4)
    (oSeq (oIf (bNot (dB (d1 (oIsi .tuple) (dV 4))))
    (oRet (dC (.bl false)))
    oNx)
    (oMut 3 mExtT (dCons (dV 4) dNil))))
    (oRet (d2 oEq (dCall oLen (dCons (dLc [5] (kL (dV 3)) (tN 5) (bNot (dB (dCall F_law_whole (dCons (dV 5) dNil)))) (dV 5)) dNil)) (dC (.int 0)))))))
def F_law_same_v2 : List D → R D := runD 3 (.ok .non) g_law_same_v2
def g_law_good_v2 : Env → Out := (oSeq (oSet 2 (dLst (dCons (d1 oLstOf (dV 0)) (dCons (d1 oLstOf (dV 1)) dNil))))
    (oSeq (oSet 3 (dLst (dCons (dCall F_law_stair_text (dCons (dV 0) dNil)) (dCons (dCall F_law_way_text (dCons (dV 1) dNil)) dNil))))
    (oSeq (oSet 4 (dLst (dCons (dCall F_show_stair (dCons (d2 oIx (dV 2) (dC (.int 0))) dNil)) (dCons (dCall F_show_way (dCons (d2 oIx (dV 2) (dC (.int 1))) dNil)) dNil))))
    (oSeq (oIf (bOr (bNot (dB (d1 (oIsi .str) (d2 oIx (dV 4) (dC (.int 0)))))) (bOr (bNot (dB (d1 (oIsi .str) (d2 oIx (dV 4) (dC (.int 1)))))) (bOr (dB (d2 oNe (dV 4) (dV 3))) (dB (d2 oNe (dV 2) (dLst (dCons (dV 0) (dCons (dV 1) dNil))))))))
    (oRet (dC (.bl false)))
    oNx)
    (oSeq (oFor (iA itR1 (dCons (dC (.int 2)) dNil)) (tN 5)
    (oSeq (oSet 6 (dLst (dCons (dCall F_read_stair (dCons (d2 oIx (dV 3) (dC (.int 0))) dNil)) (dCons (dCall F_read_way (dCons (d2 oIx (dV 3) (dC (.int 1))) dNil)) dNil))))
    (oSeq (oIf (bNot (dB (dCallL F_law_same_v2 (dCons (dV 6) (dCons (dV 0) (dCons (dV 1) dNil))))))
    (oRet (dC (.bl false)))
    oNx)
    (oSeq (oMutN 6 0 mAppend (dCons (dTup (dCons (dC (.int 0)) (dCons (dC (.int 0)) dNil))) dNil))
    (oMutN 6 1 mAppend (dCons (dC (.int 0)) dNil))))))
    (oRet (dC (.bl true))))))))
def F_law_good_v2 : List D → R D := runD 5 (.ok .non) g_law_good_v2
def g_law_long_right : Env → Out := (oSeq (oSet 0 (d2 oPow (dC (.int 10)) (dC (.int 39))))
    (oSeq (oSet 1 (dLc [3] (iA itR1 (dCons (dC (.int 120)) dNil)) (tN 3) bYes (dTup (dCons (d2 oAdd (dV 0) (dV 3)) (dCons (d2 oSub (d2 oAdd (dV 0) (dC (.int 200))) (dV 3)) (dCons (dV 0) dNil))))))
    (oSeq (oIf (bNot (dB (dCall F_law_good_v2 (dCons (dV 1) (dCons (dLc [3] (iA itR1 (dCons (dC (.int 400)) dNil)) (tN 3) bYes (d2 oMod (d2 oMul (dV 3) (dC (.int 7))) (dC (.int 40)))) dNil)))))
    (oRet (dC (.bl false)))
    oNx)
    (oSeq (oSet 2 (dLc [3] (iA itR1 (dCons (dC (.int 300)) dNil)) (tN 3) bYes (dTup (dCons (dV 3) (dCons (d2 oSub (dC (.int 999)) (dV 3)) dNil)))))
    (oRet (d2 oEq (dCall F_read_stair (dCons (dCall F_law_stair_text (dCons (dV 2) dNil)) dNil)) (dV 2)))))))
def F_law_long_right : List D → R D := runD 4 (.ok .non) g_law_long_right
def g_law_k72 : Env → Out := (oSeq (oSet 0 (dCall F_law_cut (dCons (dV 0) dNil)))
    (oSeq (oIf (bNot (dB (dCall F_law_long_right dNil)))
    (oRet (dC (.bl false)))
    oNx)
    (oSeq (oSet 1 (dLst dNil))
    (oSeq (oFor (iS (dLst (dCons (dC (.int 0)) (dCons (dC (.int 20)) dNil)))) (tN 2)
    (oSeq (oSet 3 (dCall F_law_mix_v2 (dCons (dCall F_law_cell_at (dCons (dV 0) (dCons (d2 oAdd (dV 2) (dC (.int 8))) dNil))) (dCons (dC (.int 0)) dNil))))
    (oSeq (oSet 4 (dLc [7] (iA itR1 (dCons (d2 oMod (dV 3) (dC (.int 61))) dNil)) (tN 7) bYes (d2 oMod (dCall F_law_mix_v2 (dCons (dV 3) (dCons (dV 7) dNil))) (dC (.int 40)))))
    (oMut 1 mAppend (dCons (dTup (dCons (dCall F_law_drawn_stair (dCons (dV 0) (dCons (dV 2) dNil))) (dCons (dV 4) dNil))) dNil)))))
    (oSeq (oSet 5 (dLst (dCons (dCall F_read_stair (dCons (dCall F_law_stair_text (dCons (d2 oIx (ixK (kL (dV 1)) (dC (.int 0))) (dC (.int 0))) dNil)) dNil)) (dCons (dCall F_read_way (dCons (dCall F_law_way_text (dCons (d2 oIx (ixK (kL (dV 1)) (dC (.int 0))) (dC (.int 1))) dNil)) dNil)) dNil))))
    (oSeq (oFor (iS (dLst (dCons (ixK (kL (dV 1)) (dC (.int 1))) (dCons (ixK (kL (dV 1)) (dC (.int 0))) dNil)))) (tT (tCons' (tN 6) (tCons' (tN 4) tNil')))
    (oIf (bOr (bNot (dB (dCall F_law_good_v2 (dCons (dV 6) (dCons (dV 4) dNil))))) (bNot (dB (dCall F_law_same_v2 (dCons (dV 5) (dCons (d2 oIx (ixK (kL (dV 1)) (dC (.int 0))) (dC (.int 0))) (dCons (d2 oIx (ixK (kL (dV 1)) (dC (.int 0))) (dC (.int 1))) dNil)))))))
    (oRet (dC (.bl false)))
    oNx))
    (oRet (dC (.bl true)))))))))
def F_law_k72 : List D → R D := runD 7 (.ok .non) g_law_k72
end DL

set_option Elab.async false
set_option linter.all false
set_option maxRecDepth 100000
set_option maxHeartbeats 4000000
set_option autoImplicit false
/-! PL1: reading the meanings. -/
namespace DL
open PySem
def Out.wp (o : Out) (N : Env → Prop) (T : D → Prop) (X : Ex → Env → Prop) : Prop := match o with
  | .nx ρ => N ρ
  | .rt d => T d
  | .xc e ρ => X e ρ
  | .bad => False
section
variable {α : Type} {o : Out} {N : Env → Prop} {T : D → Prop} {X : Ex → Env → Prop} {ρ : Env} {d : D} {e : Ex} {f f' f2 : Env → R D} {g h : Env → Out}
@[simp] theorem wp_nx : (Out.nx ρ).wp N T X = N ρ := rfl
@[simp] theorem wp_rt : (Out.rt d).wp N T X = T d := rfl
@[simp] theorem wp_xc : (Out.xc e ρ).wp N T X = X e ρ := rfl
@[simp] theorem wp_bad : (Out.bad).wp N T X = False := rfl
@[simp] theorem wp_seq {k : Env → Out} : (o.seq k).wp N T X = o.wp (fun ρ => (k ρ).wp N T X) T X := by cases o <;> rfl
@[simp] theorem wp_then {x : R α} {k : α → Out} : (x.then ρ k).wp N T X = Sat x (fun a => (k a).wp N T X) (fun e => X e ρ) := by cases x <;> rfl
/-- through a middle -/
theorem wp_mid (I : Env → Prop) (h : o.wp I T X) (k : ∀ ρ, I ρ → N ρ) : o.wp N T X := by
  cases o with
  | nx ρ => exact k ρ h
  | rt d => exact h
  | xc e ρ => exact h
  | bad => exact h
@[simp] theorem ite_ok {c : Prop} [Decidable c] {a b : α} : (if c then R.ok a else R.ok b) = R.ok (if c then a else b) := by split <;> rfl
@[simp] theorem oNx_eq : oNx ρ = .nx ρ := rfl
@[simp] theorem oSeq_wp : (oSeq g h ρ).wp N T X = (g ρ).wp (fun ρ => (h ρ).wp N T X) T X := wp_seq
@[simp] theorem oRet_eq : oRet f ρ = (f ρ).then ρ .rt := rfl
@[simp] theorem oRetN_eq : oRetN ρ = .rt .non := rfl
@[simp] theorem oSet_eq {i : Nat} : oSet i f ρ = (f ρ).then ρ fun d => .nx (ρ.set i (some d)) := rfl
@[simp] theorem oIf_eq {c : Env → R Bool} : oIf c g h ρ = (c ρ).then ρ fun b => if b = true then g ρ else h ρ := rfl
@[simp] theorem oFor_eq {fi : Env → R (List D)} {hh : D → Env → R Env} : oFor fi hh g ρ = (fi ρ).then ρ fun ds => loop hh g ds ρ := rfl
@[simp] theorem thn_ok {a : α} {k : α → Out} : (R.ok a).then ρ k = k a := rfl
@[simp] theorem thn_bad {k : α → Out} : (R.bad).then ρ k = .bad := rfl
@[simp] theorem dV_z {d : D} : dV 0 (some d :: ρ) = .ok d := rfl
@[simp] theorem dV_s {n : Nat} {x : Option D} : dV (n + 1) (x :: ρ) = dV n ρ := rfl
@[simp] theorem dC_eq : dC d ρ = .ok d := rfl
@[simp] theorem d2_eq {o : D → D → R D} : d2 o f f' ρ = (f ρ).bind fun x => (f' ρ).bind fun y => o x y := rfl
@[simp] theorem d1_eq {o : D → R D} : d1 o f ρ = (f ρ).bind o := rfl
@[simp] theorem dCall_eq {F : List D → R D} {fs : Env → R (List D)} : dCall F fs ρ = (fs ρ).bind F := rfl
@[simp] theorem dNil_eq : dNil ρ = .ok [] := rfl
@[simp] theorem dCons_eq {fs : Env → R (List D)} : dCons f fs ρ = (f ρ).bind fun d => (fs ρ).bind fun ds => .ok (d :: ds) := rfl
@[simp] theorem dTup_eq {fs : Env → R (List D)} : dTup fs ρ = (fs ρ).bind fun ds => .ok (.tup ds) := rfl
@[simp] theorem dLst_eq {fs : Env → R (List D)} : dLst fs ρ = (fs ρ).bind fun ds => .ok (.lst ds) := rfl
@[simp] theorem dB_eq : dB f ρ = (f ρ).bind asB := rfl
@[simp] theorem asB_bl {b : Bool} : asB (.bl b) = .ok b := rfl
@[simp] theorem bAnd_eq {f g : Env → R Bool} : bAnd f g ρ = (f ρ).bind fun b => if b = true then g ρ else .ok false := rfl
@[simp] theorem bOr_eq {f g : Env → R Bool} : bOr f g ρ = (f ρ).bind fun b => if b = true then .ok true else g ρ := rfl
@[simp] theorem bNot_eq {f : Env → R Bool} : bNot f ρ = (f ρ).bind fun b => .ok (!b) := rfl
@[simp] theorem bYes_eq : bYes ρ = .ok true := rfl
@[simp] theorem vAnd_eq : vAnd f f' ρ = (f ρ).bind fun x => (asB x).bind fun b => if b = true then f' ρ else .ok (.bl false) := rfl
@[simp] theorem vOr_eq : vOr f f' ρ = (f ρ).bind fun x => (asB x).bind fun b => if b = true then .ok (.bl true) else f' ρ := rfl
@[simp] theorem vNot_eq : vNot f ρ = (f ρ).bind fun x => (asB x).bind fun b => .ok (.bl (!b)) := rfl
@[simp] theorem iA_eq {o : List D → R (List D)} {fs : Env → R (List D)} : iA o fs ρ = (fs ρ).bind o := rfl
@[simp] theorem iS_eq : iS f ρ = (f ρ).bind itS := rfl
@[simp] theorem kL_eq : kL f ρ = (f ρ).bind isL := rfl
@[simp] theorem oL_eq {o : List D → R D} {fs : Env → R (List D)} : oL o fs ρ = (fs ρ).bind o := rfl
@[simp] theorem ixK_eq {fs : Env → R (List D)} : ixK fs f ρ = (fs ρ).bind fun ds => (f ρ).bind fun k => match k with | .int k => getI ds k | _ => .bad := rfl
@[simp] theorem tN_eq {i : Nat} : tN i d ρ = .ok (ρ.set i (some d)) := rfl
@[simp] theorem tT_eq {k : List D → Env → R Env} {ds : List D} : tT k (.tup ds) ρ = k ds ρ := rfl
@[simp] theorem tC_eq {hh : D → Env → R Env} {k : List D → Env → R Env} {ds : List D} : tCons' hh k (d :: ds) ρ = (hh d ρ).bind (k ds) := rfl
@[simp] theorem tNil_eq : tNil' [] ρ = .ok ρ := rfl
@[simp] theorem itS_l {ds : List D} : itS (.lst ds) = .ok ds := rfl
@[simp] theorem itS_t {ds : List D} : itS (.tup ds) = .ok ds := rfl
@[simp] theorem isL_l {ds : List D} : isL (.lst ds) = .ok ds := rfl
@[simp] theorem oAsg_eq {hh : D → Env → R Env} : oAsg hh f ρ = (f ρ).then ρ fun d => outOf (hh d ρ) := rfl
@[simp] theorem outOf_ok : outOf (.ok ρ) = .nx ρ := rfl
@[simp] theorem oMut_eq {i : Nat} {op : List D → List D → R (List D)} {fs : Env → R (List D)} : oMut i op fs ρ = match (dV i ρ).bind isL with
  | .ok xs => (fs ρ).then ρ fun ds => match op xs ds with
    | .ok ys => .nx (ρ.set i (some (.lst ys)))
    | _ => .bad
  | _ => .bad := rfl
@[simp] theorem mAppend_1 {xs : List D} : mAppend xs [d] = if xs.length < 16777216 then .ok (xs ++ [d]) else .bad := rfl
@[simp] theorem oSetItem_eq {i : Nat} {fk : Env → R D} : oSetItem i fk f ρ = (f ρ).then ρ fun d => match (dV i ρ).bind isL with
  | .ok xs => (fk ρ).then ρ fun k => match k with
    | .int k => if 0 ≤ k ∧ k < xs.length then .nx (ρ.set i (some (.lst (xs.set k.toNat d)))) else .bad
    | _ => .bad
  | _ => .bad := rfl
@[simp] theorem oAug_eq {i : Nat} : oAug i f ρ = match dV i ρ with
  | .ok (.int a) => (f ρ).then ρ fun d => match d with
    | .int b => .nx (ρ.set i (some (.int (a + b))))
    | _ => .bad
  | _ => .bad := rfl
@[simp] theorem oDrop_eq : oDrop f ρ = (f ρ).then ρ fun _ => .nx ρ := rfl
@[simp] theorem oRaise_eq {e : Ex} : oRaise e ρ = .xc e ρ := rfl
@[simp] theorem oIsi_ll {ds : List D} : oIsi .list (.lst ds) = .ok (.bl true) := rfl
@[simp] theorem oIsi_lt {ds : List D} : oIsi .list (.tup ds) = .ok (.bl false) := rfl
@[simp] theorem oIsi_tt {ds : List D} : oIsi .tuple (.tup ds) = .ok (.bl true) := rfl
@[simp] theorem oIsi_tl {ds : List D} : oIsi .tuple (.lst ds) = .ok (.bl false) := rfl
@[simp] theorem oIsi_tr {r : List Int} : oIsi .tuple (rowD r) = .ok (.bl true) := rfl
@[simp] theorem oIsi_ii {i : Int} : oIsi .int (.int i) = .ok (.bl true) := rfl
@[simp] theorem oIsi_bi {i : Int} : oIsi .bool (.int i) = .ok (.bl false) := rfl
@[simp] theorem oIsi_bb {b : Bool} : oIsi .bool (.bl b) = .ok (.bl true) := rfl
@[simp] theorem pNo_eq : pNo ρ = .ok none := rfl
@[simp] theorem pSo_eq : pSo f ρ = (f ρ).bind fun d => match d with | .int i => .ok (some i) | _ => .bad := rfl
@[simp] theorem slA_eq {g' h' : Env → R (Option Int)} : slA f g' h' ρ = (f ρ).bind fun d => (g' ρ).bind fun lo => (h' ρ).bind fun hi => match d with
  | .lst ds => .ok (.lst (cutD ds lo hi))
  | .tup ds => .ok (.tup (cutD ds lo hi))
  | .str z => if z.length ≤ 16777216 then .ok (.str (L2.cutS z lo hi)) else .bad
  | _ => .bad := rfl
@[simp] theorem slK_eq {fs : Env → R (List D)} {g' h' : Env → R (Option Int)} : slK fs g' h' ρ = (fs ρ).bind fun ds => (g' ρ).bind fun lo => (h' ρ).bind fun hi => .ok (.lst (cutD ds lo hi)) := rfl
@[simp] theorem revK_eq {ds : List D} : revK ds = .ok (.lst ds.reverse) := rfl
@[simp] theorem oAbs_i {i : Int} : oAbs [.int i] = .ok (.int (if i < 0 then -i else i)) := rfl
@[simp] theorem tupK_eq {ds : List D} : tupK ds = .ok (.tup ds) := rfl
@[simp] theorem lstK_eq {ds : List D} : lstK ds = .ok (.lst ds) := rfl
@[simp] theorem oTupOf_l {ds : List D} : oTupOf (.lst ds) = .ok (.tup ds) := rfl
@[simp] theorem oTupOf_t {ds : List D} : oTupOf (.tup ds) = .ok (.tup ds) := rfl
@[simp] theorem oLstOf_l {ds : List D} : oLstOf (.lst ds) = .ok (.lst ds) := rfl
@[simp] theorem oLstOf_t {ds : List D} : oLstOf (.tup ds) = .ok (.lst ds) := rfl
/-! operators -/
@[simp] theorem oAdd_i {i j : Int} : oAdd (.int i) (.int j) = .ok (.int (i + j)) := rfl
@[simp] theorem oSub_i {i j : Int} : oSub (.int i) (.int j) = .ok (.int (i - j)) := rfl
@[simp] theorem oNeg_i {i : Int} : oNeg (.int i) = .ok (.int (-i)) := rfl
theorem oMod_ok {i j : Int} (h : 0 < j) : oMod (.int i) (.int j) = .ok (.int (i % j)) := by unfold oMod; dsimp only; rw [if_pos h]
@[simp] theorem oMod_i {i j : Int} : oMod (.int i) (.int j) = if 0 < j then .ok (.int (i % j)) else .bad := rfl
@[simp] theorem oCmp_i {p : Int → Int → Bool} {i j : Int} : oCmp p (.int i) (.int j) = .ok (.bl (p i j)) := rfl
@[simp] theorem oIs_n : oIs d .non = .ok (.bl (isN d)) := rfl
@[simp] theorem oIsNot_n : oIsNot d .non = .ok (.bl (!isN d)) := rfl
@[simp] theorem isN_n : isN .non = true := rfl
@[simp] theorem isN_t {ds : List D} : isN (.tup ds) = false := rfl
@[simp] theorem isN_l {ds : List D} : isN (.lst ds) = false := rfl
@[simp] theorem isN_i {i : Int} : isN (.int i) = false := rfl
@[simp] theorem isN_s {x : Str} : isN (.str x) = false := rfl
@[simp] theorem isN_r {r : List Int} : isN (rowD r) = false := rfl
@[simp] theorem oLen_l {ds : List D} : oLen [.lst ds] = .ok (.int ds.length) := rfl
@[simp] theorem oLen_t {ds : List D} : oLen [.tup ds] = .ok (.int ds.length) := rfl
@[simp] theorem oMax_2 {i j : Int} : oMax [.int i, .int j] = .ok (.int (if j > i then j else i)) := rfl
@[simp] theorem oMin_2 {i j : Int} : oMin [.int i, .int j] = .ok (.int (if j < i then j else i)) := rfl
@[simp] theorem oInt_b {b : Bool} : oInt [.bl b] = .ok (.int (if b = true then 1 else 0)) := rfl
@[simp] theorem oInt_i {i : Int} : oInt [.int i] = .ok (.int i) := rfl
theorem log_of {i : Int} {n : Nat} (h1 : -(2 ^ n) < i) (h2 : i < 2 ^ n) : i.natAbs.log2 ≤ n := by
  by_cases h0 : i.natAbs = 0
  · rw [h0]; simp
  · have h : i.natAbs < 2 ^ n := by
      have e : ((2 ^ n : Nat) : Int) = (2 : Int) ^ n := by norm_cast
      rw [← e] at h1 h2
      generalize 2 ^ n = m at *
      omega
    exact Nat.le_of_lt ((Nat.log2_lt h0).mpr h)
/-- not great -/
def Sm (i : Int) : Prop := -(2 ^ 250) < i ∧ i < 2 ^ 250
theorem oMul_ok {i j : Int} (h : Sm i) (h' : Sm j) : oMul (.int i) (.int j) = .ok (.int (i * j)) := by
  have := log_of h.1 h.2
  have := log_of h'.1 h'.2
  unfold oMul
  dsimp only
  rw [if_pos (by omega)]
theorem oDiv_ok {i j : Int} (h : 0 < j) (h' : Sm j) : oDiv (.int i) (.int j) = .ok (.int (i / j)) := by
  have := log_of h'.1 h'.2
  unfold oDiv
  dsimp only
  rw [if_pos ⟨h, by omega⟩]
@[simp] theorem oDiv_1 {i : Int} : oDiv (.int i) (.int 1) = .ok (.int (i / 1)) := oDiv_ok (by decide) ⟨by decide, by decide⟩
@[simp] theorem oDiv_2 {i : Int} : oDiv (.int i) (.int 2) = .ok (.int (i / 2)) := oDiv_ok (by decide) ⟨by decide, by decide⟩
@[simp] theorem oDiv_3 {i : Int} : oDiv (.int i) (.int 3) = .ok (.int (i / 3)) := oDiv_ok (by decide) ⟨by decide, by decide⟩
@[simp] theorem oDiv_4 {i : Int} : oDiv (.int i) (.int 4) = .ok (.int (i / 4)) := oDiv_ok (by decide) ⟨by decide, by decide⟩
@[simp] theorem oDiv_5 {i : Int} : oDiv (.int i) (.int 5) = .ok (.int (i / 5)) := oDiv_ok (by decide) ⟨by decide, by decide⟩
@[simp] theorem oDiv_6 {i : Int} : oDiv (.int i) (.int 6) = .ok (.int (i / 6)) := oDiv_ok (by decide) ⟨by decide, by decide⟩
@[simp] theorem oDiv_7 {i : Int} : oDiv (.int i) (.int 7) = .ok (.int (i / 7)) := oDiv_ok (by decide) ⟨by decide, by decide⟩
@[simp] theorem oDiv_8 {i : Int} : oDiv (.int i) (.int 8) = .ok (.int (i / 8)) := oDiv_ok (by decide) ⟨by decide, by decide⟩
@[simp] theorem oDiv_9 {i : Int} : oDiv (.int i) (.int 9) = .ok (.int (i / 9)) := oDiv_ok (by decide) ⟨by decide, by decide⟩
@[simp] theorem oDiv_10 {i : Int} : oDiv (.int i) (.int 10) = .ok (.int (i / 10)) := oDiv_ok (by decide) ⟨by decide, by decide⟩
@[simp] theorem oDiv_11 {i : Int} : oDiv (.int i) (.int 11) = .ok (.int (i / 11)) := oDiv_ok (by decide) ⟨by decide, by decide⟩
@[simp] theorem oDiv_12 {i : Int} : oDiv (.int i) (.int 12) = .ok (.int (i / 12)) := oDiv_ok (by decide) ⟨by decide, by decide⟩
@[simp] theorem oDiv_16 {i : Int} : oDiv (.int i) (.int 16) = .ok (.int (i / 16)) := oDiv_ok (by decide) ⟨by decide, by decide⟩
@[simp] theorem oDiv_18 {i : Int} : oDiv (.int i) (.int 18) = .ok (.int (i / 18)) := oDiv_ok (by decide) ⟨by decide, by decide⟩
@[simp] theorem oDiv_24 {i : Int} : oDiv (.int i) (.int 24) = .ok (.int (i / 24)) := oDiv_ok (by decide) ⟨by decide, by decide⟩
@[simp] theorem oDiv_27 {i : Int} : oDiv (.int i) (.int 27) = .ok (.int (i / 27)) := oDiv_ok (by decide) ⟨by decide, by decide⟩
@[simp] theorem oDiv_32 {i : Int} : oDiv (.int i) (.int 32) = .ok (.int (i / 32)) := oDiv_ok (by decide) ⟨by decide, by decide⟩
@[simp] theorem oDiv_40 {i : Int} : oDiv (.int i) (.int 40) = .ok (.int (i / 40)) := oDiv_ok (by decide) ⟨by decide, by decide⟩
@[simp] theorem oDiv_50 {i : Int} : oDiv (.int i) (.int 50) = .ok (.int (i / 50)) := oDiv_ok (by decide) ⟨by decide, by decide⟩
@[simp] theorem oDiv_63 {i : Int} : oDiv (.int i) (.int 63) = .ok (.int (i / 63)) := oDiv_ok (by decide) ⟨by decide, by decide⟩
@[simp] theorem oDiv_64 {i : Int} : oDiv (.int i) (.int 64) = .ok (.int (i / 64)) := oDiv_ok (by decide) ⟨by decide, by decide⟩
@[simp] theorem oDiv_112 {i : Int} : oDiv (.int i) (.int 112) = .ok (.int (i / 112)) := oDiv_ok (by decide) ⟨by decide, by decide⟩
@[simp] theorem oDiv_128 {i : Int} : oDiv (.int i) (.int 128) = .ok (.int (i / 128)) := oDiv_ok (by decide) ⟨by decide, by decide⟩
@[simp] theorem oDiv_160 {i : Int} : oDiv (.int i) (.int 160) = .ok (.int (i / 160)) := oDiv_ok (by decide) ⟨by decide, by decide⟩
@[simp] theorem oDiv_180 {i : Int} : oDiv (.int i) (.int 180) = .ok (.int (i / 180)) := oDiv_ok (by decide) ⟨by decide, by decide⟩
@[simp] theorem oDiv_200 {i : Int} : oDiv (.int i) (.int 200) = .ok (.int (i / 200)) := oDiv_ok (by decide) ⟨by decide, by decide⟩
@[simp] theorem oDiv_256 {i : Int} : oDiv (.int i) (.int 256) = .ok (.int (i / 256)) := oDiv_ok (by decide) ⟨by decide, by decide⟩
@[simp] theorem oDiv_300 {i : Int} : oDiv (.int i) (.int 300) = .ok (.int (i / 300)) := oDiv_ok (by decide) ⟨by decide, by decide⟩
@[simp] theorem oDiv_400 {i : Int} : oDiv (.int i) (.int 400) = .ok (.int (i / 400)) := oDiv_ok (by decide) ⟨by decide, by decide⟩
@[simp] theorem oDiv_512 {i : Int} : oDiv (.int i) (.int 512) = .ok (.int (i / 512)) := oDiv_ok (by decide) ⟨by decide, by decide⟩
@[simp] theorem oDiv_567 {i : Int} : oDiv (.int i) (.int 567) = .ok (.int (i / 567)) := oDiv_ok (by decide) ⟨by decide, by decide⟩
@[simp] theorem oDiv_640 {i : Int} : oDiv (.int i) (.int 640) = .ok (.int (i / 640)) := oDiv_ok (by decide) ⟨by decide, by decide⟩
@[simp] theorem oDiv_1000 {i : Int} : oDiv (.int i) (.int 1000) = .ok (.int (i / 1000)) := oDiv_ok (by decide) ⟨by decide, by decide⟩
@[simp] theorem oDiv_1024 {i : Int} : oDiv (.int i) (.int 1024) = .ok (.int (i / 1024)) := oDiv_ok (by decide) ⟨by decide, by decide⟩
@[simp] theorem oDiv_2048 {i : Int} : oDiv (.int i) (.int 2048) = .ok (.int (i / 2048)) := oDiv_ok (by decide) ⟨by decide, by decide⟩
@[simp] theorem oDiv_3000 {i : Int} : oDiv (.int i) (.int 3000) = .ok (.int (i / 3000)) := oDiv_ok (by decide) ⟨by decide, by decide⟩
@[simp] theorem oDiv_4096 {i : Int} : oDiv (.int i) (.int 4096) = .ok (.int (i / 4096)) := oDiv_ok (by decide) ⟨by decide, by decide⟩
@[simp] theorem oDiv_6400 {i : Int} : oDiv (.int i) (.int 6400) = .ok (.int (i / 6400)) := oDiv_ok (by decide) ⟨by decide, by decide⟩
@[simp] theorem oDiv_8192 {i : Int} : oDiv (.int i) (.int 8192) = .ok (.int (i / 8192)) := oDiv_ok (by decide) ⟨by decide, by decide⟩
@[simp] theorem oDiv_32768 {i : Int} : oDiv (.int i) (.int 32768) = .ok (.int (i / 32768)) := oDiv_ok (by decide) ⟨by decide, by decide⟩
@[simp] theorem oDiv_98304 {i : Int} : oDiv (.int i) (.int 98304) = .ok (.int (i / 98304)) := oDiv_ok (by decide) ⟨by decide, by decide⟩
@[simp] theorem oDiv_100000 {i : Int} : oDiv (.int i) (.int 100000) = .ok (.int (i / 100000)) := oDiv_ok (by decide) ⟨by decide, by decide⟩
@[simp] theorem oDiv_1000000 {i : Int} : oDiv (.int i) (.int 1000000) = .ok (.int (i / 1000000)) := oDiv_ok (by decide) ⟨by decide, by decide⟩
theorem getI_ok {ds : List D} {k : Int} {d : D} (h : 0 ≤ k) (e : ds[k.toNat]? = some d) : getI ds k = .ok d := by
  have z := L2.atI_nat e
  rw [Int.toNat_of_nonneg h] at z
  unfold getI
  rw [z]
@[simp] theorem oIx_l {ds : List D} {k : Int} : oIx (.lst ds) (.int k) = getI ds k := rfl
@[simp] theorem oIx_t {ds : List D} {k : Int} : oIx (.tup ds) (.int k) = getI ds k := rfl
@[simp] theorem oIx_r {r : List Int} {k : Int} : oIx (rowD r) (.int k) = getI (r.map .int) k := rfl
theorem getI_map {α : Type} {enc : α → D} {xs : List α} {k : Int} (h : 0 ≤ k) (h2 : k.toNat < xs.length) : getI (xs.map enc) k = .ok (enc (xs[k.toNat]'h2)) :=
  getI_ok h (by simp [h2])
/-- the k-th number of a row -/
def at0 (r : List Int) (k : Int) : Int := r.getD k.toNat 0
theorem getI_row {r : List Int} {k : Int} (h : 0 ≤ k) (h2 : k < r.length) : getI (r.map .int) k = .ok (.int (at0 r k)) := by
  have h3 : k.toNat < r.length := by omega
  rw [getI_map h h3]
  unfold at0
  rw [List.getD_eq_getElem?_getD, List.getElem?_eq_getElem h3]
  rfl
/-! ### walks -/
theorem loop_nil {hh : D → Env → R Env} : loop hh g [] ρ = .nx ρ := rfl
theorem loop_cons {hh : D → Env → R Env} {ds : List D} : loop hh g (d :: ds) ρ = match hh d ρ with
    | .ok ρ1 => (g ρ1).seq (loop hh g ds)
    | _ => .bad := rfl
/-- a fold -/
theorem loop_fold {β σ : Type} (J : σ → Env → Prop) (step : σ → β → σ) {enc : β → D} {hh : D → Env → R Env} : ∀ (xs : List β) (s : σ) (ρ : Env), J s ρ →
    (∀ s a ρ, a ∈ xs → J s ρ → Sat (hh (enc a) ρ) (fun ρ1 => (g ρ1).wp (J (step s a)) T X) (fun _ => False)) → (∀ ρ', J (xs.foldl step s) ρ' → N ρ') → (loop hh g (xs.map enc) ρ).wp N T X
  | [], s, ρ, h0, _, k => k ρ h0
  | a :: xs, s, ρ, h0, hs, k => by
    have h1 := hs s a ρ List.mem_cons_self h0
    rw [List.map_cons, loop_cons]
    cases e : hh (enc a) ρ with
    | ok ρ1 =>
      rw [e] at h1
      dsimp only
      rw [wp_seq]
      have h1 : (g ρ1).wp (J (step s a)) T X := h1
      cases e2 : g ρ1 with
      | nx ρ2 =>
        rw [e2] at h1
        exact loop_fold J step xs (step s a) ρ2 h1 (fun s b ρ hb => hs s b ρ (List.mem_cons_of_mem _ hb)) k
      | rt d => rw [e2] at h1; exact h1
      | xc e ρ => rw [e2] at h1; exact h1
      | bad => rw [e2] at h1; exact h1
    | exc c => rw [e] at h1; exact h1.elim
    | bad => rw [e] at h1; exact h1.elim
/-- .. the turns told -/
theorem loop_foldI {β σ : Type} (J : Nat → σ → Env → Prop) (step : σ → β → σ) {enc : β → D} {hh : D → Env → R Env} : ∀ (xs : List β) (n : Nat) (s : σ) (ρ : Env), J n s ρ →
    (∀ i s a ρ, i < xs.length → a ∈ xs → J (n + i) s ρ → Sat (hh (enc a) ρ) (fun ρ1 => (g ρ1).wp (J (n + i + 1) (step s a)) T X) (fun _ => False)) → (∀ ρ', J (n + xs.length) (xs.foldl step s) ρ' → N ρ') → (loop hh g (xs.map enc) ρ).wp N T X
  | [], n, s, ρ, h0, _, k => k ρ h0
  | a :: xs, n, s, ρ, h0, hs, k => by
    have h1 := hs 0 s a ρ (by simp) List.mem_cons_self h0
    rw [List.map_cons, loop_cons]
    cases e : hh (enc a) ρ with
    | ok ρ1 =>
      rw [e] at h1
      dsimp only
      rw [wp_seq]
      have h1 : (g ρ1).wp (J (n + 1) (step s a)) T X := h1
      cases e2 : g ρ1 with
      | nx ρ2 =>
        rw [e2] at h1
        refine loop_foldI J step xs (n + 1) (step s a) ρ2 h1 (fun i s b ρ hi hb hj => ?_) (fun ρ' hj => k ρ' ?_)
        · have z := hs (i + 1) s b ρ (by simpa using hi) (List.mem_cons_of_mem _ hb) (by rw [show n + (i + 1) = n + 1 + i by omega]; exact hj)
          rw [show n + (i + 1) = n + 1 + i by omega] at z
          exact z
        · rw [List.length_cons, show n + (xs.length + 1) = n + 1 + xs.length by omega]
          exact hj
      | rt d => rw [e2] at h1; exact h1
      | xc e ρ => rw [e2] at h1; exact h1
      | bad => rw [e2] at h1; exact h1
    | exc c => rw [e] at h1; exact h1.elim
    | bad => rw [e] at h1; exact h1.elim
/-- the same, the place told -/
theorem loop_inv (J : Nat → Env → Prop) {hh : D → Env → R Env} : ∀ (ds : List D) (n : Nat) (ρ : Env), J n ρ →
    (∀ i d ρ, ds[i]? = some d → J (n + i) ρ → Sat (hh d ρ) (fun ρ1 => (g ρ1).wp (J (n + i + 1)) T X) (fun _ => False)) → (∀ ρ', J (n + ds.length) ρ' → N ρ') → (loop hh g ds ρ).wp N T X
  | [], n, ρ, h0, _, k => k ρ h0
  | d :: ds, n, ρ, h0, hs, k => by
    have h1 := hs 0 d ρ rfl h0
    rw [loop_cons]
    cases e : hh d ρ with
    | ok ρ1 =>
      rw [e] at h1
      dsimp only
      rw [wp_seq]
      have h1 : (g ρ1).wp (J (n + 1)) T X := h1
      cases e2 : g ρ1 with
      | nx ρ2 =>
        rw [e2] at h1
        refine loop_inv J ds (n + 1) ρ2 h1 (fun i b ρ hb hj => ?_) (fun ρ' hj => k ρ' ?_)
        · have z := hs (i + 1) b ρ hb (by rw [show n + (i + 1) = n + 1 + i by omega]; exact hj)
          rw [show n + (i + 1) = n + 1 + i by omega] at z
          exact z
        · rw [List.length_cons, show n + (ds.length + 1) = n + 1 + ds.length by omega]
          exact hj
      | rt d => rw [e2] at h1; exact h1
      | xc e ρ => rw [e2] at h1; exact h1
      | bad => rw [e2] at h1; exact h1
    | exc c => rw [e] at h1; exact h1.elim
    | bad => rw [e] at h1; exact h1.elim
theorem run_ok {m : Nat} {z : R D} {ds : List D} {d : D} (h : (g (ds.map some ++ List.replicate m none)).wp (fun _ => z = .ok d) (fun d' => d' = d) (fun _ _ => False)) : runD m z g ds = .ok d := by
  unfold runD
  cases e : g (ds.map some ++ List.replicate m none) with
  | nx ρ => rw [e] at h; exact h
  | rt d' => rw [e] at h; exact congrArg R.ok h
  | xc c ρ => rw [e] at h; exact h.elim
  | bad => rw [e] at h; exact h.elim
theorem run_ex {m : Nat} {z : R D} {ds : List D} {P : D → Prop} (h : (g (ds.map some ++ List.replicate m none)).wp (fun _ => ∃ d, z = .ok d ∧ P d) P (fun _ _ => False)) : ∃ d, runD m z g ds = .ok d ∧ P d := by
  unfold runD
  cases e : g (ds.map some ++ List.replicate m none) with
  | nx ρ => rw [e] at h; exact h
  | rt d' => rw [e] at h; exact ⟨d', rfl, h⟩
  | xc c ρ => rw [e] at h; exact h.elim
  | bad => rw [e] at h; exact h.elim
/-! ### comprehensions -/
/-- each item by itself -/
theorem lcF_of {β γ : Type} {enc : β → D} {vs : List Nat} {hh : D → Env → R Env} {tst : Env → R Bool} {fe : Env → R D} {enc' : γ → D} (sel : β → Bool) (out : β → γ) : ∀ (xs : List β),
    (∀ a ∈ xs, ∃ ρ1, hh (enc a) (wipeR ρ vs) = .ok ρ1 ∧ tst ρ1 = .ok (sel a) ∧ (sel a = true → fe ρ1 = .ok (enc' (out a)))) →
    lcF vs hh tst fe ρ (xs.map enc) = .ok (((xs.filter sel).map out).map enc')
  | [], _ => rfl
  | a :: xs, h => by
    obtain ⟨ρ1, h1, h2, h3⟩ := h a List.mem_cons_self
    have ih := lcF_of sel out xs fun b hb => h b (List.mem_cons_of_mem _ hb)
    rw [List.map_cons]
    unfold lcF
    rw [h1]
    dsimp only
    rw [h2]
    dsimp only
    cases e : sel a with
    | true =>
      rw [if_pos rfl, h3 e]
      dsimp only
      rw [ih]
      simp [e]
    | false =>
      rw [if_neg (by decide), ih]
      simp [e]
@[simp] theorem wipeR_n : wipeR ρ [] = ρ := rfl
@[simp] theorem wipeR_c {v : Nat} {vs : List Nat} : wipeR ρ (v :: vs) = (wipeR ρ vs).set v none := rfl
@[simp] theorem dLc_eq {vs : List Nat} {fi : Env → R (List D)} {hh : D → Env → R Env} {tst : Env → R Bool} {fe : Env → R D} : dLc vs fi hh tst fe ρ = (fi ρ).bind fun ds => match lcF vs hh tst fe ρ ds with
  | .ok es => .ok (.lst es)
  | _ => .bad := rfl
end
/-- a slice is a slice of what is coded -/
theorem cutD_map {β : Type} {enc : β → D} (xs : List β) (lo hi : Option Int) : cutD (xs.map enc) lo hi = ((xs.drop (HT.sIx xs.length 0 lo)).take (HT.sIx xs.length xs.length hi - HT.sIx xs.length 0 lo)).map enc := by
  unfold cutD
  simp
/-! ### equality -/
mutual
/-- without truths and refusals, no deeper than n -/
def Cl : Nat → D → Prop
  | _, .non => True
  | _, .int _ => True
  | _, .str x => (toP (.str x)).canLay0 = true
  | n, .lst ds => 0 < n ∧ Cls (n - 1) ds
  | n, .tup ds => 0 < n ∧ Cls (n - 1) ds
  | _, _ => False
def Cls : Nat → List D → Prop
  | _, [] => True
  | n, d :: ds => Cl n d ∧ Cls n ds
end
theorem cls_iff {n : Nat} : ∀ {ds : List D}, Cls n ds ↔ ∀ d ∈ ds, Cl n d
  | [] => by simp [Cls]
  | d :: ds => by simp [Cls, cls_iff (ds := ds)]
mutual
theorem Cl.all : ∀ {n : Nat} {d : D}, Cl n d → noE d = true ∧ (toP d).canLay0 = true ∧ (toP d).depth ≤ n
  | _, .non, _ => ⟨rfl, by simp [toP, PyData.canLay0], by simp [toP, PyData.depth]⟩
  | _, .int _, _ => ⟨rfl, by simp [toP, PyData.canLay0], by simp [toP, PyData.depth]⟩
  | _, .str x, h => ⟨rfl, by simpa [Cl] using h, by simp [toP, PyData.depth]⟩
  | n, .lst ds, h => by
    have h : 0 < n ∧ Cls (n - 1) ds := by simpa [Cl] using h
    obtain ⟨a, b, c⟩ := Cls.all h.2
    exact ⟨by simpa [noE] using a, by simpa [toP, PyData.canLay0] using b, by simp [toP, PyData.depth]; omega⟩
  | n, .tup ds, h => by
    have h : 0 < n ∧ Cls (n - 1) ds := by simpa [Cl] using h
    obtain ⟨a, b, c⟩ := Cls.all h.2
    exact ⟨by simpa [noE] using a, by simpa [toP, PyData.canLay0] using b, by simp [toP, PyData.depth]; omega⟩
  | _, .bl _, h => by simp [Cl] at h
  | _, .exc _, h => by simp [Cl] at h
theorem Cls.all : ∀ {n : Nat} {ds : List D}, Cls n ds → noEs ds = true ∧ PyData.canLayAll0 (toPs ds) = true ∧ PyData.depthAll (toPs ds) ≤ n
  | n, [], _ => ⟨rfl, by simp [toPs, PyData.canLayAll0], by simp [toPs, PyData.depthAll]⟩
  | n, d :: ds, h => by
    have h : Cl n d ∧ Cls n ds := by simpa [Cls] using h
    obtain ⟨a, b, c⟩ := Cl.all h.1
    obtain ⟨a', b', c'⟩ := Cls.all h.2
    exact ⟨by simp [noEs, a, a'], by simp [toPs, PyData.canLayAll0, b, b'], by simp [toPs, PyData.depthAll]; omega⟩
end
theorem Cl.ok {n : Nat} {d : D} (h : Cl n d) (hn : n ≤ 64) : okP d = true := by
  obtain ⟨a, b, c⟩ := h.all
  unfold okP SeqAt.shaped
  simp [a, b]
  omega
mutual
theorem deq_iff : ∀ {n m : Nat} {d e : D}, Cl n d → Cl m e → (deq d e = true ↔ d = e)
  | n, m, d, e, hd, he => by
    cases d <;> cases e <;> simp only [Cl] at hd he <;> simp [deq, toP, PyData.eqv]
    · exact deqs_iff hd.2 he.2
    · exact deqs_iff hd.2 he.2
theorem deqs_iff : ∀ {n m : Nat} {ds es : List D}, Cls n ds → Cls m es → (PyData.eqvAll (toPs ds) (toPs es) = true ↔ ds = es)
  | n, m, [], [], _, _ => by simp [toPs, PyData.eqvAll]
  | n, m, [], _ :: _, _, _ => by simp [toPs, PyData.eqvAll]
  | n, m, _ :: _, [], _, _ => by simp [toPs, PyData.eqvAll]
  | n, m, d :: ds, e :: es, h, h' => by
    simp only [Cls] at h h'
    simp only [toPs, PyData.eqvAll, Bool.and_eq_true, List.cons.injEq]
    exact and_congr (deq_iff h.1 h'.1) (deqs_iff h.2 h'.2)
end
theorem oEq_cl {n m : Nat} {d e : D} (hd : Cl n d) (he : Cl m e) (hn : n ≤ 64 := by decide) (hm : m ≤ 64 := by decide) : oEq d e = .ok (.bl (deq d e)) := by
  unfold oEq
  rw [if_pos ⟨hd.ok hn, he.ok hm⟩]
theorem oNe_cl {n m : Nat} {d e : D} (hd : Cl n d) (he : Cl m e) (hn : n ≤ 64 := by decide) (hm : m ≤ 64 := by decide) : oNe d e = .ok (.bl (!deq d e)) := by
  unfold oNe
  rw [if_pos ⟨hd.ok hn, he.ok hm⟩]
theorem cl_int {n : Nat} {i : Int} : Cl n (.int i) := by simp [Cl]
theorem cl_non {n : Nat} : Cl n .non := by simp [Cl]
theorem cl_lst {n : Nat} {ds : List D} (h : ∀ d ∈ ds, Cl n d) : Cl (n + 1) (.lst ds) := by simp only [Cl]; exact ⟨by omega, cls_iff.mpr h⟩
theorem cl_tup {n : Nat} {ds : List D} (h : ∀ d ∈ ds, Cl n d) : Cl (n + 1) (.tup ds) := by simp only [Cl]; exact ⟨by omega, cls_iff.mpr h⟩
theorem cl_ints {n : Nat} {ns : List Int} : ∀ d ∈ ns.map D.int, Cl n d := fun d h => by
  obtain ⟨i, _, rfl⟩ := List.mem_map.mp h
  exact cl_int
theorem cl_row {r : List Int} : Cl 1 (rowD r) := cl_tup (n := 0) cl_ints
theorem cl_rows {rs : List (List Int)} : Cl 2 (.lst (rs.map rowD)) := cl_lst (n := 1) fun d h => by
  obtain ⟨i, _, rfl⟩ := List.mem_map.mp h
  exact cl_row
@[simp] theorem oEq_i {i j : Int} : oEq (.int i) (.int j) = .ok (.bl (decide (i = j))) := by
  rw [oEq_cl (cl_int (n := 0)) (cl_int (n := 0))]
  congr 2
@[simp] theorem oNe_i {i j : Int} : oNe (.int i) (.int j) = .ok (.bl (!decide (i = j))) := by
  rw [oNe_cl (cl_int (n := 0)) (cl_int (n := 0))]
  congr 3
theorem deq_self {n : Nat} {d : D} (h : Cl n d) : deq d d = true := (deq_iff h h).mpr rfl
theorem deq_nil {n : Nat} {ds : List D} (h : Cl n (.lst ds)) : deq (.lst ds) (.lst []) = ds.isEmpty := by
  rw [Bool.eq_iff_iff, deq_iff h (cl_lst (n := 0) (ds := []) (by simp))]
  simp
/-- x == [] -/
theorem oEq_nil {n : Nat} {ds : List D} (h : Cl n (.lst ds)) (hn : n ≤ 64 := by decide) : oEq (.lst ds) (.lst []) = .ok (.bl ds.isEmpty) := by
  rw [oEq_cl h (cl_lst (n := 0) (ds := []) (by simp)) hn, deq_nil h]
end DL

set_option Elab.async false
set_option linter.all false
set_option maxRecDepth 100000
set_option maxHeartbeats 4000000
set_option autoImplicit false
/-! PL2: while, and the greatest common divisor. -/
namespace DL
open PySem
section
variable {N : Env → Prop} {T : D → Prop} {X : Ex → Env → Prop} {ρ : Env} {c : Env → R Bool} {g : Env → Out}
theorem fuel_eq : fuel ρ = 1000000000000 := rfl
theorem wloop_wp (J : Nat → Env → Prop) : ∀ (fl k : Nat) (ρ : Env), J k ρ → k < fl → (∀ k ρ, J k ρ → Sat (c ρ) (fun b => if b = true then (g ρ).wp (fun ρ' => ∃ k' < k, J k' ρ') T X else N ρ) (fun e => X e ρ)) → (wloop c g fl ρ).wp N T X
  | 0, k, ρ, _, h, _ => absurd h (Nat.not_lt_zero k)
  | fl + 1, k, ρ, h0, hk, hs => by
    have h1 := hs k ρ h0
    unfold wloop
    rw [wp_then]
    refine h1.imp (fun b hb => ?_) fun _ z => z
    cases b with
    | false => exact hb
    | true =>
      rw [if_pos rfl] at hb ⊢
      rw [wp_seq]
      have hb : (g ρ).wp (fun ρ' => ∃ k' < k, J k' ρ') T X := hb
      cases e : g ρ with
      | nx ρ2 =>
        rw [e] at hb
        obtain ⟨k', hk', hj⟩ := hb
        exact wloop_wp J fl k' ρ2 hj (by omega) hs
      | rt d => rw [e] at hb; exact hb
      | xc e ρ => rw [e] at hb; exact hb
      | bad => rw [e] at hb; exact hb
theorem while_wp (J : Nat → Env → Prop) (k : Nat) (h0 : J k ρ) (hk : k < 1000000000000) (hs : ∀ k ρ, J k ρ → Sat (c ρ) (fun b => if b = true then (g ρ).wp (fun ρ' => ∃ k' < k, J k' ρ') T X else N ρ) (fun e => X e ρ)) : (oWhile fuel c g ρ).wp N T X :=
  wloop_wp J _ k ρ h0 hk hs
end
/-! the greatest common divisor -/
theorem gcd_turn {x y : Int} (hx : 0 ≤ x) (hy : 0 < y) : Int.gcd y (x % y) = Int.gcd x y := by
  rw [Int.gcd_comm, Int.gcd_comm x y]
  unfold Int.gcd
  rw [Int.natAbs_emod_of_nonneg hx]
  exact (Nat.gcd_rec _ _).symm
theorem mul_half {x y : Int} {k : Nat} (hy : 0 < y) (hxy : y ≤ x) (h : x * y < 2 ^ (k + 1)) : y * (x % y) < 2 ^ k := by
  have e := Int.mul_ediv_add_emod x y
  have h1 := Int.emod_nonneg x (show y ≠ 0 by omega)
  have h2 := Int.emod_lt_of_pos x hy
  have h3 : 1 ≤ x / y := by
    have := Int.ediv_le_ediv hy hxy
    rw [Int.ediv_self (by omega)] at this
    exact this
  have h4 : y * 1 ≤ y * (x / y) := Int.mul_le_mul_of_nonneg_left h3 (by omega)
  have h5 : 2 * (x % y) ≤ x := by omega
  have h6 : 2 * (x % y) * y ≤ x * y := Int.mul_le_mul_of_nonneg_right h5 (by omega)
  rw [Int.pow_succ] at h
  rw [Int.mul_comm y (x % y)]
  rw [Int.mul_assoc] at h6
  omega
theorem gcd_wp {a b : Option D} {x y : Int} {N : Env → Prop} {T : D → Prop} {X : Ex → Env → Prop} (hx : 0 ≤ x) (hy : 0 ≤ y) (h0 : 0 < x + y) (hm : x < 2 ^ 250) (hm' : y < 2 ^ 250) (hN : N [a, b, some (.int (Int.gcd x y)), some (.int 0)]) :
    (oWhile fuel (dB (d2 oGt (dV 3) (dC (.int 0)))) (oAsg (tT (tCons' (tN 2) (tCons' (tN 3) tNil'))) (dTup (dCons (dV 3) (dCons (d2 oMod (dV 2) (dV 3)) dNil)))) [a, b, some (.int x), some (.int y)]).wp N T X := by
  refine while_wp (J := fun k ρ => ∃ x' y' : Int, ρ = [a, b, some (.int x'), some (.int y')] ∧ 0 ≤ x' ∧ 0 ≤ y' ∧ 0 < x' + y' ∧ Int.gcd x' y' = Int.gcd x y ∧ ((y' ≤ x' ∧ x' * y' < 2 ^ k) ∨ (x' < y' ∧ ∃ j, k = j + 1 ∧ x' * y' < 2 ^ j))) 600 ⟨x, y, rfl, hx, hy, h0, rfl, ?_⟩ (by decide) ?_
  · have h1 : x * y ≤ 2 ^ 250 * 2 ^ 250 := Int.mul_le_mul (Int.le_of_lt hm) (Int.le_of_lt hm') hy (by decide)
    have h2 : x * y < 2 ^ 599 := Int.lt_of_le_of_lt h1 (by decide)
    rcases Int.lt_or_le x y with h | h
    · exact .inr ⟨h, 599, rfl, h2⟩
    · exact .inl ⟨h, Int.lt_of_le_of_lt h1 (by decide)⟩
  · rintro k ρ ⟨x', y', rfl, h1, h2, h3, h4, h5⟩
    simp
    by_cases hy0 : 0 < y'
    · rw [if_pos hy0]
      simp [hy0]
      refine ⟨k - 1, ?_, y', x' % y', ⟨rfl, rfl⟩, by omega, Int.emod_nonneg _ (by omega), ?_, ?_, ?_⟩
      · rcases h5 with ⟨ha, hb⟩ | ⟨ha, j, rfl, hb⟩
        · cases k with
          | zero =>
            have := Int.mul_pos (show 0 < x' by omega) hy0
            simp at hb
            omega
          | succ k => omega
        · omega
      · have := Int.emod_nonneg x' (show y' ≠ 0 by omega)
        omega
      · rw [gcd_turn h1 hy0, h4]
      · have hlt := Int.emod_lt_of_pos x' hy0
        refine .inl ⟨Int.le_of_lt hlt, ?_⟩
        rcases h5 with ⟨ha, hb⟩ | ⟨ha, j, rfl, hb⟩
        · cases k with
          | zero =>
            have := Int.mul_pos (show 0 < x' by omega) hy0
            simp at hb
            omega
          | succ k => exact mul_half hy0 ha hb
        · rw [Int.emod_eq_of_lt h1 ha, Int.mul_comm]
          exact hb
    · have : y' = 0 := by omega
      subst this
      simp
      have : (Int.gcd x y : Int) = x' := by
        rw [← h4, Int.gcd_zero_right]
        omega
      rw [this] at hN
      exact hN
end DL

set_option Elab.async false
set_option linter.all false
set_option maxRecDepth 100000
set_option maxHeartbeats 4000000
set_option autoImplicit false
/-! P2: what most laws lean on. -/
namespace DL
open PySem
/-- a list of ints -/
abbrev iL' (ns : List Int) : D := .lst (ns.map .int)
/-- the k-th cell, 0 beyond -/
def cellA (ns : List Int) (k : Int) : Int := ns.getD k.toNat 0
theorem F_cell_at {ns : List Int} {k : Int} (h : 0 ≤ k) : F_law_cell_at [.lst (ns.map .int), .int k] = .ok (.int (cellA ns k)) := by
  refine run_ok ?_
  unfold g_law_cell_at
  simp
  unfold cellA
  by_cases hk : k < ns.length
  · have h3 : k.toNat < ns.length := by omega
    simp [hk, getI_map (enc := D.int) h h3, List.getD_eq_getElem?_getD, List.getElem?_eq_getElem h3]
  · have h3 : ns.length ≤ k.toNat := by omega
    simp [hk, List.getD_eq_getElem?_getD, List.getElem?_eq_none h3]
/-! powers -/
@[simp] theorem oPow_6 : oPow (.int 10) (.int 6) = .ok (.int 1000000) := rfl
@[simp] theorem oPow_18 : oPow (.int 10) (.int 18) = .ok (.int 1000000000000000000) := rfl
@[simp] theorem oPow_60 : oPow (.int 10) (.int 60) = .ok (.int (10 ^ 60)) := rfl
@[simp] theorem oPow_41 : oPow (.int 10) (.int 41) = .ok (.int 100000000000000000000000000000000000000000) := rfl
@[simp] theorem oPow_38 : oPow (.int 10) (.int 38) = .ok (.int 100000000000000000000000000000000000000) := rfl
@[simp] theorem oPow_17 : oPow (.int 10) (.int 17) = .ok (.int 100000000000000000) := rfl
@[simp] theorem oPow_30 : oPow (.int 10) (.int 30) = .ok (.int 1000000000000000000000000000000) := rfl
@[simp] theorem oPow_36 : oPow (.int 10) (.int 36) = .ok (.int 1000000000000000000000000000000000000) := rfl
@[simp] theorem oPow_37 : oPow (.int 10) (.int 37) = .ok (.int 10000000000000000000000000000000000000) := rfl
@[simp] theorem oPow_39 : oPow (.int 10) (.int 39) = .ok (.int 1000000000000000000000000000000000000000) := rfl
@[simp] theorem oPow_40 : oPow (.int 10) (.int 40) = .ok (.int 10000000000000000000000000000000000000000) := rfl
/-! the mix -/
theorem itR1_i {j : Int} : itR1 [.int j] = if -(2 ^ 62) ≤ j ∧ j ≤ 16777216 then .ok (upTo 0 j.toNat) else .bad := rfl
theorem itR1_ok {j : Int} (h : 0 ≤ j) (h' : j ≤ 16777216) : itR1 [.int j] = .ok (upTo 0 j.toNat) := by
  rw [itR1_i, if_pos ⟨by omega, h'⟩]
theorem mix_ex (c k : Int) (h0 : 0 ≤ k) (h1 : k ≤ 10000) : ∃ n : Int, F_law_mix [.int c, .int k] = .ok (.int n) ∧ 0 ≤ n ∧ n < 2147483648 := by
  have z : ∃ d, F_law_mix [.int c, .int k] = .ok d ∧ ∃ n : Int, d = .int n ∧ 0 ≤ n ∧ n < 2147483648 := by
    refine run_ex ?_
    unfold g_law_mix
    have hkk : 0 ≤ k * k ∧ k * k ≤ 100000000 := ⟨Int.mul_nonneg h0 h0, Int.le_trans (Int.mul_le_mul h1 h1 h0 (by decide)) (by decide)⟩
    by_cases hc : 1000000000000000000 ≤ c
    · simp [hc, itR1_ok h0 (show k ≤ 16777216 by omega)]
      unfold upTo
      refine loop_fold (J := fun _ ρ => ∃ c' x2, ρ = [some (.int c'), some (.int k), x2, none]) (fun s _ => s) _ () _ ⟨_, _, rfl⟩ ?_ ?_
      · rintro _ i ρ _ ⟨c', x2, rfl⟩
        simp [oDiv_ok (i := c') (show (0 : Int) < 1000000 by decide) ⟨by decide, by decide⟩]
      · rintro ρ' ⟨c', x2, rfl⟩
        simp
        omega
    · simp [hc]
      generalize hA : c % 1000003 = A
      have hA2 : 0 ≤ A ∧ A < 1000003 := by omega
      rw [oMul_ok (i := k) (j := k) ⟨by omega, by omega⟩ ⟨by omega, by omega⟩]
      simp
      rw [oMul_ok (i := k * k) ⟨by omega, by omega⟩ ⟨by omega, by omega⟩]
      simp
      rw [oMul_ok (j := 48271) ⟨by omega, by omega⟩ ⟨by omega, by omega⟩]
      simp
      generalize hB : ((A + k * k * 7919 + k) * 48271) % 2147483629 = B
      have hB2 : 0 ≤ B ∧ B < 2147483629 := by omega
      rw [oMul_ok (i := B) ⟨by omega, by omega⟩ ⟨by omega, by omega⟩]
      simp
      generalize hC : (B * B) % 2147483587 = C
      have hC2 : 0 ≤ C ∧ C < 2147483587 := by omega
      rw [oMul_ok (i := C) ⟨by omega, by omega⟩ ⟨by omega, by omega⟩]
      simp [oDiv_ok (show (0 : Int) < 7 by decide) ⟨by decide, by decide⟩]
      omega
  obtain ⟨d, e, n, rfl, h⟩ := z
  exact ⟨n, e, h⟩
def mixA (c k : Int) : Int := match F_law_mix [.int c, .int k] with
  | .ok (.int n) => n
  | _ => 0
theorem mix_ok {c k : Int} (h0 : 0 ≤ k) (h1 : k ≤ 10000) : F_law_mix [.int c, .int k] = .ok (.int (mixA c k)) ∧ 0 ≤ mixA c k ∧ mixA c k < 2147483648 := by
  obtain ⟨n, e, h⟩ := mix_ex c k h0 h1
  unfold mixA
  rw [e]
  exact ⟨rfl, h⟩
/-! the script, cut -/
theorem cut_ex (ns : List Int) : ∃ ms : List Int, ms.length = ns.length ∧ F_law_cut [.lst (ns.map .int)] = .ok (.lst (ms.map .int)) := by
  refine ⟨(ns.filter fun _ => true).map fun c => if (10 ^ 60) ^ 60 ≤ c then (10 ^ 60) ^ 60 + c % ((10 ^ 60) ^ 60) else c, by simp, run_ok ?_⟩
  unfold g_law_cut
  have e : oPow (.int (10 ^ 60)) (.int 60) = .ok (.int ((10 ^ 60) ^ 60)) := rfl
  generalize hM : ((10 : Int) ^ 60) ^ 60 = M at *
  have hM0 : 0 < M := by rw [← hM]; decide
  simp only [oSeq_wp, oSet_eq, d2_eq, dC_eq, R.bind_ok, oPow_60, e, thn_ok, wp_nx]
  simp
  rw [lcF_of (enc := D.int) (enc' := D.int) (fun _ => true) (fun c => if M ≤ c then M + c % M else c)]
  · simp
  · intro c _
    simp [wipeR, hM0]
    by_cases h : M ≤ c
    · simp [h]
      rfl
    · simp [h]
      rfl
/-! rows -/
/-- no greater anywhere -/
def cov (a b : List Int) : Bool := (List.range a.length).all fun k => decide (a.getD k 0 ≤ b.getD k 0)
theorem upTo_map (n : Nat) : upTo 0 n = (List.range n).map fun i => D.int (i : Nat) := by
  unfold upTo
  simp
theorem isEmpty_map {α β : Type} (f : α → β) (l : List α) : (l.map f).isEmpty = l.isEmpty := by cases l <;> rfl
theorem filter_isEmpty {α : Type} (p : α → Bool) (l : List α) : (l.filter p).isEmpty = l.all fun a => !p a := by
  induction l with
  | nil => rfl
  | cons a l ih => cases h : p a <;> simp [h, ih]
theorem covers_ok {a b : List Int} (h : a.length ≤ b.length) (hl : a.length ≤ 1000) : F_law_covers [rowD a, rowD b] = .ok (.bl (cov a b)) := by
  refine run_ok ?_
  unfold g_law_covers
  have e : oLen [rowD a] = .ok (.int a.length) := by unfold rowD; simp
  simp [e, itR1_ok (show (0 : Int) ≤ a.length by omega) (show (a.length : Int) ≤ 16777216 by omega), upTo_map]
  rw [lcF_of (enc := fun i : Nat => D.int i) (enc' := fun i : Nat => D.int i) (fun k => decide (b.getD k 0 < a.getD k 0)) (fun k => k)]
  · simp only [R.bind_ok, thn_ok, sat_ok]
    rw [oEq_nil (n := 1) (cl_lst (n := 0) fun d hd => by obtain ⟨i, _, rfl⟩ := List.mem_map.mp hd; exact cl_int)]
    simp only [isEmpty_map, filter_isEmpty, sat_ok, D.bl.injEq, cov]
    congr 1
    funext k
    simp only [← decide_not, Int.not_lt]
  · intro k hk
    have hk : k < a.length := List.mem_range.mp hk
    simp [wipeR, getI_row (r := a) (k := k) (by omega) (by omega), getI_row (r := b) (k := k) (by omega) (by omega), at0]
/-- the k-th stair -/
def stepA (found : List (List Int)) (r : List Int) : List (List Int) := if (found.filter fun o => cov o r).isEmpty then found ++ [r] else found
def stairA (rs : List (List Int)) : List (List Int) := (sortU rs).foldl stepA []
/-- all of width w -/
def Wd (w : Nat) (rs : List (List Int)) : Prop := ∀ r ∈ rs, r.length = w
theorem stepA_mem {found : List (List Int)} {r y : List Int} (h : y ∈ stepA found r) : y ∈ found ∨ y = r := by
  unfold stepA at h
  split at h
  · simpa using h
  · exact .inl h
theorem foldA_mem {y : List Int} : ∀ {xs : List (List Int)} {found : List (List Int)}, y ∈ xs.foldl stepA found → y ∈ found ∨ y ∈ xs
  | [], _, h => .inl h
  | x :: xs, found, h => by
    rcases foldA_mem (xs := xs) h with h | h
    · rcases stepA_mem h with h | h
      · exact .inl h
      · exact .inr (h ▸ List.mem_cons_self)
    · exact .inr (List.mem_cons_of_mem _ h)
theorem stairA_mem {rs : List (List Int)} {y : List Int} (h : y ∈ stairA rs) : y ∈ rs := by
  rcases foldA_mem h with h | h
  · cases h
  · exact sortU_mem.mp h
theorem stairA_wd {w : Nat} {rs : List (List Int)} (h : Wd w rs) : Wd w (stairA rs) := fun r hr => h r (stairA_mem hr)
theorem foldA_len : ∀ {xs : List (List Int)} {found : List (List Int)}, (xs.foldl stepA found).length ≤ found.length + xs.length
  | [], _ => by simp
  | x :: xs, found => by
    have h : (stepA found x).length ≤ found.length + 1 := by unfold stepA; split <;> simp
    have := foldA_len (xs := xs) (found := stepA found x)
    simp only [List.foldl_cons, List.length_cons]
    omega
theorem stairA_len (rs : List (List Int)) : (stairA rs).length ≤ rs.length := by
  have h := foldA_len (xs := sortU rs) (found := [])
  have := sortU_len rs
  unfold stairA
  simp at h
  omega
theorem oSortSet_ok {rs : List (List Int)} {w : Nat} (h : Wd w rs) (hw : 0 < w) (hn : rs.length < 64) : oSortSet (rs.map rowD) = .ok (.lst ((sortU rs).map rowD)) := by
  have hh : rs.all (fun r => !r.isEmpty) = true := by
    rw [List.all_eq_true]
    intro r hr
    have := h r hr
    cases r with
    | nil => exact absurd this (by show ¬ (0 = w); omega)
    | cons a r => rfl
  unfold oSortSet
  rw [rowsOf_map]
  dsimp only
  rw [if_pos ⟨hh, hn⟩]
theorem stair_ok {rs : List (List Int)} {w : Nat} (h : Wd w rs) (hw : 0 < w) (hw2 : w ≤ 1000) (hn : rs.length < 64) : F_law_stair_v2 [.lst (rs.map rowD)] = .ok (.lst ((stairA rs).map rowD)) := by
  refine run_ok ?_
  unfold g_law_stair_v2
  simp [oSortSet_ok h hw hn]
  refine loop_foldI (J := fun n found ρ => ∃ x2 x3, found.length ≤ n ∧ (∀ r ∈ found, r.length = w) ∧ ρ = [some (.lst (rs.map rowD)), some (.lst (found.map rowD)), x2, x3]) stepA _ 0 [] _ ⟨_, _, by simp, by simp, rfl⟩ ?_ ?_
  · rintro i found r ρ hi hr ⟨x2, x3, hf, hwf, rfl⟩
    have hrw : r.length = w := h r (sortU_mem.mp hr)
    simp [wipeR]
    rw [lcF_of (enc := rowD) (enc' := rowD) (fun o => cov o r) (fun o => o)]
    · simp only [R.bind_ok, thn_ok, sat_ok]
      rw [oEq_nil (n := 2) (by simpa using cl_rows)]
      simp only [isEmpty_map, sat_ok, R.bind_ok, thn_ok, asB_bl]
      unfold stepA
      split
      · rename_i hE
        have : found.length < 16777216 := by have := sortU_len rs; omega
        simp [oMut, mAppend, this]
        exact ⟨by omega, fun a ha => by rcases ha with ha | rfl <;> simp_all⟩
      · rename_i hE
        simp
        exact ⟨by omega, fun a ha => hwf a ha⟩
    · intro o ho
      have := hwf o ho
      simp [covers_ok (a := o) (b := r) (by omega) (by omega)]
  · rintro ρ' ⟨x2, x3, _, _, rfl⟩
    simp [stairA]
/-! a script's stair -/
@[simp] theorem oMul_9 : oMul (.int 9) (.int 100000000000000000000000000000000000000000) = .ok (.int 900000000000000000000000000000000000000000) := rfl
/-- one of four -/
theorem pick4 {a b c d : Int} {k : Int} (h : 0 ≤ k) (h' : k < 4) : ∃ x, getI [.int a, .int b, .int c, .int d] k = .ok (.int x) ∧ (x = a ∨ x = b ∨ x = c ∨ x = d) := by
  obtain ⟨n, rfl⟩ := Int.eq_ofNat_of_zero_le h
  have : n = 0 ∨ n = 1 ∨ n = 2 ∨ n = 3 := by omega
  rcases this with rfl | rfl | rfl | rfl
  · exact ⟨a, getI_ok (by decide) rfl, by simp⟩
  · exact ⟨b, getI_ok (by decide) rfl, by simp⟩
  · exact ⟨c, getI_ok (by decide) rfl, by simp⟩
  · exact ⟨d, getI_ok (by decide) rfl, by simp⟩
end DL

set_option Elab.async false
set_option linter.all false
set_option maxRecDepth 100000
set_option maxHeartbeats 4000000
set_option autoImplicit false
/-! P2k: refusals caught, told by name. -/
namespace DL
open PySem
@[simp] theorem oIsX_e {c e : Ex} : oIsX c (.exc e) = .ok (.bl (decide (e = c))) := rfl
@[simp] theorem oIsVE_e {e : Ex} : oIsVE (.exc e) = .ok (.bl true) := rfl
@[simp] theorem isN_e {e : Ex} : isN (.exc e) = false := rfl
@[simp] theorem oTry_eq {os : List Nat} {i k : Nat} {g : Env → Out} {ρ : Env} : oTry os i k g ρ = match g ρ with
  | .xc e ρ' => .nx (((wipeR ρ' os).set i none).set k (some (.exc e)))
  | o => o := rfl
@[simp] theorem oMl_eq {o : List D → List D → R D} {f : Env → R D} {g : Env → R (List D)} {ρ : Env} : oMl o f g ρ = (f ρ).bind fun d => (isL d).bind fun xs => (g ρ).bind fun ds => o xs ds := rfl
theorem wp_try {os : List Nat} {i k : Nat} {g : Env → Out} {ρ : Env} {N : Env → Prop} {T : D → Prop} {X : Ex → Env → Prop} (h : (g ρ).wp N T fun e ρ' => N (((wipeR ρ' os).set i none).set k (some (.exc e)))) : (oTry os i k g ρ).wp N T X := by
  unfold oTry
  cases e : g ρ with
  | nx ρ1 => rw [e] at h; exact h
  | rt d => rw [e] at h; exact h
  | bad => rw [e] at h; exact h
  | xc c ρ1 => rw [e] at h; exact h
abbrev sD (x : String) : D := .str (PySem.Str.ofString x)
/-- a refusal's name -/
def exN : Ex → String
  | .web => "web"
  | .way => "way"
  | .place => "place"
  | .step => "step"
  | .width => "width"
  | .many => "many"
  | .text => "text"
  | .row => "row"
theorem kept_named (e : Ex) : F_law_kept [.exc e] = .ok (sD (exN e)) := by
  cases e <;> rfl
/-- two texts -/
theorem oNe_s {a b : Str} (ha : okP (.str a) = true) (hb : okP (.str b) = true) : oNe (.str a) (.str b) = .ok (.bl (!decide (a = b))) := by
  unfold oNe
  rw [if_pos ⟨ha, hb⟩]
  congr 3
end DL

set_option Elab.async false
set_option linter.all false
set_option maxRecDepth 100000
set_option maxHeartbeats 4000000
set_option autoImplicit false
/-! P2web: webs. -/
namespace DL
open PySem
structure Stp where
  a : Int
  b : Int
  p : List Int
abbrev stD (s : Stp) : D := .tup [.int s.a, .int s.b, rowD s.p]
abbrev webD (many width : Int) (steps : List Stp) : D := .tup [.int many, .int width, .lst (steps.map stD)]
@[simp] theorem g3_0 {a b c : D} : getI [a, b, c] 0 = .ok a := getI_ok (by decide) rfl
@[simp] theorem g3_1 {a b c : D} : getI [a, b, c] 1 = .ok b := getI_ok (by decide) rfl
@[simp] theorem g3_2 {a b c : D} : getI [a, b, c] 2 = .ok c := getI_ok (by decide) rfl
@[simp] theorem itS_row {r : List Int} : itS (rowD r) = .ok (r.map .int) := rfl
@[simp] theorem oLen_row {r : List Int} : oLen [rowD r] = .ok (.int r.length) := by unfold rowD; simp
theorem cl_st {s : Stp} : Cl 2 (stD s) := cl_tup (n := 1) fun d hd => by
  simp only [List.mem_cons, List.not_mem_nil, or_false] at hd
  rcases hd with rfl | rfl | rfl
  · exact cl_int
  · exact cl_int
  · exact cl_row
theorem cl_steps {ss : List Stp} : Cl 3 (.lst (ss.map stD)) := cl_lst (n := 2) fun d hd => by
  obtain ⟨s, _, rfl⟩ := List.mem_map.mp hd
  exact cl_st
theorem cl_web {m w : Int} {ss : List Stp} : Cl 4 (webD m w ss) := cl_tup (n := 3) fun d hd => by
  simp only [List.mem_cons, List.not_mem_nil, or_false] at hd
  rcases hd with rfl | rfl | rfl
  · exact cl_int
  · exact cl_int
  · exact cl_steps
/-- a web, by a look -/
def stepB (many width : Int) (s : Stp) : Bool := decide (0 ≤ s.a ∧ s.a < many ∧ 0 ≤ s.b ∧ s.b < many ∧ s.a ≠ s.b ∧ (s.p.length : Int) = width) && s.p.all fun x => decide (0 ≤ x)
def headB (many width : Int) (steps : List Stp) : Bool := decide (1 ≤ many ∧ many ≤ 12 ∧ (width = 2 ∨ width = 3) ∧ steps.length ≤ 40)
def webB (many width : Int) (steps : List Stp) : Bool := headB many width steps && steps.all (stepB many width)
@[simp] theorem asB_ite {c : Prop} [Decidable c] {a b : Bool} : asB (if c then .bl a else .bl b) = .ok (if c then a else b) := by split <;> rfl
theorem oMin_row {r : List Int} (h : r ≠ []) : oMinA [rowD r] = .ok (.int (minL r)) := by
  show (match intL (r.map D.int) with | some [] => R.bad | some ns => R.ok (D.int (minL ns)) | none => .bad) = _
  rw [ints_map]
  cases r with
  | nil => exact absurd rfl h
  | cons a l => rfl
theorem minL_neg {r : List Int} (h : r ≠ []) : minL r < 0 ↔ (r.all fun x => decide (0 ≤ x)) = false := by
  have := minL_mem h
  constructor
  · intro z
    rw [← Bool.not_eq_true, List.all_eq_true]
    intro q
    have := of_decide_eq_true (q _ this.1)
    omega
  · intro z
    rw [← Bool.not_eq_true, List.all_eq_true] at z
    refine Int.not_le.mp fun q => z fun x hx => decide_eq_true ?_
    have := this.2 x hx
    omega
theorem run_two {m : Nat} {g : Env → Out} {ds : List D} {c : Ex} {b : Bool} (h : (g (ds.map some ++ List.replicate m none)).wp (fun _ => b = true) (fun _ => False) (fun e _ => e = c ∧ b = false)) : runD m (.ok .non) g ds = if b = true then .ok .non else .exc c := by
  unfold runD
  cases e : g (ds.map some ++ List.replicate m none) with
  | nx ρ => rw [e] at h; rw [if_pos (show b = true from h)]
  | rt d' => rw [e] at h; exact h.elim
  | xc c' ρ =>
    rw [e] at h
    obtain ⟨h1, h2⟩ := (show c' = c ∧ b = false from h)
    rw [h2, if_neg (by decide), h1]
  | bad => rw [e] at h; exact h.elim
theorem loop_at {enc : Stp → D} {ss : List Stp} {i : Nat} {e : D} (he : (ss.map enc)[i]? = some e) : ∃ s, ss[i]? = some s ∧ e = enc s := by
  rw [List.getElem?_map] at he
  obtain ⟨s, h1, h2⟩ := Option.map_eq_some_iff.mp he
  exact ⟨s, h1, h2.symm⟩
theorem all_of_get {ss : List Stp} {f : Stp → Bool} (h : ∀ k < ss.length, ∀ s, ss[k]? = some s → f s = true) : ss.all f = true := by
  rw [List.all_eq_true]
  intro s hs
  obtain ⟨k, h1, h2⟩ := List.mem_iff_getElem.mp hs
  exact h k h1 s (List.getElem?_eq_some_iff.mpr ⟨h1, h2⟩)
theorem not_all {ss : List Stp} {f : Stp → Bool} {k : Nat} {s : Stp} (h : ss[k]? = some s) (hf : f s = false) : ss.all f = false := by
  rw [← Bool.not_eq_true, List.all_eq_true]
  intro z
  have := z s (List.mem_of_getElem? h)
  rw [hf] at this
  cases this
theorem check_web_ok {many width : Int} {steps : List Stp} : F_check_web [webD many width steps] = if webB many width steps = true then .ok .non else .exc .web := by
  refine run_two ?_
  unfold g_check_web
  simp
  by_cases h1 : headB many width steps = true
  · have hh := h1
    unfold headB at hh
    have hh := of_decide_eq_true hh
    have hn : ¬ (many < 1 ∨ 12 < many ∨ width < 2 ∨ 3 < width ∨ 40 < (steps.length : Int)) := by omega
    rw [if_neg hn]
    simp
    refine loop_inv (J := fun i ρ => ∃ x4 x5 x6, (∀ k < i, ∀ s, steps[k]? = some s → stepB many width s = true) ∧ ρ = [some (webD many width steps), some (.int many), some (.int width), some (.lst (steps.map stD)), x4, x5, x6]) _ 0 _ ⟨none, none, none, by simp, rfl⟩ ?_ ?_
    · rintro i e ρ he ⟨x4, x5, x6, hk, rfl⟩
      obtain ⟨s, hs, rfl⟩ := loop_at he
      have bad : stepB many width s = false → webB many width steps = false := fun z => by
        unfold webB
        rw [not_all hs z, Bool.and_false]
      simp
      by_cases h2 : 0 ≤ s.a ∧ s.a < many ∧ 0 ≤ s.b ∧ s.b < many ∧ s.a ≠ s.b
      · have hc : ¬ ((if s.b < s.a then s.b else s.a) < 0 ∨ many ≤ (if s.a < s.b then s.b else s.a) ∨ s.a = s.b) := by
          split <;> split <;> omega
        rw [if_neg hc]
        simp
        by_cases h3 : (s.p.length : Int) = width
        · have hne : s.p ≠ [] := fun z => by
            rw [z] at h3
            simp at h3
            omega
          simp [h3, oMin_row hne]
          by_cases h4 : minL s.p < 0
          · rw [if_pos h4]
            refine ⟨rfl, bad ?_⟩
            unfold stepB
            rw [(minL_neg hne).mp h4, Bool.and_false]
          · rw [if_neg h4]
            refine ⟨fun k hk2 t ht => ?_, _, _, _, rfl⟩
            by_cases hki : k = i
            · subst hki
              rw [hs] at ht
              cases ht
              unfold stepB
              have : (s.p.all fun x => decide (0 ≤ x)) = true := by
                cases e : s.p.all fun x => decide (0 ≤ x)
                · exact absurd ((minL_neg hne).mpr e) h4
                · rfl
              rw [this, Bool.and_true]
              exact decide_eq_true ⟨h2.1, h2.2.1, h2.2.2.1, h2.2.2.2.1, h2.2.2.2.2, h3⟩
            · exact hk k (by omega) t ht
        · simp [h3]
          refine bad ?_
          unfold stepB
          rw [decide_eq_false (fun z => h3 z.2.2.2.2.2), Bool.false_and]
      · have hc : (if s.b < s.a then s.b else s.a) < 0 ∨ many ≤ (if s.a < s.b then s.b else s.a) ∨ s.a = s.b := by
          split <;> split <;> omega
        rw [if_pos hc]
        refine ⟨rfl, bad ?_⟩
        unfold stepB
        rw [decide_eq_false (fun z => h2 ⟨z.1, z.2.1, z.2.2.1, z.2.2.2.1, z.2.2.2.2.1⟩), Bool.false_and]
    · rintro ρ ⟨x4, x5, x6, hk, rfl⟩
      unfold webB
      rw [h1, Bool.true_and]
      exact all_of_get fun k hk2 s hs => hk k (by simpa using hk2) s hs
  · have hh := Bool.eq_false_iff.mpr h1
    have h2 := hh
    unfold headB at h2
    have h2 := of_decide_eq_false h2
    have hc : many < 1 ∨ 12 < many ∨ width < 2 ∨ 3 < width ∨ 40 < (steps.length : Int) := by omega
    rw [if_pos hc]
    refine ⟨rfl, ?_⟩
    unfold webB
    rw [hh, Bool.false_and]
theorem law_is_web_ok {many width : Int} {steps : List Stp} : F_law_is_web [webD many width steps] = .ok (.bl (webB many width steps)) := by
  refine run_ok ?_
  unfold g_law_is_web
  have e23 : oIn true (.int width) (.lst [.int 2, .int 3]) = .ok (.bl (!(decide (width = 2) || decide (width = 3)))) := by
    have h2 : Cl 1 (.lst [.int 2, .int 3]) := cl_lst (n := 0) (by simp [Cl])
    have h1 : Cl 0 (D.int width) := cl_int
    unfold oIn
    dsimp only
    rw [if_pos ⟨h1.ok (by decide), h2.ok (by decide)⟩]
    have q : ∀ i j : Int, deq (.int i) (.int j) = decide (j = i) := fun i j => by
      rw [Bool.eq_iff_iff, deq_iff (n := 0) (m := 0) cl_int cl_int]
      simp [eq_comm]
    simp [q]
  simp [dChain, e23]
  by_cases h1 : headB many width steps = true
  · have hh := h1
    unfold headB at hh
    have hh := of_decide_eq_true hh
    rw [if_neg (by omega)]
    simp
    refine loop_inv (J := fun i ρ => ∃ x4 x5 x6, (∀ k < i, ∀ s, steps[k]? = some s → stepB many width s = true) ∧ ρ = [some (webD many width steps), some (.int many), some (.int width), some (.lst (steps.map stD)), x4, x5, x6, none]) _ 0 _ ⟨none, none, none, by simp, rfl⟩ ?_ ?_
    · rintro i e ρ he ⟨x4, x5, x6, hk, rfl⟩
      obtain ⟨s, hs, rfl⟩ := loop_at he
      have bad : stepB many width s = false → webB many width steps = false := fun z => by
        unfold webB
        rw [not_all hs z, Bool.and_false]
      simp [dChain]
      by_cases h2 : 0 ≤ s.a ∧ s.a < many ∧ 0 ≤ s.b ∧ s.b < many ∧ s.a ≠ s.b ∧ (s.p.length : Int) = width
      · rw [if_neg (by omega)]
        simp
        rw [lcF_of (enc := D.int) (enc' := D.int) (fun x => decide (x < 0)) (fun x => x)]
        · simp [oNe_cl (n := 1) (cl_lst (n := 0) cl_ints) (cl_lst (n := 0) (ds := []) (by simp))]
          have e : deq (.lst ((s.p.filter fun x => decide (x < 0)).map D.int)) (.lst []) = s.p.all fun x => decide (0 ≤ x) := by
            rw [deq_nil (n := 1) (cl_lst (n := 0) cl_ints), isEmpty_map, filter_isEmpty]
            congr 1
            funext x
            simp only [← decide_not, Int.not_lt]
          rw [e]
          cases e2 : s.p.all fun x => decide (0 ≤ x)
          · simp
            refine (bad ?_)
            unfold stepB
            rw [e2, Bool.and_false]
          · simp
            refine fun k hk2 t ht => ?_
            by_cases hki : k = i
            · subst hki
              rw [hs] at ht
              cases ht
              unfold stepB
              rw [e2, Bool.and_true]
              exact decide_eq_true h2
            · exact hk k (by omega) t ht
        · intro x hx
          simp
      · rw [if_pos (by omega)]
        have : stepB many width s = false := by
          unfold stepB
          rw [decide_eq_false h2, Bool.false_and]
        simp [bad this]
    · rintro ρ ⟨x4, x5, x6, hk, rfl⟩
      unfold webB
      rw [h1, Bool.true_and]
      exact all_of_get fun k hk2 s hs => hk k (by simpa using hk2) s hs
  · have hh := Bool.eq_false_iff.mpr h1
    have h2 := hh
    unfold headB at h2
    have h2 := of_decide_eq_false h2
    rw [if_pos (by omega)]
    unfold webB
    rw [hh, Bool.false_and]
    rfl
/-! ### a web, drawn -/
/-- what is drawn: a good web of prices of at most forty figures -/
structure GoodWeb (many width : Int) (steps : List Stp) : Prop where
  m1 : 1 ≤ many
  m2 : many ≤ 12
  w : width = 2 ∨ width = 3
  l : steps.length ≤ 40
  s : ∀ s ∈ steps, 0 ≤ s.a ∧ s.a < many ∧ 0 ≤ s.b ∧ s.b < many ∧ s.a ≠ s.b ∧ (s.p.length : Int) = width ∧ ∀ x ∈ s.p, 0 ≤ x ∧ x ≤ 10000000000000000000000000000000000000000
theorem getI_ints {xs : List Int} {k : Int} (h : 0 ≤ k) (h' : k < xs.length) : ∃ x, getI (xs.map D.int) k = .ok (.int x) ∧ x ∈ xs := by
  have h2 : k.toNat < xs.length := by omega
  exact ⟨_, getI_map (enc := D.int) h h2, List.getElem_mem h2⟩
theorem price_ex {n kind : Int} (h : 0 ≤ n) (h' : n < 2147483648) : ∃ x : Int, F_law_price [.int n, .int kind] = .ok (.int x) ∧ 0 ≤ x ∧ x ≤ 10000000000000000000000000000000000000000 := by
  have z : ∃ d, F_law_price [.int n, .int kind] = .ok d ∧ ∃ x : Int, d = .int x ∧ 0 ≤ x ∧ x ≤ 10000000000000000000000000000000000000000 := by
    refine run_ex ?_
    unfold g_law_price
    simp
    by_cases h1 : kind = 1
    · simp [h1]
      omega
    · simp [h1]
      by_cases h2 : kind = 2
      · simp [h2]
        obtain ⟨x, ex, hx⟩ := getI_ints (xs := [1000000000000000000000000000000000000, 10000000000000000000000000000000000000]) (k := n / 3000 % 2) (by omega) (by simp; omega)
        simp at ex hx
        have hx0 : 0 ≤ x ∧ x ≤ 10000000000000000000000000000000000000 := by omega
        have e0 := Int.mul_nonneg (show 0 ≤ n % 1000 by omega) hx0.1
        have e1 : n % 1000 * x ≤ 999 * 10000000000000000000000000000000000000 := Int.mul_le_mul (by omega) hx0.2 hx0.1 (by decide)
        simp [ex, oMul_ok (i := n % 1000) (j := x) ⟨by omega, by omega⟩ ⟨by omega, by omega⟩]
        omega
      · simp [h2]
        obtain ⟨x, ex, hx⟩ := getI_ints (xs := [10, 4]) (k := if kind = 3 then 1 else 0) (by split <;> omega) (by split <;> simp)
        simp at ex hx
        have hx0 : 4 ≤ x ∧ x ≤ 10 := by omega
        have q1 := Int.emod_nonneg n (show x ≠ 0 by omega)
        have q2 := Int.emod_lt_of_pos n (show 0 < x by omega)
        simp [ex, show 0 < x by omega]
        omega
  obtain ⟨d, e, x, rfl, h⟩ := z
  exact ⟨x, e, h⟩
theorem web_ex (ns : List Int) : ∃ many width steps, F_law_web [.lst (ns.map .int)] = .ok (webD many width steps) ∧ GoodWeb many width steps := by
  have z : ∃ d, F_law_web [.lst (ns.map .int)] = .ok d ∧ ∃ many width steps, d = webD many width steps ∧ GoodWeb many width steps := by
    refine run_ex ?_
    unfold g_law_web
    obtain ⟨m0, b0, c0⟩ := mix_ok (c := cellA ns 0) (k := 0) (by decide) (by decide)
    obtain ⟨m1, b1, c1⟩ := mix_ok (c := cellA ns 0) (k := 1) (by decide) (by decide)
    obtain ⟨m2, b2, c2⟩ := mix_ok (c := cellA ns 0) (k := 2) (by decide) (by decide)
    obtain ⟨m3, b3, c3⟩ := mix_ok (c := cellA ns 0) (k := 3) (by decide) (by decide)
    obtain ⟨m4, b4, c4⟩ := mix_ok (c := cellA ns 0) (k := 4) (by decide) (by decide)
    simp [F_cell_at (show (0 : Int) ≤ 0 by decide), m0, m1, m4, oMul_ok (i := 3) (j := 1 + mixA (cellA ns 0) 0 % 6) ⟨by decide, by decide⟩ ⟨by omega, by omega⟩]
    generalize mixA (cellA ns 0) 4 = q4
    generalize mixA (cellA ns 0) 1 = q1
    generalize mixA (cellA ns 0) 0 = q0 at *
    refine wp_mid (I := fun ρ => ∃ many most kind : Int, 1 ≤ many ∧ many ≤ 12 ∧ 1 ≤ most ∧ most ≤ 41 ∧ ρ = [some (.lst (ns.map .int)), some (.int (cellA ns 0)), some (.int many), some (.int most), some (.int kind), none, none, none, none, none, none, none, none, none]) ?_ ?_
    · by_cases h : q1 % 8 = 1
      · rw [if_pos h]
        simp [m0]
        exact ⟨_, by omega, by omega, _, by omega, by omega, rfl, rfl⟩
      · rw [if_neg h]
        exact ⟨_, _, _, by omega, by omega, by omega, by omega, rfl⟩
    rintro ρ ⟨many, most, kind, hm1, hm2, ho1, ho2, rfl⟩
    simp [m0, m1]
    refine wp_mid (I := fun ρ => ∃ many most kind : Int, 1 ≤ many ∧ many ≤ 12 ∧ 1 ≤ most ∧ most ≤ 41 ∧ ρ = [some (.lst (ns.map .int)), some (.int (cellA ns 0)), some (.int many), some (.int most), some (.int kind), none, none, none, none, none, none, none, none, none]) ?_ ?_
    · split
      · exact ⟨_, _, _, by omega, by omega, by omega, by omega, rfl⟩
      · exact ⟨_, _, _, hm1, hm2, ho1, ho2, rfl⟩
    clear hm1 hm2 ho1 ho2
    rintro ρ ⟨many, most, kind, hm1, hm2, ho1, ho2, rfl⟩
    have k1 := Int.emod_nonneg (mixA (cellA ns 0) 3) (show most ≠ 0 by omega)
    have k2 := Int.emod_lt_of_pos (mixA (cellA ns 0) 3) (show 0 < most by omega)
    simp [m2, m3, show 0 < most by omega, itR1_ok k1 (by omega), upTo_map]
    obtain ⟨w, hw, ew⟩ : ∃ w : Nat, (w = 2 ∨ w = 3) ∧ 2 + mixA (cellA ns 0) 2 % 2 = w := ⟨(2 + mixA (cellA ns 0) 2 % 2).toNat, by omega, by omega⟩
    rw [ew]
    refine loop_foldI (J := fun n (_ : Unit) ρ => ∃ (ss : List Stp) (x7 x8 x9 x10 x11 x12 x13 : Option D), GoodWeb many w ss ∧ ρ = [some (.lst (ns.map .int)), some (.int (cellA ns 0)), some (.int many), some (.int most), some (.int kind), some (.int w), some (.lst (ss.map stD)), x7, x8, x9, x10, x11, x12, x13]) (fun s _ => s) _ 0 () _ ⟨[], none, none, none, none, none, none, none, ⟨hm1, hm2, by omega, by simp, by simp⟩, rfl⟩ ?_ ?_
    · rintro i ⟨⟩ a ρ hi ha ⟨ss, x7, x8, x9, x10, x11, x12, x13, GW, rfl⟩
      have ha2 : a < 41 := by have := List.mem_range.mp ha; omega
      obtain ⟨m5, b5, c5⟩ := mix_ok (c := cellA ns (1 + (a : Int) % 10)) (k := 20 + (a : Int)) (by omega) (by omega)
      simp [F_cell_at (ns := ns) (k := 1 + (a : Int) % 10) (by omega), m5, show 0 < many by omega]
      generalize mixA (cellA ns (1 + (a : Int) % 10)) (20 + (a : Int)) = q
      have hmx : 0 < (if 1 < many - 1 then many - 1 else 1) := by split <;> omega
      have hmx2 : (if 1 < many - 1 then many - 1 else 1) ≤ 12 := by split <;> omega
      generalize (if 1 < many - 1 then many - 1 else 1) = mx at hmx hmx2
      simp [hmx, show 0 < many by omega, itR1_ok (j := (w : Int)) (by omega) (by omega), upTo_map]
      generalize hone : q % many = one
      have hone1 : 0 ≤ one ∧ one < many := by
        rw [← hone]
        exact ⟨Int.emod_nonneg _ (by omega), Int.emod_lt_of_pos _ (by omega)⟩
      generalize hoth : (one + 1 + q / 16 % mx) % many = oth
      have hoth1 : 0 ≤ oth ∧ oth < many := by
        rw [← hoth]
        exact ⟨Int.emod_nonneg _ (by omega), Int.emod_lt_of_pos _ (by omega)⟩
      refine loop_foldI (J := fun n (_ : Unit) ρ => ∃ (r : List Int) (x12 x13 : Option D), r.length = n ∧ (∀ x ∈ r, 0 ≤ x ∧ x ≤ 10000000000000000000000000000000000000000) ∧ ρ = [some (.lst (ns.map .int)), some (.int (cellA ns 0)), some (.int many), some (.int most), some (.int kind), some (.int w), some (.lst (ss.map stD)), some (.int a), some (.int q), some (.int one), some (.int oth), some (.lst (r.map .int)), x12, x13]) (fun s _ => s) _ 0 () _ ⟨[], x12, x13, rfl, by simp, by simp⟩ ?_ ?_
      · rintro s ⟨⟩ b ρ hs hb ⟨r, x12, x13, hr, hrb, rfl⟩
        have hb2 : b < w := List.mem_range.mp hb
        obtain ⟨m6, b6, c6⟩ := mix_ok (c := cellA ns (1 + (a : Int) % 10)) (k := 60 + 3 * (a : Int) + (b : Int)) (by omega) (by omega)
        obtain ⟨x, ex, hx⟩ := price_ex (kind := kind) b6 c6
        have hr2 : r.length < 16777216 := by simp at hs; omega
        simp [oMul_ok (i := 3) (j := (a : Int)) ⟨by decide, by decide⟩ ⟨by omega, by omega⟩, F_cell_at (ns := ns) (k := 1 + (a : Int) % 10) (by omega), m6, ex, hr2]
        refine ⟨r ++ [x], by simp; omega, fun y hy => ?_, by simp⟩
        rcases List.mem_append.mp hy with hy | hy
        · exact hrb y hy
        · rw [List.mem_singleton.mp hy]
          exact hx
      · rintro ρ ⟨r, x12, x13, hr, hrb, rfl⟩
        have hl := GW.l
        simp
        by_cases hc : one ≠ oth ∧ (ss.length : Int) < 40
        · rw [if_pos hc]
          simp [show ss.length < 16777216 by omega]
          refine ⟨ss ++ [⟨one, oth, r⟩], ⟨hm1, hm2, GW.w, by simp; omega, fun s hs => ?_⟩, by simp [rowD]⟩
          rcases List.mem_append.mp hs with hs | hs
          · exact GW.s s hs
          · rw [List.mem_singleton.mp hs]
            exact ⟨hone1.1, hone1.2, hoth1.1, hoth1.2, hc.1, by simp at hr; simp [hr], hrb⟩
        · rw [if_neg hc]
          exact ⟨ss, GW, _, _, _, _, _, _, _, rfl⟩
    · rintro ρ ⟨ss, x7, x8, x9, x10, x11, x12, x13, GW, rfl⟩
      simp
      exact ⟨many, w, ss, ⟨rfl, rfl, rfl⟩, GW⟩
  obtain ⟨d, e, m, w, s, rfl, h⟩ := z
  exact ⟨m, w, s, e, h⟩
end DL

set_option Elab.async false
set_option linter.all false
set_option maxRecDepth 100000
set_option maxHeartbeats 4000000
set_option autoImplicit false
/-! P2s: the program's covers, stair_of, is_stair. -/
namespace DL
open PySem
@[simp] theorem oAll_m {l : List Bool} : oAll [.lst (l.map .bl)] = .ok (.bl (l.all id)) := by
  show (match bools (l.map D.bl) with | some bs => R.ok (D.bl (bs.all id)) | none => .bad) = _
  rw [bools_map]
@[simp] theorem oAny_m {l : List Bool} : oAny [.lst (l.map .bl)] = .ok (.bl (l.any id)) := by
  show (match bools (l.map D.bl) with | some bs => R.ok (D.bl (bs.any id)) | none => .bad) = _
  rw [bools_map]
theorem filter_yes {α : Type} (l : List α) : l.filter (fun _ => true) = l := List.filter_eq_self.mpr fun _ _ => rfl
theorem pcovers_ok {a b : List Int} (h : a.length ≤ b.length) (hl : a.length ≤ 1000) : F_covers [rowD a, rowD b] = .ok (.bl (cov a b)) := by
  refine run_ok ?_
  unfold g_covers
  have e : oLen [rowD a] = .ok (.int a.length) := by unfold rowD; simp
  simp [e, itR1_ok (show (0 : Int) ≤ a.length by omega) (show (a.length : Int) ≤ 16777216 by omega), upTo_map]
  rw [lcF_of (enc := fun i : Nat => D.int i) (enc' := D.bl) (fun _ => true) (fun k => decide (a.getD k 0 ≤ b.getD k 0))]
  · rw [filter_yes]
    simp only [R.bind_ok, oAll_m, sat_ok, cov, List.all_map]
    rfl
  · intro k hk
    have hk : k < a.length := List.mem_range.mp hk
    simp [wipeR, getI_row (r := a) (k := k) (by omega) (by omega), getI_row (r := b) (k := k) (by omega) (by omega), at0]
/-! sorted rows, each once -/
theorem cov_self (r : List Int) : cov r r = true := by simp [cov]
theorem stepA_cov (found : List (List Int)) (r : List Int) : ∃ o ∈ stepA found r, cov o r = true := by
  unfold stepA
  split
  · exact ⟨r, by simp, cov_self r⟩
  · rename_i h
    rw [filter_isEmpty] at h
    simp at h
    exact h
theorem stepA_twice (found : List (List Int)) (r : List Int) : stepA (stepA found r) r = stepA found r := by
  obtain ⟨o, ho, hc⟩ := stepA_cov found r
  generalize stepA found r = f at *
  unfold stepA
  rw [if_neg]
  rw [filter_isEmpty]
  simp
  exact ⟨o, ho, hc⟩
/-- neighbours alike, once -/
def dd : List (List Int) → List (List Int)
  | [] => []
  | [a] => [a]
  | a :: b :: l => if a = b then dd (b :: l) else a :: dd (b :: l)
theorem dd_mem {y : List Int} : ∀ {l : List (List Int)}, y ∈ dd l ↔ y ∈ l
  | [] => Iff.rfl
  | [a] => Iff.rfl
  | a :: b :: l => by
    unfold dd
    split
    · rename_i h
      subst h
      rw [dd_mem]
      simp
    · rw [List.mem_cons, dd_mem, List.mem_cons (a := y) (b := a)]
theorem lt_le {a b c : List Int} (h : a < b) (h2 : b ≤ c) : a < c := by
  rcases List.le_iff_lt_or_eq.mp h2 with h2 | h2
  · exact List.lt_trans h h2
  · exact h2 ▸ h
theorem dd_asc : ∀ {l : List (List Int)}, l.Pairwise (· ≤ ·) → (dd l).Pairwise (· < ·)
  | [], _ => List.Pairwise.nil
  | [a], _ => by simp [dd]
  | a :: b :: l, h => by
    have h1 := List.pairwise_cons.mp h
    have ih := dd_asc h1.2
    unfold dd
    split
    · exact ih
    · rename_i hne
      refine List.pairwise_cons.mpr ⟨fun y hy => ?_, ih⟩
      have hy2 : y ∈ b :: l := dd_mem.mp hy
      have hab : a ≤ b := h1.1 b List.mem_cons_self
      have hlt : a < b := by
        rcases List.le_iff_lt_or_eq.mp hab with h | h
        · exact h
        · exact absurd h hne
      rcases List.mem_cons.mp hy2 with e | e
      · subst e; exact hlt
      · exact lt_le hlt ((List.pairwise_cons.mp h1.2).1 y e)
theorem dd_fold : ∀ (l : List (List Int)) (found : List (List Int)), (dd l).foldl stepA found = l.foldl stepA found
  | [], _ => rfl
  | [a], _ => rfl
  | a :: b :: l, found => by
    unfold dd
    split
    · rename_i h
      subst h
      rw [dd_fold (a :: l) found]
      simp only [List.foldl_cons, stepA_twice]
    · rw [List.foldl_cons, List.foldl_cons, dd_fold (b :: l)]
theorem sort_asc (rs : List (List Int)) : (rs.mergeSort rowLe).Pairwise (· ≤ ·) := by
  have h := List.pairwise_mergeSort (le := rowLe) (fun a b c h1 h2 => by
      simp only [rowLe, decide_eq_true_eq] at *
      exact List.le_trans h1 h2) (fun a b => by
      simp only [rowLe, Bool.or_eq_true, decide_eq_true_eq]
      exact List.le_total a b) rs
  exact h.imp fun h => by simpa [rowLe] using h
theorem dd_sort (rs : List (List Int)) : dd (rs.mergeSort rowLe) = sortU rs :=
  asc_ext (dd_asc (sort_asc rs)) sortU_asc fun y => by rw [dd_mem, sortU_mem, List.mem_mergeSort]
theorem fold_sort (rs : List (List Int)) : (rs.mergeSort rowLe).foldl stepA [] = stairA rs := by
  rw [← dd_fold, dd_sort]
  rfl
theorem oSort_ok {rs : List (List Int)} {w : Nat} (h : Wd w rs) (hw : 0 < w) : oSort (rs.map rowD) = .ok (.lst ((rs.mergeSort rowLe).map rowD)) := by
  have hh : rs.all (fun r => !r.isEmpty) = true := by
    rw [List.all_eq_true]
    intro r hr
    have := h r hr
    cases r with
    | nil => exact absurd this (by show ¬ (0 = w); omega)
    | cons a r => rfl
  unfold oSort
  rw [rowsOf_map]
  dsimp only
  rw [if_pos hh]
theorem stair_of_ok {rs : List (List Int)} {w : Nat} (h : Wd w rs) (hw : 0 < w) (hw2 : w ≤ 1000) (hn : rs.length < 16777216) : F_stair_of [.lst (rs.map rowD)] = .ok (.lst ((stairA rs).map rowD)) := by
  refine run_ok ?_
  unfold g_stair_of
  simp [oSort_ok h hw]
  refine loop_foldI (J := fun n found ρ => ∃ x2 x3, found.length ≤ n ∧ (∀ r ∈ found, r.length = w) ∧ ρ = [some (.lst (rs.map rowD)), some (.lst (found.map rowD)), x2, x3]) stepA _ 0 [] _ ⟨_, _, by simp, by simp, rfl⟩ ?_ ?_
  · rintro i found r ρ hi hr ⟨x2, x3, hf, hwf, rfl⟩
    have hrw : r.length = w := h r (List.mem_mergeSort.mp hr)
    simp
    rw [lcF_of (enc := rowD) (enc' := D.bl) (fun _ => true) (fun o => cov o r)]
    · rw [filter_yes]
      simp [-List.map_map]
      unfold stepA
      rw [filter_isEmpty]
      have hlen : found.length < 16777216 := by
        simp at hi
        omega
      by_cases hc : ∀ x ∈ found, cov x r = false
      · have h2 : (found.all fun a => !cov a r) = true := by simpa using hc
        rw [if_pos hc]
        simp [hlen, h2]
        exact ⟨by omega, fun a ha => by rcases ha with ha | rfl <;> simp_all⟩
      · have h2 : (found.all fun a => !cov a r) = false := by
          cases e : (found.all fun a => !cov a r)
          · rfl
          · exact absurd (by simpa using e) hc
        rw [if_neg hc]
        simp [h2]
        exact ⟨by omega, hwf⟩
    · intro o ho
      have := hwf o ho
      simp [pcovers_ok (a := o) (b := r) (by omega) (by omega)]
  · rintro ρ' ⟨x2, x3, _, _, rfl⟩
    simp [fold_sort]
end DL

set_option Elab.async false
set_option linter.all false
set_option maxRecDepth 100000
set_option maxHeartbeats 4000000
set_option autoImplicit false
/-! P2x: texts. -/
namespace DL
open PySem L2 TL
/-! ### texts in D -/
def Asc (x : Str) : Prop := ∀ c ∈ tl x, c < 128
theorem cl_str {n : Nat} {x : Str} (h : Asc x) : Cl n (.str x) := by
  have e : (toP (.str x)).canLay0 = true := by
    show (x.cps.all (· < 0x110000)) = true
    rw [← Array.all_toList, List.all_eq_true]
    intro c hc
    have := h c hc
    exact decide_eq_true (by omega)
  simpa [Cl] using e
theorem okS {x : Str} (h : Asc x) : okP (.str x) = true := (cl_str (n := 0) h).ok (by decide)
theorem oNe_a {a b : Str} (ha : Asc a) (hb : Asc b) : oNe (.str a) (.str b) = .ok (.bl (!decide (a = b))) := oNe_s (okS ha) (okS hb)
theorem oEq_a {a b : Str} (ha : Asc a) (hb : Asc b) : oEq (.str a) (.str b) = .ok (.bl (decide (a = b))) := by
  unfold oEq
  rw [if_pos ⟨okS ha, okS hb⟩]
  congr 3
theorem asc_of {s : String} (h : (s.toList.map Char.toNat).all (· < 128) = true := by decide) : Asc (Str.ofString s) := by
  intro c hc
  rw [tl_ofString] at hc
  exact of_decide_eq_true (List.all_eq_true.mp h c hc)
theorem asc_app {x y : Str} (h : Asc x) (h' : Asc y) : Asc (x ++ y) := fun c hc => by
  rw [tl_append] at hc
  rcases List.mem_append.mp hc with hc | hc
  · exact h c hc
  · exact h' c hc
def numS (n : Nat) : Str := Str.ofString (toString ((n : Nat) : Int))
theorem tl_numS (n : Nat) : tl (numS n) = numL n := tl_num n
theorem asc_num (n : Nat) : Asc (numS n) := fun c hc => by
  rw [tl_numS] at hc
  have := numL_digits n c hc
  omega
theorem oStr_ok {n : Int} (h : 0 ≤ n) (h' : n < 10 ^ 100) : oStr [.int n] = .ok (.str (numS n.toNat)) := by
  show (if n.natAbs.log2 < 1920 then _ else _) = _
  have e : n.natAbs.log2 < 1920 := by
    by_cases z : n.natAbs = 0
    · rw [z]; decide
    · rw [Nat.log2_lt z]
      have : n.natAbs < 10 ^ 100 := by omega
      exact Nat.lt_trans this (by decide +kernel)
  rw [if_pos e]
  have : ((n.toNat : Nat) : Int) = n := by omega
  unfold numS
  rw [this]
theorem len_numS {n k : Nat} (hk : 0 < k) (h : n < 10 ^ k) : (numS n).length ≤ k := by
  rw [len_tl, tl_numS]
  exact numL_len hk h
theorem len_numS_pos (n : Nat) : 0 < (numS n).length := by
  rw [len_tl, tl_numS]
  exact List.length_pos_iff.mpr (numL_ne n)
theorem numS_inj {m n : Nat} (h : numS m = numS n) : m = n := numL_inj (by rw [← tl_numS, ← tl_numS, h])
/-- no number but nought begins with nought -/
theorem numL_head (n : Nat) : n ≠ 0 → ∀ c l, numL n = c :: l → c ≠ 48 := by
  induction n using Nat.strongRecOn with
  | _ n ih =>
    intro hn c l e
    by_cases h : n < 10
    · rw [numL_lt h] at e
      cases e
      omega
    · rw [numL_step (by omega)] at e
      cases e2 : numL (n / 10) with
      | nil => exact absurd e2 (numL_ne _)
      | cons d r =>
        rw [e2, List.cons_append] at e
        cases e
        exact ih (n / 10) (by omega) (by omega) c r e2
theorem cutS_take {z : Str} {k : Nat} (h : k ≤ z.length) : tl (cutS z none (some (k : Int))) = (tl z).take k := by
  unfold cutS
  rw [tl_mk]
  have e : HT.sIx z.length z.length (some (k : Int)) = k := by
    simp [HT.sIx]
    split <;> omega
  have e0 : HT.sIx z.length 0 none = 0 := rfl
  rw [e, e0]
  rfl
/-! ### numbers read -/
theorem sure_ok : F_sure [.bl true] = .ok .non := rfl
theorem digits_txt : tl (Str.ofString "0123456789") = [48, 49, 50, 51, 52, 53, 54, 55, 56, 57] := by rw [tl_ofString]; decide
theorem inS_digit {c : Nat} (h : 48 ≤ c ∧ c ≤ 57) : oInS false (.str ⟨#[c]⟩) (.str (Str.ofString "0123456789")) = .ok (.bl true) := by
  unfold oInS
  dsimp only
  rw [if_pos (show (⟨#[c]⟩ : Str).length = 1 from rfl)]
  have : ((Str.ofString "0123456789").cps.toList.contains ((⟨#[c]⟩ : Str).cps.getD 0 0)) = true := by
    show ((tl (Str.ofString "0123456789")).contains c) = true
    rw [digits_txt, List.contains_iff_mem]
    simp
    omega
  rw [this]
  rfl
theorem asc_0 : Asc (Str.ofString "0") := asc_of
theorem tl_0 : tl (Str.ofString "0") = [48] := by rw [tl_ofString]; decide
theorem oIx_s0 {z : Str} {c : Nat} {l : List Nat} (h : tl z = c :: l) (hz : z.length ≤ 16777216) : oIx (.str z) (.int 0) = .ok (.str ⟨#[c]⟩) := by
  show (if (0 : Int) ≤ 0 ∧ (0 : Int) < z.length ∧ z.length ≤ 16777216 then (match z.cps.toList[(0 : Int).toNat]? with | some c => R.ok (D.str ⟨#[c]⟩) | none => .bad) else .bad) = _
  have hl : 0 < z.length := by rw [len_tl, h]; simp
  rw [if_pos ⟨by decide, by omega, hz⟩]
  have e : z.cps.toList[(0 : Int).toNat]? = some c := by
    show (tl z)[0]? = some c
    rw [h]
    rfl
  rw [e]
@[simp] theorem oLen_s {z : Str} : oLen [.str z] = if z.length ≤ 16777216 then .ok (.int z.length) else .bad := rfl
theorem count_in_num {n : Nat} (h : n < 10 ^ 40) : F_count_in [.str (numS n)] = .ok (.int n) := by
  refine run_ok ?_
  unfold g_count_in
  have hl := len_numS (k := 40) (by decide) h
  have hl0 := len_numS_pos n
  have hl2 : (numS n).length ≤ 16777216 := by omega
  simp [dChain, hl2, hl0, show ((numS n).length : Int) ≤ 40 by omega, sure_ok]
  obtain ⟨c, l, e⟩ : ∃ c l, numL n = c :: l := by
    cases e : numL n with
    | nil => exact absurd e (numL_ne n)
    | cons c l => exact ⟨c, l, rfl⟩
  have ei : iStrs (dV 0) [some (D.str (numS n)), none] = .ok ((numL n).map fun c => D.str ⟨#[c]⟩) := by
    show (if (numS n).length ≤ sizeLine then R.ok ((numS n).cps.toList.map fun c => D.str ⟨#[c]⟩) else .bad) = _
    rw [if_pos (by rw [sizeLine_eq]; exact hl2)]
    rw [← tl_numS]
  rw [ei]
  simp
  refine loop_foldI (J := fun _ (_ : Unit) ρ => ∃ x1, ρ = [some (.str (numS n)), x1]) (fun s _ => s) _ 0 () _ ⟨_, rfl⟩ ?_ ?_
  · rintro i ⟨⟩ c ρ hi hc ⟨x1, rfl⟩
    have hd := numL_digits n c hc
    simp [inS_digit hd, sure_ok]
  · rintro ρ ⟨x1, rfl⟩
    have e0 := oIx_s0 (z := numS n) (by rw [tl_numS]; exact e) hl2
    have ac : Asc ⟨#[c]⟩ := fun d hd => by
      have hd : d ∈ [c] := hd
      rw [List.mem_singleton.mp hd]
      have := asc_num n c (by rw [tl_numS, e]; exact List.mem_cons_self)
      exact this
    have key : (!decide ((⟨#[c]⟩ : Str) = Str.ofString "0")) = true ∨ decide (numS n = Str.ofString "0") = true := by
      by_cases hn : n = 0
      · right
        subst hn
        exact decide_eq_true (ext_tl (by rw [tl_numS, numL_lt (by decide), tl_0]))
      · left
        have := numL_head n hn c l e
        rw [decide_eq_false fun z => this ?_]
        · rfl
        · have z2 := congrArg tl z
          rw [tl_0] at z2
          have z2 : [c] = [48] := z2
          exact (List.cons.inj z2).1
    have ea : oInt [.str (numS n)] = .ok (.int n) := by
      show (if (numS n).length ≤ 640 then (match intText? (numS n) with | some n => R.ok (D.int n) | none => .bad) else .bad) = _
      rw [if_pos (by omega)]
      have := int_num (n := n) (by rw [← tl_numS, ← len_tl]; omega)
      have : intText? (numS n) = some (n : Int) := this
      rw [this]
    simp [e0, oNe_a ac asc_0, oEq_a (asc_num n) asc_0, ea]
    rcases key with k | k
    · simp at k
      simp [k, sure_ok]
    · simp at k
      simp [k, sure_ok]
theorem tl_minus : tl (Str.ofString "-") = [45] := by rw [tl_ofString]; decide
theorem number_in_num {n : Nat} (h : n < 10 ^ 40) : F_number_in [.str (numS n)] = .ok (.int n) := by
  refine run_ok ?_
  unfold g_number_in
  have hl := len_numS (k := 40) (by decide) h
  have hl0 := len_numS_pos n
  have hl2 : (numS n).length ≤ 16777216 := by omega
  have ec := cutS_take (z := numS n) (k := 1) (by omega)
  have ac : Asc (cutS (numS n) none (some 1)) := fun c hc => by
    have hc : c ∈ tl (cutS (numS n) none (some ((1 : Nat) : Int))) := hc
    rw [ec] at hc
    exact asc_num n c (List.mem_of_mem_take hc)
  have en : cutS (numS n) none (some 1) ≠ Str.ofString "-" := fun z => by
    have z2 := congrArg tl z
    rw [tl_minus, show tl (cutS (numS n) none (some 1)) = _ from ec, tl_numS] at z2
    have : (45 : Nat) ∈ numL n := List.mem_of_mem_take (by rw [z2]; exact List.mem_singleton_self _)
    have := numL_digits n 45 this
    omega
  simp [hl2, oNe_a ac (asc_of (s := "-")), en, count_in_num h]
/-! ### the words of a web -/
abbrev S (x : String) : Str := Str.ofString x
def headW (many width : Nat) : List Str := [S "places", numS many, S "prices", numS width]
def stepWd (s : Stp) : List Str := S "step" :: numS s.a.toNat :: numS s.b.toNat :: s.p.map fun x => numS x.toNat
abbrev sp : Str := S " "
abbrev nl : Str := S "\n"
theorem tl_sp : tl sp = [32] := by rw [tl_ofString]; decide
theorem tl_nl : tl nl = [10] := by rw [tl_ofString]; decide
def lineS (ws : List Str) : Str := Txt.join sp ws
def webT (many width : Nat) (ss : List Stp) : Str := Txt.join nl (lineS (headW many width) :: ss.map fun s => lineS (stepWd s))
theorem tl_join2 (y : Str) (ws : List Str) : tl (Txt.join y ws) = joinL (tl y) (ws.map tl) := by rw [join_eq, tl_join]
theorem joinL_mem {S : List Nat} {c : Nat} : ∀ {ps : List (List Nat)}, c ∈ joinL S ps → c ∈ S ∨ ∃ p ∈ ps, c ∈ p
  | [], h => by cases h
  | [p], h => .inr ⟨p, List.mem_singleton_self _, h⟩
  | p :: q :: r, h => by
    have h : c ∈ p ++ (S ++ joinL S (q :: r)) := h
    rcases List.mem_append.mp h with h | h
    · exact .inr ⟨p, List.mem_cons_self, h⟩
    · rcases List.mem_append.mp h with h | h
      · exact .inl h
      · rcases joinL_mem h with h | ⟨z, hz, h⟩
        · exact .inl h
        · exact .inr ⟨z, List.mem_cons_of_mem _ hz, h⟩
theorem joinL_len {S : List Nat} {m : Nat} : ∀ {ps : List (List Nat)}, (∀ p ∈ ps, p.length ≤ m) → (joinL S ps).length ≤ ps.length * (m + S.length)
  | [], _ => Nat.zero_le _
  | [p], h => by
    have := h p List.mem_cons_self
    show p.length ≤ 1 * (m + S.length)
    omega
  | p :: q :: r, h => by
    have h1 := h p List.mem_cons_self
    have h2 := joinL_len (S := S) (m := m) (ps := q :: r) fun z hz => h z (List.mem_cons_of_mem _ hz)
    show (p ++ (S ++ joinL S (q :: r))).length ≤ _
    rw [List.length_append, List.length_append, List.length_cons, Nat.succ_mul]
    omega
/-- words: short, of signs without blanks -/
structure Word (x : Str) : Prop where
  a : ∀ c ∈ tl x, 33 ≤ c ∧ c < 128
  l : (tl x).length ≤ 41
theorem word_num {n : Nat} (h : n < 10 ^ 41) : Word (numS n) := by
  refine ⟨fun c hc => ?_, ?_⟩
  · rw [tl_numS] at hc
    have := numL_digits n c hc
    omega
  · rw [tl_numS]
    exact numL_len (by decide) h
theorem word_of {s : String} (h : (s.toList.map Char.toNat).all (fun c => decide (33 ≤ c ∧ c < 128)) = true := by decide) (hl : (s.toList.map Char.toNat).length ≤ 41 := by decide) : Word (S s) := by
  refine ⟨fun c hc => ?_, ?_⟩
  · unfold S at hc
    rw [tl_ofString] at hc
    exact of_decide_eq_true (List.all_eq_true.mp h c hc)
  · rw [tl_ofString]
    exact hl
theorem Word.asc {x : Str} (h : Word x) : Asc x := fun c hc => (h.a c hc).2
theorem Word.free {x : Str} (h : Word x) : 32 ∉ tl x := fun z => by have := h.a 32 z; omega
theorem sp_small : sp.cps.all (· < 256) = true := by
  rw [← Array.all_toList, show sp.cps.toList = tl sp from rfl, tl_sp]
  decide
theorem nl_small : nl.cps.all (· < 256) = true := by
  rw [← Array.all_toList, show nl.cps.toList = tl nl from rfl, tl_nl]
  decide
theorem line_split {ws : List Str} (hne : ws ≠ []) (h : ∀ x ∈ ws, Word x) : Txt.split (lineS ws) sp = ws := split_join tl_sp sp_small hne fun p hp => (h p hp).free
theorem line_free {ws : List Str} (h : ∀ x ∈ ws, Word x) : 10 ∉ tl (lineS ws) := fun z => by
  unfold lineS at z
  rw [tl_join2, tl_sp] at z
  rcases joinL_mem z with z | ⟨p, hp, z⟩
  · exact absurd z (by decide)
  · obtain ⟨x, hx, rfl⟩ := List.mem_map.mp hp
    have := (h x hx).a 10 z
    omega
theorem line_len {ws : List Str} (h : ∀ x ∈ ws, Word x) : (tl (lineS ws)).length ≤ ws.length * 42 := by
  unfold lineS
  rw [tl_join2, tl_sp]
  have := joinL_len (S := [32]) (m := 41) (ps := ws.map tl) fun p hp => by
    obtain ⟨x, hx, rfl⟩ := List.mem_map.mp hp
    exact (h x hx).l
  simpa using this
structure WebOk (many width : Int) (ss : List Stp) : Prop where
  m1 : 1 ≤ many
  m2 : many ≤ 12
  w : width = 2 ∨ width = 3
  l : ss.length ≤ 40
  s : ∀ s ∈ ss, 0 ≤ s.a ∧ s.a < many ∧ 0 ≤ s.b ∧ s.b < many ∧ s.a ≠ s.b ∧ (s.p.length : Int) = width ∧ ∀ x ∈ s.p, 0 ≤ x ∧ x < 10 ^ 40
theorem WebOk.webB {many width : Int} {ss : List Stp} (h : WebOk many width ss) : webB many width ss = true := by
  unfold DL.webB headB
  rw [decide_eq_true ⟨h.m1, h.m2, h.w, h.l⟩, Bool.true_and, List.all_eq_true]
  intro s hs
  obtain ⟨a1, a2, a3, a4, a5, a6, a7⟩ := h.s s hs
  unfold stepB
  rw [decide_eq_true ⟨a1, a2, a3, a4, a5, a6⟩, Bool.true_and, List.all_eq_true]
  exact fun x hx => decide_eq_true (a7 x hx).1
theorem WebOk.head {many width : Int} {ss : List Stp} (h : WebOk many width ss) : ∀ x ∈ headW many.toNat width.toNat, Word x := by
  intro x hx
  have := h.m1
  have := h.m2
  have := h.w
  unfold headW at hx
  simp only [List.mem_cons, List.not_mem_nil, or_false] at hx
  rcases hx with rfl | rfl | rfl | rfl
  · exact word_of
  · exact word_num (by omega)
  · exact word_of
  · exact word_num (by omega)
theorem WebOk.step {many width : Int} {ss : List Stp} (h : WebOk many width ss) {s : Stp} (hs : s ∈ ss) : ∀ x ∈ stepWd s, Word x := by
  intro x hx
  obtain ⟨a1, a2, a3, a4, a5, a6, a7⟩ := h.s s hs
  have := h.m2
  unfold stepWd at hx
  simp only [List.mem_cons] at hx
  rcases hx with rfl | rfl | rfl | hx
  · exact word_of
  · exact word_num (by omega)
  · exact word_num (by omega)
  · obtain ⟨y, hy, rfl⟩ := List.mem_map.mp hx
    have := a7 y hy
    exact word_num (by omega)
def linesW (many width : Int) (ss : List Stp) : List (List Str) := headW many.toNat width.toNat :: ss.map stepWd
theorem WebOk.lines {many width : Int} {ss : List Stp} (h : WebOk many width ss) : ∀ ws ∈ linesW many width ss, (ws ≠ [] ∧ ws.length ≤ 6) ∧ ∀ x ∈ ws, Word x := by
  intro ws hw
  unfold linesW at hw
  rcases List.mem_cons.mp hw with rfl | hw
  · exact ⟨⟨by simp [headW], by simp [headW]⟩, h.head⟩
  · obtain ⟨s, hs, rfl⟩ := List.mem_map.mp hw
    have h6 := (h.s s hs).2.2.2.2.2.1
    have := h.w
    exact ⟨⟨by simp [stepWd], by simp [stepWd]; omega⟩, h.step hs⟩
theorem webT_lines (many width : Int) (ss : List Stp) : webT many.toNat width.toNat ss = Txt.join nl ((linesW many width ss).map lineS) := by
  unfold webT linesW
  rw [List.map_cons, List.map_map]
  rfl
theorem WebOk.split {many width : Int} {ss : List Stp} (h : WebOk many width ss) : Txt.split (webT many.toNat width.toNat ss) nl = (linesW many width ss).map lineS := by
  rw [webT_lines]
  refine split_join tl_nl nl_small (by simp [linesW]) fun p hp => ?_
  obtain ⟨ws, hw, rfl⟩ := List.mem_map.mp hp
  exact line_free (h.lines ws hw).2
theorem WebOk.len {many width : Int} {ss : List Stp} (h : WebOk many width ss) : (webT many.toNat width.toNat ss).length ≤ 11000 := by
  rw [len_tl, webT_lines, tl_join2, tl_nl]
  have := joinL_len (S := [10]) (m := 252) (ps := ((linesW many width ss).map lineS).map tl) fun p hp => by
    rw [List.map_map] at hp
    obtain ⟨ws, hw, rfl⟩ := List.mem_map.mp hp
    have h1 := h.lines ws hw
    have := line_len h1.2
    have := h1.1.2
    show (tl (lineS ws)).length ≤ _
    omega
  have hl : (linesW many width ss).length ≤ 41 := by
    have := h.l
    simp [linesW]
    omega
  rw [List.length_map, List.length_map] at this
  have e : ([10] : List Nat).length = 1 := rfl
  rw [e] at this
  omega
theorem sIx_1 {n : Nat} (k : Nat) : HT.sIx n 0 (some (k : Int)) = min k n := HT.sIx_nat n 0 k
theorem cutD_from (ds : List D) (k : Nat) : cutD ds (some (k : Int)) none = ds.drop k := by
  unfold cutD
  rw [sIx_1]
  show (ds.drop (min k ds.length)).take (ds.length - min k ds.length) = _
  rw [List.take_of_length_le (by simp)]
  by_cases h : k ≤ ds.length
  · rw [Nat.min_eq_left h]
  · rw [Nat.min_eq_right (by omega), List.drop_length]
    exact (List.drop_eq_nil_of_le (by omega)).symm
theorem oSplit_ok {a b : Str} (hb : tl b ≠ []) (h : a.length ≤ 16000000) : oSplit a (.str b) = .ok (.lst ((Txt.split a b).map .str)) := by
  show (if (b.length == 0) = false ∧ a.length + 2 ≤ sizeLine then _ else _) = _
  have hb2 : (b.length == 0) = false := by
    rw [beq_eq_false_iff_ne, len_tl]
    exact fun z => hb (List.length_eq_zero_iff.mp z)
  have hs : a.length + 2 ≤ sizeLine := by
    rw [sizeLine_eq]
    omega
  rw [if_pos ⟨hb2, hs⟩]
@[simp] theorem dSplit_eq {f g : Env → R D} {ρ : Env} : dSplit f g ρ = (f ρ).bind fun x => (asS x).bind fun a => (g ρ).bind fun y => oSplit a y := rfl
@[simp] theorem dJoin_eq {f g : Env → R D} {ρ : Env} : dJoin f g ρ = (f ρ).bind fun x => (asS x).bind fun a => (g ρ).bind fun y => oJoin a y := rfl
@[simp] theorem asS_s {x : Str} : asS (.str x) = .ok x := rfl
@[simp] theorem dCallL_eq {F : List D → R D} {f : Env → R (List D)} {ρ : Env} : dCallL F f ρ = (f ρ).bind fun ds => match F ds with
  | .ok d => if flat d = true then .ok d else .bad
  | r => r := rfl
@[simp] theorem flat_n : flat .non = true := rfl
theorem getI_cons0 {d : D} {ds : List D} : getI (d :: ds) 0 = .ok d := getI_ok (by decide) rfl
theorem getI_cons1 {d d1 : D} {ds : List D} : getI (d :: d1 :: ds) 1 = .ok d1 := getI_ok (by decide) rfl
theorem getI_cons2 {d d1 d2 : D} {ds : List D} : getI (d :: d1 :: d2 :: ds) 2 = .ok d2 := getI_ok (by decide) rfl
theorem getI_cons3 {d d1 d2 d3 : D} {ds : List D} : getI (d :: d1 :: d2 :: d3 :: ds) 3 = .ok d3 := getI_ok (by decide) rfl
theorem read_web_ok {many width : Int} {ss : List Stp} (h : WebOk many width ss) : F_read_web [.str (webT many.toNat width.toNat ss)] = .ok (webD many width ss) := by
  refine run_ok ?_
  unfold g_read_web
  have hl := h.len
  have e1 : oSplit (webT many.toNat width.toNat ss) (.str (Str.ofString "\n")) = .ok (.lst ((linesW many width ss).map fun ws => .str (lineS ws))) := by
    rw [oSplit_ok (by rw [tl_nl]; simp) (by omega), show Str.ofString "\n" = nl from rfl, h.split, List.map_map]
    rfl
  simp [e1]
  rw [lcF_of (enc := fun ws => D.str (lineS ws)) (enc' := fun ws : List Str => D.lst (ws.map .str)) (fun _ => true) (fun ws => ws)]
  · rw [filter_yes]
    have m1 := h.m1
    have m2 := h.m2
    have hw := h.w
    have n1 := number_in_num (n := many.toNat) (by omega)
    have n2 := number_in_num (n := width.toNat) (by omega)
    have em : ((many.toNat : Nat) : Int) = many := by omega
    have ew : ((width.toNat : Nat) : Int) = width := by omega
    rw [em] at n1
    rw [ew] at n2
    have q1 := oEq_a (asc_of (s := "places")) (asc_of (s := "places"))
    have q2 := oEq_a (asc_of (s := "prices")) (asc_of (s := "prices"))
    have eh : (linesW many width ss).map (fun ws : List Str => D.lst (ws.map .str)) = D.lst ((headW many.toNat width.toNat).map .str) :: ss.map fun s => D.lst ((stepWd s).map .str) := by
      unfold linesW
      rw [List.map_cons, List.map_map]
      rfl
    have ec := cutD_from ((linesW many width ss).map (fun ws : List Str => D.lst (ws.map .str))) 1
    rw [eh] at ec
    simp [eh, getI_cons0, headW, getI_cons1, getI_cons2, getI_cons3, q1, q2, sure_ok, n1, n2, ec] at ec ⊢
    rw [ec]
    refine loop_foldI (J := fun n (g : List Stp) ρ => ∃ (x5 x6 x7 x8 : Option D) (rows : D), g.length = n ∧ ρ = [some (.str (webT many.toNat width.toNat ss)), some rows, some (.int many), some (.int width), some (.lst (g.map stD)), x5, x6, x7, x8]) (fun g s => g ++ [s]) _ 0 [] _ ⟨none, none, none, none, _, rfl, rfl⟩ ?_ ?_
    · rintro i g s ρ hi hs ⟨x5, x6, x7, x8, rows, hg, rfl⟩
      obtain ⟨a1, a2, a3, a4, a5, a6, a7⟩ := h.s s hs
      have q3 := oEq_a (asc_of (s := "step")) (asc_of (s := "step"))
      have ew2 : (stepWd s).map D.str = .str (S "step") :: ((s.a :: s.b :: s.p).map fun x : Int => D.str (numS x.toNat)) := by
        unfold stepWd
        simp
      have ed := cutD_from (D.str (S "step") :: ((s.a :: s.b :: s.p).map fun x : Int => D.str (numS x.toNat))) 1
      have ls : (s.p.length : Int) + 1 + 1 + 1 = 3 + width := by omega
      simp at ed
      have hgl : g.length < 16777216 := by have := h.l; omega
      simp [ew2, getI_cons0, q3, ls, sure_ok, show 0 ≤ width by omega, ed]
      have em2 : (D.str (numS s.a.toNat) :: D.str (numS s.b.toNat) :: s.p.map fun x : Int => D.str (numS x.toNat)) = (s.a :: s.b :: s.p).map fun x : Int => D.str (numS x.toNat) := rfl
      rw [em2, lcF_of (enc := fun x : Int => D.str (numS x.toNat)) (enc' := D.int) (fun _ => true) (fun x => x)]
      · rw [filter_yes]
        have ef := cutD_from (.int s.a :: .int s.b :: s.p.map D.int) 2
        simp at ef
        simp [getI_cons0, getI_cons1, ef, hgl]
        exact ⟨by omega, rfl⟩
      · intro x hx
        have hx2 : 0 ≤ x ∧ x < 10 ^ 40 := by
          rcases List.mem_cons.mp hx with rfl | hx
          · omega
          · rcases List.mem_cons.mp hx with rfl | hx
            · omega
            · exact a7 x hx
        have nx := number_in_num (n := x.toNat) (by omega)
        rw [show ((x.toNat : Nat) : Int) = x by omega] at nx
        refine ⟨_, rfl, rfl, fun _ => ?_⟩
        simp [nx]
    · rintro ρ ⟨x5, x6, x7, x8, rows, hg, rfl⟩
      have ef : ∀ (l g : List Stp), l.foldl (fun g s => g ++ [s]) g = g ++ l := fun l => by
        induction l with
        | nil => simp
        | cons a l ih => intro g; simp [ih]
      rw [ef]
      simp [check_web_ok, h.webB]
  · intro ws hws
    have h1 := h.lines ws hws
    refine ⟨_, rfl, rfl, fun _ => ?_⟩
    have hl := line_len h1.2
    have hs := line_split h1.1.1 h1.2
    simp
    rw [oSplit_ok (by rw [tl_sp]; simp) (by rw [len_tl]; have := h1.1.2; omega), show Str.ofString " " = sp from rfl, hs]
end DL

set_option Elab.async false
set_option linter.all false
set_option maxRecDepth 100000
set_option maxHeartbeats 4000000
set_option autoImplicit false
/-! P2y: webs told as texts. -/
namespace DL
open PySem L2 TL
theorem joinL_snoc {S p : List Nat} : ∀ {ps : List (List Nat)}, ps ≠ [] → joinL S (ps ++ [p]) = joinL S ps ++ (S ++ p)
  | [], h => absurd rfl h
  | [q], _ => rfl
  | q :: q2 :: r, _ => by
    show q ++ (S ++ joinL S ((q2 :: r) ++ [p])) = q ++ (S ++ joinL S (q2 :: r)) ++ (S ++ p)
    rw [joinL_snoc (by simp)]
    simp [List.append_assoc]
theorem WebOk.sub {many width : Int} {ss g : List Stp} (h : WebOk many width ss) (hg : ∀ s ∈ g, s ∈ ss) (hl : g.length ≤ 40) : WebOk many width g := ⟨h.m1, h.m2, h.w, hl, fun s hs => h.s s (hg s hs)⟩
theorem webT_nil (m w : Nat) : webT m w [] = S "places " ++ numS m ++ S " prices " ++ numS w := by
  refine ext_tl ?_
  unfold webT lineS headW
  rw [tl_join2, tl_append, tl_append, tl_append, tl_nl]
  show tl (Txt.join sp _) = _
  rw [tl_join2, tl_sp]
  show tl (S "places") ++ ([32] ++ (tl (numS m) ++ ([32] ++ (tl (S "prices") ++ ([32] ++ tl (numS w)))))) = _
  have e1 : tl (S "places ") = tl (S "places") ++ [32] := by rw [tl_ofString, tl_ofString]; decide
  have e2 : tl (S " prices ") = [32] ++ tl (S "prices") ++ [32] := by rw [tl_ofString, tl_ofString]; decide
  rw [e1, e2]
  simp [List.append_assoc]
theorem webT_snoc (m w : Nat) (g : List Stp) (s : Stp) : webT m w (g ++ [s]) = webT m w g ++ S "\nstep " ++ Txt.join sp (numS s.a.toNat :: numS s.b.toNat :: s.p.map fun x => numS x.toNat) := by
  refine ext_tl ?_
  have e1 : tl (S "\nstep ") = [10] ++ (tl (S "step") ++ [32]) := by rw [tl_ofString, tl_ofString]; decide
  unfold webT
  rw [tl_append, tl_append, tl_join2, tl_join2, tl_join2, tl_nl, tl_sp, List.map_append, ← List.cons_append, List.map_append]
  rw [show List.map tl (List.map (fun s => lineS (stepWd s)) [s]) = [tl (lineS (stepWd s))] from rfl, joinL_snoc (by simp), e1]
  have e2 : tl (lineS (stepWd s)) = tl (S "step") ++ ([32] ++ joinL [32] ((numS s.a.toNat :: numS s.b.toNat :: s.p.map fun x => numS x.toNat).map tl)) := by
    unfold lineS stepWd
    rw [tl_join2, tl_sp]
    rfl
  rw [e2]
  simp [List.append_assoc]
theorem strL_map (ws : List Str) : strL (ws.map D.str) = some ws := by
  induction ws with
  | nil => rfl
  | cons a ws ih =>
    show (strL (ws.map D.str)).map (a :: ·) = _
    rw [ih]
    rfl
theorem oJoin_ok {a : Str} {ws : List Str} {m : Nat} (h : ∀ x ∈ ws, x.length ≤ m) (hz : ws.length * (m + a.length) ≤ 16777216) : oJoin a (.lst (ws.map D.str)) = .ok (.str (Txt.join a ws)) := by
  show (match strL (ws.map D.str) with
    | some ys => if (ys.map fun x : Str => x.length).sum + ys.length * a.length ≤ 16777216 then R.ok (D.str (Txt.join a ys)) else .bad
    | none => .bad) = _
  rw [strL_map]
  have hs : ∀ l : List Str, (∀ x ∈ l, x.length ≤ m) → (l.map fun x : Str => x.length).sum ≤ l.length * m := fun l => by
    induction l with
    | nil => simp
    | cons b l ih =>
      intro q
      have q1 := q b List.mem_cons_self
      have q2 := ih fun x hx => q x (List.mem_cons_of_mem _ hx)
      rw [List.map_cons, List.sum_cons, List.length_cons, Nat.succ_mul]
      omega
  have := hs ws h
  rw [Nat.mul_add] at hz
  exact if_pos (by omega)
theorem oAdd_s {a b : Str} (h : a.length + b.length ≤ 16777216) : oAdd (.str a) (.str b) = .ok (.str (a ++ b)) := if_pos h
theorem len_app (a b : Str) : (a ++ b).length = a.length + b.length := by rw [len_tl, tl_append, List.length_append, ← len_tl, ← len_tl]
theorem nums_word {s : Stp} {many width : Int} {ss : List Stp} (h : WebOk many width ss) (hs : s ∈ ss) : ∀ x ∈ (numS s.a.toNat :: numS s.b.toNat :: s.p.map fun x => numS x.toNat), x.length ≤ 41 := fun x hx => by
  rw [len_tl]
  exact (h.step hs x (List.mem_cons_of_mem _ hx)).l
theorem law_web_text_ok {many width : Int} {ss : List Stp} (h : WebOk many width ss) : F_law_web_text [webD many width ss] = .ok (.str (webT many.toNat width.toNat ss)) := by
  refine run_ok ?_
  unfold g_law_web_text
  have m1 := h.m1
  have m2 := h.m2
  have hw := h.w
  have n1 := oStr_ok (n := many) (by omega) (by omega)
  have n2 := oStr_ok (n := width) (by omega) (by omega)
  have l1 := len_numS (n := many.toNat) (k := 41) (by decide) (by omega)
  have l2 := len_numS (n := width.toNat) (k := 41) (by decide) (by omega)
  have lp : (Str.ofString "places ").length = 7 := by rw [len_tl, tl_ofString]; decide
  have lq : (Str.ofString " prices ").length = 8 := by rw [len_tl, tl_ofString]; decide
  have o1 := oAdd_s (a := Str.ofString "places ") (b := numS many.toNat) (by omega)
  have o2 := oAdd_s (a := Str.ofString "places " ++ numS many.toNat) (b := Str.ofString " prices ") (by rw [len_app]; omega)
  have o3 := oAdd_s (a := Str.ofString "places " ++ numS many.toNat ++ Str.ofString " prices ") (b := numS width.toNat) (by rw [len_app, len_app]; omega)
  simp [n1, n2, o1, o2, o3]
  rw [← webT_nil many.toNat width.toNat]
  refine loop_foldI (J := fun n (g : List Stp) ρ => ∃ (x2 x3 x4 x5 : Option D), g.length = n ∧ (∀ s ∈ g, s ∈ ss) ∧ ρ = [some (webD many width ss), some (.str (webT many.toNat width.toNat g)), x2, x3, x4, x5]) (fun g s => g ++ [s]) _ 0 [] _ ⟨none, none, none, none, rfl, by simp, rfl⟩ ?_ ?_
  · rintro i g s ρ hi hs ⟨x2, x3, x4, x5, hg, hgs, rfl⟩
    obtain ⟨a1, a2, a3, a4, a5, a6, a7⟩ := h.s s hs
    have hl := h.l
    have hg2 := (h.sub hgs (by omega)).len
    have ls : (Str.ofString "\nstep ").length = 6 := by rw [len_tl, tl_ofString]; decide
    have lsp : sp.length = 1 := by rw [len_tl, tl_sp]; rfl
    have oj := oJoin_ok (a := sp) (nums_word h hs) (by simp; rw [lsp]; omega)
    have p1 := oAdd_s (a := webT many.toNat width.toNat g) (b := Str.ofString "\nstep ") (by omega)
    have lj : (Txt.join sp (numS s.a.toNat :: numS s.b.toNat :: s.p.map fun x => numS x.toNat)).length ≤ 1000 := by
      rw [len_tl, tl_join2, tl_sp]
      have := joinL_len (S := [32]) (m := 41) (ps := (numS s.a.toNat :: numS s.b.toNat :: s.p.map fun x => numS x.toNat).map tl) fun p hp => by
        obtain ⟨x, hx, rfl⟩ := List.mem_map.mp hp
        rw [← len_tl]
        exact nums_word h hs x hx
      simp at this
      simp
      omega
    have p2 := oAdd_s (a := webT many.toNat width.toNat g ++ Str.ofString "\nstep ") (b := Txt.join sp (numS s.a.toNat :: numS s.b.toNat :: s.p.map fun x => numS x.toNat)) (by rw [len_app]; omega)
    have at2 : oAdd (.tup [.int s.a, .int s.b]) (rowD s.p) = .ok (.tup ((s.a :: s.b :: s.p).map D.int)) := by
      show (if [D.int s.a, D.int s.b].length + (s.p.map D.int).length ≤ 16777216 then _ else _) = _
      rw [if_pos (by simp; omega)]
      rfl
    simp [at2, p1]
    have em2 : (D.int s.a :: D.int s.b :: s.p.map D.int) = (s.a :: s.b :: s.p).map D.int := rfl
    rw [em2, lcF_of (enc := D.int) (enc' := fun x : Int => D.str (numS x.toNat)) (fun _ => true) (fun x => x)]
    · rw [filter_yes]
      have ej : (s.a :: s.b :: s.p).map (fun x : Int => D.str (numS x.toNat)) = (numS s.a.toNat :: numS s.b.toNat :: s.p.map fun x => numS x.toNat).map D.str := by simp
      have oj2 : oJoin (Str.ofString " ") (.lst ((s.a :: s.b :: s.p).map fun x : Int => D.str (numS x.toNat))) = .ok (.str (Txt.join sp (numS s.a.toNat :: numS s.b.toNat :: s.p.map fun x => numS x.toNat))) := by rw [ej]; exact oj
      simp only [List.map_id', R.bind_ok, asS_s, dV, dC]
      simp at oj2
      simp [oj2, p2]
      refine ⟨by omega, fun t ht => ?_, by rw [webT_snoc]⟩
      rcases ht with ht | rfl
      · exact hgs t ht
      · exact hs
    · intro x hx
      have hx2 : 0 ≤ x ∧ x < 10 ^ 40 := by
        rcases List.mem_cons.mp hx with rfl | hx
        · omega
        · rcases List.mem_cons.mp hx with rfl | hx
          · omega
          · exact a7 x hx
      have nx := oStr_ok (n := x) hx2.1 (by omega)
      refine ⟨_, rfl, rfl, fun _ => ?_⟩
      simp [nx]
  · rintro ρ ⟨x2, x3, x4, x5, hg, hgs, rfl⟩
    have ef : ∀ (l g : List Stp), l.foldl (fun g s => g ++ [s]) g = g ++ l := fun l => by
      induction l with
      | nil => simp
      | cons a l ih => intro g; simp [ih]
    rw [ef]
    simp
theorem lines_len {many width : Int} {ss : List Stp} (h : WebOk many width ss) : ∀ x ∈ lineS (headW many.toNat width.toNat) :: ss.map fun s => lineS (stepWd s), x.length ≤ 252 := fun x hx => by
  have hx : x ∈ (linesW many width ss).map lineS := by
    unfold linesW
    rw [List.map_cons, List.map_map]
    exact hx
  obtain ⟨ws, hw, rfl⟩ := List.mem_map.mp hx
  have h1 := h.lines ws hw
  have := line_len h1.2
  have := h1.1.2
  rw [len_tl]
  omega
theorem show_web_ok {many width : Int} {ss : List Stp} (h : WebOk many width ss) : F_show_web [webD many width ss] = .ok (.str (webT many.toNat width.toNat ss)) := by
  refine run_ok ?_
  unfold g_show_web
  have m1 := h.m1
  have m2 := h.m2
  have hw := h.w
  have n1 := oStr_ok (n := many) (by omega) (by omega)
  have n2 := oStr_ok (n := width) (by omega) (by omega)
  have l1 := len_numS (n := many.toNat) (k := 41) (by decide) (by omega)
  have l2 := len_numS (n := width.toNat) (k := 41) (by decide) (by omega)
  have lp : (Str.ofString "places ").length = 7 := by rw [len_tl, tl_ofString]; decide
  have lq : (Str.ofString " prices ").length = 8 := by rw [len_tl, tl_ofString]; decide
  have o1 := oAdd_s (a := Str.ofString "places ") (b := numS many.toNat) (by omega)
  have o2 := oAdd_s (a := Str.ofString "places " ++ numS many.toNat) (b := Str.ofString " prices ") (by rw [len_app]; omega)
  have o3 := oAdd_s (a := Str.ofString "places " ++ numS many.toNat ++ Str.ofString " prices ") (b := numS width.toNat) (by rw [len_app, len_app]; omega)
  simp [n1, n2, o1, o2, o3]
  have eh : Str.ofString "places " ++ numS many.toNat ++ Str.ofString " prices " ++ numS width.toNat = lineS (headW many.toNat width.toNat) := (webT_nil many.toNat width.toNat).symm
  rw [eh]
  refine loop_foldI (J := fun n (g : List Stp) ρ => ∃ (x5 x6 x7 x8 : Option D), g.length = n ∧ ρ = [some (webD many width ss), some (.int many), some (.int width), some (.lst (ss.map stD)), some (.lst ((lineS (headW many.toNat width.toNat) :: g.map fun s => lineS (stepWd s)).map .str)), x5, x6, x7, x8]) (fun g s => g ++ [s]) _ 0 [] _ ⟨none, none, none, none, rfl, rfl⟩ ?_ ?_
  · rintro i g s ρ hi hs ⟨x5, x6, x7, x8, hg, rfl⟩
    obtain ⟨a1, a2, a3, a4, a5, a6, a7⟩ := h.s s hs
    have hl := h.l
    have s1 := oStr_ok (n := s.a) (by omega) (by omega)
    have s2 := oStr_ok (n := s.b) (by omega) (by omega)
    simp [s1, s2]
    rw [lcF_of (enc := D.int) (enc' := fun x : Int => D.str (numS x.toNat)) (fun _ => true) (fun x => x)]
    · rw [filter_yes]
      have lsp : sp.length = 1 := by rw [len_tl, tl_sp]; rfl
      have oj : oJoin (Str.ofString " ") (.lst ((stepWd s).map .str)) = .ok (.str (lineS (stepWd s))) := oJoin_ok (a := sp) (m := 41) (fun x hx => by rw [len_tl]; exact (h.step hs x hx).l) (by simp [stepWd]; rw [lsp]; omega)
      have oa : oAdd (.lst [.str (Str.ofString "step"), .str (numS s.a.toNat), .str (numS s.b.toNat)]) (.lst (s.p.map fun x : Int => D.str (numS x.toNat))) = .ok (.lst ((stepWd s).map .str)) := by
        show (if _ then _ else _) = _
        rw [if_pos (by simp; omega)]
        simp [stepWd]
      simp [oa, oj, show g.length + 1 < 16777216 by omega]
      omega
    · intro x hx
      have hx2 := a7 x hx
      have nx := oStr_ok (n := x) hx2.1 (by omega)
      refine ⟨_, rfl, rfl, fun _ => ?_⟩
      simp [nx]
  · rintro ρ ⟨x5, x6, x7, x8, hg, rfl⟩
    have ef : ∀ (l g : List Stp), l.foldl (fun g s => g ++ [s]) g = g ++ l := fun l => by
      induction l with
      | nil => simp
      | cons a l ih => intro g; simp [ih]
    rw [ef]
    have lnl : nl.length = 1 := by rw [len_tl, tl_nl]; rfl
    have hl := h.l
    have oj : oJoin (Str.ofString "\n") (.lst ((lineS (headW many.toNat width.toNat) :: ss.map fun s => lineS (stepWd s)).map .str)) = .ok (.str (webT many.toNat width.toNat ss)) := oJoin_ok (a := nl) (m := 252) (lines_len h) (by simp; rw [lnl]; omega)
    simp at oj
    simp [oj]
@[simp] theorem oIsi_ii2 {i : Int} : F_law_whole [.int i] = .ok (.bl true) := rfl
theorem law_same_ok {many width : Int} {ss : List Stp} (h : WebOk many width ss) : F_law_same [webD many width ss, webD many width ss] = .ok (.bl true) := by
  refine run_ok ?_
  unfold g_law_same
  have c0 : oNe (webD many width ss) (webD many width ss) = .ok (.bl false) := by
    rw [oNe_cl cl_web cl_web, deq_self cl_web]
    rfl
  simp [c0]
  refine loop_foldI (J := fun n (_ : Unit) ρ => ∃ (x2 x3 x4 x5 x6 : Option D), ρ = [some (webD many width ss), some (webD many width ss), x2, x3, x4, x5, x6]) (fun g s => g) _ 0 () _ ⟨none, none, none, none, none, rfl⟩ ?_ ?_
  · rintro i ⟨⟩ s ρ hi hs ⟨x2, x3, x4, x5, x6, rfl⟩
    obtain ⟨a1, a2, a3, a4, a5, a6, a7⟩ := h.s s hs
    have hw := h.w
    have oa : oAdd (.lst [.int s.a, .int s.b, .int many, .int width]) (.lst (s.p.map D.int)) = .ok (.lst ((s.a :: s.b :: many :: width :: s.p).map D.int)) := by
      show (if _ then _ else _) = _
      rw [if_pos (by simp; omega)]
      rfl
    have ol : oLstOf (rowD s.p) = .ok (.lst (s.p.map .int)) := rfl
    simp [ol, oa]
    rw [show (D.int s.a :: D.int s.b :: D.int many :: D.int width :: s.p.map D.int) = (s.a :: s.b :: many :: width :: s.p).map D.int from rfl, lcF_of (enc := D.int) (enc' := D.int) (fun _ => false) (fun x => x)]
    · simp
    · intro x hx
      exact ⟨_, rfl, rfl, fun z => by cases z⟩
  · rintro ρ ⟨x2, x3, x4, x5, x6, rfl⟩
    simp
theorem web_ne {many width : Int} {ss : List Stp} : oNe (webD many width ss) (webD many width ss) = .ok (.bl false) := by
  rw [oNe_cl cl_web cl_web, deq_self cl_web]
  rfl
theorem webT_asc {many width : Int} {ss : List Stp} (h : WebOk many width ss) : Asc (webT many.toNat width.toNat ss) := fun c hc => by
  rw [webT_lines, tl_join2, tl_nl] at hc
  rcases joinL_mem hc with hc | ⟨p, hp, hc⟩
  · rw [List.mem_singleton.mp hc]
    decide
  · rw [List.map_map] at hp
    obtain ⟨ws, hw, rfl⟩ := List.mem_map.mp hp
    have hc : c ∈ tl (lineS ws) := hc
    unfold lineS at hc
    rw [tl_join2, tl_sp] at hc
    rcases joinL_mem hc with hc | ⟨p, hp, hc⟩
    · rw [List.mem_singleton.mp hc]
      decide
    · obtain ⟨x, hx, rfl⟩ := List.mem_map.mp hp
      exact ((h.lines ws hw).2 x hx).asc c hc
@[simp] theorem oIsi_ss {x : Str} : oIsi .str (.str x) = .ok (.bl true) := rfl
theorem law_good_ok {many width : Int} {ss : List Stp} (h : WebOk many width ss) : F_law_good [webD many width ss] = .ok (.bl true) := by
  refine run_ok ?_
  unfold g_law_good
  have hs := oNe_a (webT_asc h) (webT_asc h)
  simp [law_web_text_ok h, show_web_ok h, hs, web_ne, itR1_ok (j := 2) (by decide) (by decide), upTo_map]
  refine loop_foldI (J := fun n (_ : Unit) ρ => ∃ (x4 x5 : Option D), ρ = [some (webD many width ss), some (webD many width ss), some (.str (webT many.toNat width.toNat ss)), some (.str (webT many.toNat width.toNat ss)), x4, x5]) (fun g s => g) _ 0 () _ ⟨none, none, rfl⟩ ?_ ?_
  · rintro i ⟨⟩ a ρ hi ha ⟨x4, x5, rfl⟩
    have := h.l
    simp [read_web_ok h, law_same_ok h, show flat (D.bl true) = true from rfl, oMutK, show ss.length < 16777216 by omega]
  · rintro ρ ⟨x4, x5, rfl⟩
    simp
end DL

set_option Elab.async false
set_option linter.all false
set_option maxRecDepth 100000
set_option maxHeartbeats 4000000
set_option autoImplicit false
/-! P2z: numbers below nought as texts. -/
namespace DL
open PySem L2 TL
def intS (x : Int) : Str := Str.ofString (toString x)
theorem intS_nat (n : Nat) : intS (n : Int) = numS n := rfl
theorem tl_neg {n : Nat} (h : 0 < n) : tl (intS (-(n : Int))) = 45 :: numL n := by
  obtain ⟨m, rfl⟩ : ∃ m, n = m + 1 := ⟨n - 1, by omega⟩
  have e : toString (-((m + 1 : Nat) : Int)) = "-" ++ toString (((m + 1 : Nat)) : Int) := rfl
  unfold intS
  rw [e, tl_ofString]
  have e2 := tl_num (m + 1)
  rw [tl_ofString] at e2
  rw [String.toList_append, List.map_append, e2]
  rfl
theorem oStr_int {x : Int} (h : -(10 ^ 100) < x) (h' : x < 10 ^ 100) : oStr [.int x] = .ok (.str (intS x)) := by
  show (if x.natAbs.log2 < 1920 then _ else _) = _
  have e : x.natAbs.log2 < 1920 := by
    by_cases z : x.natAbs = 0
    · rw [z]; decide
    · rw [Nat.log2_lt z]
      have : x.natAbs < 10 ^ 100 := by omega
      exact Nat.lt_trans this (by decide +kernel)
  rw [if_pos e]
  rfl
theorem cutS_drop {z : Str} {k : Nat} : tl (cutS z (some (k : Int)) none) = (tl z).drop k := by
  unfold cutS
  rw [tl_mk]
  have e : HT.sIx z.length 0 (some (k : Int)) = min k z.length := HT.sIx_nat _ _ _
  have e0 : HT.sIx z.length z.length none = z.length := rfl
  rw [e, e0]
  have hl := len_tl z
  show ((tl z).drop (min k z.length)).take (z.length - min k z.length) = _
  rw [List.take_of_length_le (by rw [List.length_drop, ← hl]; omega)]
  by_cases h : k ≤ z.length
  · rw [Nat.min_eq_left h]
  · rw [Nat.min_eq_right (by omega), List.drop_eq_nil_of_le (by omega), List.drop_eq_nil_of_le (by omega)]
theorem asc_neg {n : Nat} (h : 0 < n) : Asc (intS (-(n : Int))) := fun c hc => by
  rw [tl_neg h] at hc
  rcases List.mem_cons.mp hc with rfl | hc
  · decide
  · have := numL_digits n c hc
    omega
theorem tl_minus0 : tl (Str.ofString "-0") = [45, 48] := by rw [tl_ofString]; decide
theorem number_in_neg {n : Nat} (h0 : 0 < n) (h : n < 10 ^ 40) : F_number_in [.str (intS (-(n : Int)))] = .ok (.int (-(n : Int))) := by
  refine run_ok ?_
  unfold g_number_in
  have ht := tl_neg h0
  have hl : (intS (-(n : Int))).length ≤ 41 := by
    rw [len_tl, ht, List.length_cons]
    have := numL_len (k := 40) (by decide) h
    omega
  have hl2 : (intS (-(n : Int))).length ≤ 16777216 := by omega
  have hl1 : 1 ≤ (intS (-(n : Int))).length := by
    rw [len_tl, ht, List.length_cons]
    omega
  have e1 : cutS (intS (-(n : Int))) none (some 1) = Str.ofString "-" := ext_tl (by
    have := cutS_take (z := intS (-(n : Int))) (k := 1) hl1
    rw [tl_minus]
    rw [ht] at this
    exact this)
  have e2 : cutS (intS (-(n : Int))) (some 1) none = numS n := ext_tl (by
    have := cutS_drop (z := intS (-(n : Int))) (k := 1)
    rw [tl_numS]
    rw [ht] at this
    exact this)
  have e3 : intS (-(n : Int)) ≠ Str.ofString "-0" := fun z => by
    have z2 := congrArg tl z
    rw [ht, tl_minus0] at z2
    have z3 := (List.cons.inj z2).2
    exact numL_head n (by omega) 48 [] z3 rfl
  have a1 := oNe_a (asc_of (s := "-")) (asc_of (s := "-"))
  have a2 := oNe_a (asc_neg h0) (asc_of (s := "-0"))
  simp [hl2, e1, a1, a2, e3, sure_ok, e2, count_in_num h]
theorem number_in_int {x : Int} (h : -(10 ^ 40) < x) (h' : x < 10 ^ 40) : F_number_in [.str (intS x)] = .ok (.int x) := by
  by_cases hx : 0 ≤ x
  · obtain ⟨n, rfl⟩ : ∃ n : Nat, x = n := ⟨x.toNat, by omega⟩
    exact number_in_num (by omega)
  · obtain ⟨n, rfl⟩ : ∃ n : Nat, x = -(n : Int) := ⟨(-x).toNat, by omega⟩
    exact number_in_neg (by omega) (by omega)
/-! ### rows -/
abbrev sl : Str := Str.ofString "/"
theorem tl_sl : tl sl = [47] := by rw [tl_ofString]; decide
theorem sl_small : sl.cps.all (· < 256) = true := by
  rw [← Array.all_toList, show sl.cps.toList = tl sl from rfl, tl_sl]
  decide
def rowT (r : List Int) : Str := Txt.join sl (r.map intS)
def Fig (x : Int) : Prop := -(10 ^ 40) < x ∧ x < 10 ^ 40
theorem int_signs {x : Int} : ∀ c ∈ tl (intS x), c = 45 ∨ (48 ≤ c ∧ c ≤ 57) := by
  by_cases hx : 0 ≤ x
  · obtain ⟨n, rfl⟩ : ∃ n : Nat, x = n := ⟨x.toNat, by omega⟩
    intro c hc
    rw [intS_nat, tl_numS] at hc
    exact .inr (numL_digits n c hc)
  · obtain ⟨n, rfl⟩ : ∃ n : Nat, x = -(n : Int) := ⟨(-x).toNat, by omega⟩
    intro c hc
    rw [tl_neg (by omega)] at hc
    rcases List.mem_cons.mp hc with rfl | hc
    · exact .inl rfl
    · exact .inr (numL_digits n c hc)
theorem int_len {x : Int} (h : Fig x) : (tl (intS x)).length ≤ 41 := by
  obtain ⟨h, h'⟩ := h
  by_cases hx : 0 ≤ x
  · obtain ⟨n, rfl⟩ : ∃ n : Nat, x = n := ⟨x.toNat, by omega⟩
    rw [intS_nat, tl_numS]
    exact numL_len (by decide) (by omega)
  · obtain ⟨n, rfl⟩ : ∃ n : Nat, x = -(n : Int) := ⟨(-x).toNat, by omega⟩
    rw [tl_neg (by omega), List.length_cons]
    have := numL_len (k := 40) (n := n) (by decide) (by omega)
    omega
theorem row_split {r : List Int} (h : r ≠ []) : Txt.split (rowT r) sl = r.map intS := by
  refine split_join tl_sl sl_small (by simpa using h) fun p hp => ?_
  obtain ⟨x, _, rfl⟩ := List.mem_map.mp hp
  intro z
  have := int_signs 47 z
  omega
theorem row_word {r : List Int} (h : ∀ x ∈ r, Fig x) (hl : r.length ≤ 3) : ∀ c ∈ tl (rowT r), 45 ≤ c ∧ c ≤ 57 := by
  intro c hc
  unfold rowT at hc
  rw [tl_join2, tl_sl] at hc
  rcases joinL_mem hc with hc | ⟨p, hp, hc⟩
  · rw [List.mem_singleton.mp hc]
    omega
  · rw [List.map_map] at hp
    obtain ⟨x, _, rfl⟩ := List.mem_map.mp hp
    have := int_signs c hc
    omega
theorem row_len {r : List Int} (h : ∀ x ∈ r, Fig x) (hl : r.length ≤ 3) : (tl (rowT r)).length ≤ 126 := by
  unfold rowT
  rw [tl_join2, tl_sl]
  have := joinL_len (S := [47]) (m := 41) (ps := (r.map intS).map tl) fun p hp => by
    rw [List.map_map] at hp
    obtain ⟨x, hx, rfl⟩ := List.mem_map.mp hp
    exact int_len (h x hx)
  rw [List.length_map, List.length_map] at this
  have e : ([47] : List Nat).length = 1 := rfl
  rw [e] at this
  omega
theorem row_in_ok {r : List Int} (h : ∀ x ∈ r, Fig x) (hl : r.length = 2 ∨ r.length = 3) : F_row_in [.str (rowT r)] = .ok (rowD r) := by
  refine run_ok ?_
  unfold g_row_in
  have hne : r ≠ [] := fun z => by rw [z] at hl; simp at hl
  have lw := row_len h (by omega)
  have e1 : oSplit (rowT r) (.str (Str.ofString "/")) = .ok (.lst (r.map fun x => .str (intS x))) := by
    rw [oSplit_ok (by rw [tl_sl]; simp) (by rw [len_tl]; omega), show Str.ofString "/" = sl from rfl, row_split hne, List.map_map]
    rfl
  have hc : (if (r.length : Int) = 2 then D.bl true else D.bl (decide ((r.length : Int) = 3))) = .bl true := by
    rcases hl with hl | hl <;> simp [hl]
  simp [e1]
  rw [hc, sure_ok]
  simp only [sat_ok]
  rw [lcF_of (enc := fun x : Int => D.str (intS x)) (enc' := D.int) (fun _ => true) (fun x => x)]
  · rw [filter_yes]
    simp [rowD]
  · intro x hx
    have := h x hx
    refine ⟨_, rfl, rfl, fun _ => ?_⟩
    simp [number_in_int this.1 this.2]
theorem joins_row {r : List Int} (h : ∀ x ∈ r, Fig x) (hl : r.length ≤ 3) : oJoin sl (.lst (r.map fun x => D.str (intS x))) = .ok (.str (rowT r)) := by
  have hm : ∀ y ∈ r.map intS, y.length ≤ 41 := fun y hy => by
    obtain ⟨x, hx, rfl⟩ := List.mem_map.mp hy
    rw [len_tl]
    exact int_len (h x hx)
  have lsl : sl.length = 1 := by rw [len_tl, tl_sl]; rfl
  have e := oJoin_ok (a := sl) hm (by simp; rw [lsl]; omega)
  rw [List.map_map] at e
  exact e
theorem row_shown_ok {r : List Int} (h : ∀ x ∈ r, Fig x) (hl : r.length ≤ 3) : F_row_shown [rowD r] = .ok (.str (rowT r)) ∧ F_law_row_text [rowD r] = .ok (.str (rowT r)) := by
  have lc : ∀ ρ : Env, lcF [1] (tN 1) bYes (dCall oStr (dCons (dV 1) dNil)) [some (rowD r), none] (r.map D.int) = .ok (r.map fun x => D.str (intS x)) := fun _ => by
    rw [lcF_of (enc := D.int) (enc' := fun x : Int => D.str (intS x)) (fun _ => true) (fun x => x)]
    · rw [filter_yes]
      simp
    · intro x hx
      have := h x hx
      refine ⟨_, rfl, rfl, fun _ => ?_⟩
      simp [oStr_int (x := x) (by have := this.1; omega) (by have := this.2; omega)]
  constructor
  · refine run_ok ?_
    unfold g_row_shown
    simp [lc [], joins_row h hl]
  · refine run_ok ?_
    unfold g_law_row_text
    simp [lc [], joins_row h hl]
end DL

set_option Elab.async false
set_option linter.all false
set_option maxRecDepth 100000
set_option maxHeartbeats 4000000
set_option autoImplicit false
/-! P2v: stairs and ways as texts. -/
namespace DL
open PySem L2 TL
abbrev mi : Str := Str.ofString "-"
def stairT (rs : List (List Int)) : Str := if rs = [] then mi else Txt.join sp (rs.map rowT)
def wayT (ws : List Int) : Str := if ws = [] then mi else Txt.join sp (ws.map intS)
structure RowsOk (rs : List (List Int)) (w : Nat) : Prop where
  hw : w = 2 ∨ w = 3
  l : ∀ r ∈ rs, r.length = w
  f : ∀ r ∈ rs, ∀ x ∈ r, Fig x
  n : rs.length ≤ 1000
theorem RowsOk.word {rs : List (List Int)} {w : Nat} (h : RowsOk rs w) {r : List Int} (hr : r ∈ rs) : (∀ c ∈ tl (rowT r), 45 ≤ c ∧ c ≤ 57) ∧ (tl (rowT r)).length ≤ 126 := by
  have := h.l r hr
  have := h.hw
  exact ⟨row_word (h.f r hr) (by omega), row_len (h.f r hr) (by omega)⟩
theorem RowsOk.split {rs : List (List Int)} {w : Nat} (h : RowsOk rs w) (hn : rs ≠ []) : Txt.split (stairT rs) sp = rs.map rowT := by
  unfold stairT
  rw [if_neg hn]
  refine split_join tl_sp sp_small (by simpa using hn) fun p hp => ?_
  obtain ⟨r, hr, rfl⟩ := List.mem_map.mp hp
  intro z
  have := (h.word hr).1 32 z
  omega
theorem RowsOk.len {rs : List (List Int)} {w : Nat} (h : RowsOk rs w) : (stairT rs).length ≤ 127001 := by
  unfold stairT
  split
  · rw [len_tl, tl_ofString]
    decide
  · rw [len_tl, tl_join2, tl_sp]
    have := joinL_len (S := [32]) (m := 126) (ps := (rs.map rowT).map tl) fun p hp => by
      rw [List.map_map] at hp
      obtain ⟨r, hr, rfl⟩ := List.mem_map.mp hp
      exact (h.word hr).2
    rw [List.length_map, List.length_map] at this
    have e : ([32] : List Nat).length = 1 := rfl
    rw [e] at this
    have := h.n
    omega
theorem RowsOk.asc {rs : List (List Int)} {w : Nat} (h : RowsOk rs w) : Asc (stairT rs) := by
  unfold stairT
  split
  · exact asc_of (s := "-")
  · intro c hc
    rw [tl_join2, tl_sp] at hc
    rcases joinL_mem hc with hc | ⟨p, hp, hc⟩
    · rw [List.mem_singleton.mp hc]
      decide
    · rw [List.map_map] at hp
      obtain ⟨r, hr, rfl⟩ := List.mem_map.mp hp
      have := (h.word hr).1 c hc
      omega
theorem RowsOk.joins {rs : List (List Int)} {w : Nat} (h : RowsOk rs w) : oJoin sp (.lst (rs.map fun r => D.str (rowT r))) = .ok (.str (Txt.join sp (rs.map rowT))) := by
  have hm : ∀ y ∈ rs.map rowT, y.length ≤ 126 := fun y hy => by
    obtain ⟨r, hr, rfl⟩ := List.mem_map.mp hy
    rw [len_tl]
    exact (h.word hr).2
  have lsp : sp.length = 1 := by rw [len_tl, tl_sp]; rfl
  have e := oJoin_ok (a := sp) hm (by have := h.n; simp; rw [lsp]; omega)
  rw [List.map_map] at e
  exact e
theorem cl_rowsV {rs : List (List Int)} : Cl 2 (.lst (rs.map rowD)) := cl_lst (n := 1) fun d hd => by
  obtain ⟨r, _, rfl⟩ := List.mem_map.mp hd
  exact cl_row
theorem rows_nil {rs : List (List Int)} : oEq (.lst (rs.map rowD)) (.lst []) = .ok (.bl (decide (rs = []))) := by
  rw [oEq_nil cl_rowsV]
  cases rs <;> rfl
theorem show_stair_ok {rs : List (List Int)} {w : Nat} (h : RowsOk rs w) : F_show_stair [.lst (rs.map rowD)] = .ok (.str (stairT rs)) := by
  refine run_ok ?_
  unfold g_show_stair stairT
  simp [rows_nil]
  by_cases hn : rs = []
  · simp [hn]
  · simp [hn]
    rw [lcF_of (enc := rowD) (enc' := fun r => D.str (rowT r)) (fun _ => true) (fun r => r)]
    · rw [filter_yes]
      have := h.joins
      simp at this ⊢
      simp [this]
    · intro r hr
      have h1 := h.l r hr
      have := h.hw
      refine ⟨_, rfl, rfl, fun _ => ?_⟩
      simp [(row_shown_ok (h.f r hr) (by omega)).1]
end DL

set_option Elab.async false
set_option linter.all false
set_option maxRecDepth 100000
set_option maxHeartbeats 4000000
set_option autoImplicit false
/-! P2c: shares: covers_within, is_picked, is_cover, are_apart and the laws' own words for them. -/
namespace DL
open PySem
def SmR (r : List Int) : Prop := ∀ x ∈ r, Sm x
/-- no greater by more than the share n of d -/
def nearB (n d : Int) (a b : List Int) : Bool := (List.range a.length).all fun k => decide (a.getD k 0 * d ≤ b.getD k 0 * (n + d))
theorem sm_get {r : List Int} (h : SmR r) (k : Nat) : Sm (r.getD k 0) := by
  rw [List.getD_eq_getElem?_getD]
  by_cases hk : k < r.length
  · rw [List.getElem?_eq_getElem hk]
    exact h _ (List.getElem_mem hk)
  · rw [List.getElem?_eq_none (by omega)]
    exact ⟨by decide, by decide⟩
abbrev shD (n d : Int) : D := .tup [.int n, .int d]
@[simp] theorem oLen_r {r : List Int} : oLen [rowD r] = .ok (.int r.length) := by unfold rowD; simp
theorem within_share {n d : Int} {a b : List Int} (hn : Sm (n + d)) (hd : Sm d) (ha : SmR a) (hb : SmR b) (h : a.length ≤ b.length) (hl : a.length ≤ 1000) : F_covers_within [rowD a, rowD b, shD n d] = .ok (.bl (nearB n d a b)) := by
  refine run_ok ?_
  unfold g_covers_within
  simp [itR1_ok (show (0 : Int) ≤ a.length by omega) (show (a.length : Int) ≤ 16777216 by omega), upTo_map]
  rw [lcF_of (enc := fun i : Nat => D.int i) (enc' := D.bl) (fun _ => true) (fun k => decide (a.getD k 0 * d ≤ b.getD k 0 * (n + d)))]
  · rw [filter_yes]
    simp only [R.bind_ok, oAll_m, sat_ok, nearB, List.all_map]
    rfl
  · intro k hk
    have hk : k < a.length := List.mem_range.mp hk
    simp [getI_row (r := a) (k := k) (by omega) (by omega), getI_row (r := b) (k := k) (by omega) (by omega), at0]
    have e1 := oMul_ok (sm_get ha k) hd
    have e2 := oMul_ok (sm_get hb k) hn
    simp at e1 e2
    simp [e1, e2]
theorem near_law {n d : Int} {a b : List Int} (hn : Sm (n + d)) (hd : Sm d) (ha : SmR a) (hb : SmR b) (h : a.length ≤ b.length) (hl : a.length ≤ 1000) : F_law_near [rowD a, rowD b, shD n d] = .ok (.bl (nearB n d a b)) := by
  refine run_ok ?_
  unfold g_law_near
  simp [itR1_ok (show (0 : Int) ≤ a.length by omega) (show (a.length : Int) ≤ 16777216 by omega), upTo_map]
  refine loop_inv (J := fun i ρ => ∃ x3, (∀ k < i, a.getD k 0 * d ≤ b.getD k 0 * (n + d)) ∧ ρ = [some (rowD a), some (rowD b), some (shD n d), x3]) _ 0 _ ⟨_, by simp, rfl⟩ ?_ ?_
  · rintro i e ρ he ⟨x3, hk, rfl⟩
    obtain ⟨hi, rfl⟩ : i < a.length ∧ e = .int i := by
      rw [List.getElem?_map] at he
      obtain ⟨j, h1, h2⟩ := Option.map_eq_some_iff.mp he
      obtain ⟨h3, h4⟩ := List.getElem?_eq_some_iff.mp h1
      rw [List.getElem_range] at h4
      subst h4
      exact ⟨by simpa using h3, h2.symm⟩
    have e1 := oMul_ok (sm_get ha i) hd
    have e2 := oMul_ok (sm_get hb i) hn
    have g1 : getI [D.int n, D.int d] 1 = .ok (.int d) := getI_ok (by decide) rfl
    have g0 : getI [D.int n, D.int d] 0 = .ok (.int n) := getI_ok (by decide) rfl
    simp [getI_row (r := a) (k := i) (by omega) (by omega), getI_row (r := b) (k := i) (by omega) (by omega), at0, g0, g1]
    simp at e1 e2
    simp [e1, e2]
    split
    · rename_i hlt
      simp [nearB]
      exact ⟨i, hi, by simpa using hlt⟩
    · rename_i hlt
      refine ⟨fun k hk2 => ?_, _, rfl⟩
      by_cases hki : k = i
      · subst hki
        simpa using hlt
      · have := hk k (by omega)
        simpa using this
  · rintro ρ ⟨x3, hk, rfl⟩
    simp [nearB]
    intro k h
    have := hk k (by simpa using h)
    simpa using this
/-! rising rows -/
def adjB : List (List Int) → Bool
  | a :: b :: l => decide (a < b) && adjB (b :: l)
  | _ => true
theorem adj_iff : ∀ {l : List (List Int)}, adjB l = true ↔ l.Pairwise (· < ·)
  | [] => by simp [adjB]
  | [a] => by simp [adjB]
  | a :: b :: l => by
    have ih := adj_iff (l := b :: l)
    unfold adjB
    rw [Bool.and_eq_true, ih, decide_eq_true_eq, List.pairwise_cons (a := a)]
    constructor
    · rintro ⟨h1, h2⟩
      refine ⟨fun y hy => ?_, h2⟩
      rcases List.mem_cons.mp hy with e | e
      · subst e; exact h1
      · exact List.lt_trans h1 ((List.pairwise_cons.mp h2).1 y e)
    · rintro ⟨h1, h2⟩
      exact ⟨h1 b List.mem_cons_self, h2⟩
theorem sortU_iff {l : List (List Int)} : l = sortU l ↔ adjB l = true := by
  rw [adj_iff]
  constructor
  · intro h
    rw [h]
    exact sortU_asc
  · intro h
    exact asc_ext h sortU_asc fun y => sortU_mem.symm
theorem adj_range : ∀ (l : List (List Int)), adjB l = (List.range (l.length - 1)).all fun k => decide (l.getD k [] < l.getD (k + 1) [])
  | [] => rfl
  | [a] => rfl
  | a :: b :: l => by
    have ih := adj_range (b :: l)
    unfold adjB
    rw [ih]
    simp only [List.length_cons, Nat.add_sub_cancel]
    rw [List.range_succ_eq_map]
    simp [List.all_map, Function.comp_def]
theorem toPs_ints (r : List Int) : toPs (r.map .int) = r.map .int := by
  induction r with
  | nil => rfl
  | cons a r ih => simp [toPs, toP, ih]
theorem alike_ints : ∀ (r s : List Int), PySem.W.alikeAll (r.map .int) (s.map .int) = true
  | [], _ => by simp [PySem.W.alikeAll]
  | _ :: _, [] => by simp [PySem.W.alikeAll]
  | a :: r, b :: s => by simp [PySem.W.alikeAll, PySem.W.alike, alike_ints r s]
theorem oLtG_r {r s : List Int} : oLtG (rowD r) (rowD s) = .ok (.bl (decide (r < s))) := by
  have h := congrFun (congrFun (rowLe_tuple (fun x : List Int => x)) s) r
  rw [PySem.W.dataLe_eq] at h
  have h2 : PySem.W.dataLt (.tuple (r.map .int)) (.tuple (s.map .int)) = decide (r < s) := by
    have h3 : (!PySem.W.dataLt (.tuple (r.map .int)) (.tuple (s.map .int))) = rowLe s r := h
    rw [← Bool.not_not (PySem.W.dataLt _ _), h3]
    unfold rowLe
    rw [← decide_not]
    congr 1
    rw [List.not_le]
  have al : PySem.W.alike (toP (rowD r)) (toP (rowD s)) = true := by
    unfold rowD
    simp only [toP, toPs_ints, PySem.W.alike, alike_ints]
  have e : PySem.W.dataLt (toP (rowD r)) (toP (rowD s)) = decide (r < s) := by
    unfold rowD
    simp only [toP, toPs_ints, h2]
  unfold oLtG
  rw [if_pos ⟨cl_row.ok (by decide), cl_row.ok (by decide), al, rfl⟩, e]
theorem deq_row {r s : List Int} : deq (rowD r) (rowD s) = decide (r = s) := by
  rw [Bool.eq_iff_iff, deq_iff cl_row cl_row]
  simp only [rowD, D.tup.injEq, decide_eq_true_eq]
  exact ⟨fun h => (List.map_inj_right (fun a b h => D.int.inj h)).mp h, fun h => by rw [h]⟩
theorem deq_rws {r s : List (List Int)} : deq (.lst (r.map rowD)) (.lst (s.map rowD)) = decide (r = s) := by
  rw [Bool.eq_iff_iff, deq_iff cl_rows cl_rows]
  simp only [D.lst.injEq, decide_eq_true_eq]
  refine ⟨fun h => (List.map_inj_right (fun a b h => ?_)).mp h, fun h => by rw [h]⟩
  have z : deq (rowD a) (rowD b) = true := (deq_iff cl_row cl_row).mpr h
  rw [deq_row] at z
  exact of_decide_eq_true z
theorem oIn_rows {neg : Bool} {r : List Int} {st : List (List Int)} : oIn neg (rowD r) (.lst (st.map rowD)) = .ok (.bl (if neg then !decide (r ∈ st) else decide (r ∈ st))) := by
  have e : (st.map rowD).any (fun z => deq z (rowD r)) = decide (r ∈ st) := by
    induction st with
    | nil => rfl
    | cons a l ih =>
      rw [List.map_cons, List.any_cons, ih, deq_row, Bool.eq_iff_iff]
      simp
      exact or_congr eq_comm Iff.rfl
  unfold oIn
  dsimp only
  rw [if_pos ⟨cl_row.ok (by decide), cl_rows.ok (by decide)⟩, e]
/-- rows of the stair, rising -/
def pickB (st rows : List (List Int)) : Bool := (rows.all fun r => decide (r ∈ st)) && adjB rows
theorem is_picked_ok {st rows : List (List Int)} (hn : rows.length ≤ 16777216) : F_is_picked [.lst (st.map rowD), .lst (rows.map rowD)] = .ok (.bl (pickB st rows)) := by
  refine run_ok ?_
  unfold g_is_picked
  simp
  rw [lcF_of (enc := rowD) (enc' := D.bl) (fun _ => true) (fun r => decide (r ∈ st))]
  · rw [filter_yes]
    simp [-List.map_map]
    by_cases hall : ∀ x ∈ rows, x ∈ st
    · have hb : (rows.all fun r => decide (r ∈ st)) = true := by simpa using hall
      have e2 : itR2 [.int 1, .int (rows.length : Int)] = .ok ((List.range (rows.length - 1)).map fun i : Nat => D.int (1 + (i : Int))) := by
        show (if _ then _ else _) = _
        rw [if_pos (by omega)]
        unfold upTo
        congr 2
        congr 1
        omega
      rw [if_neg (by rintro ⟨x, h1, h2⟩; exact h2 (hall x h1))]
      simp [-List.map_map, e2]
      rw [lcF_of (enc := fun i : Nat => D.int (1 + (i : Int))) (enc' := D.bl) (fun _ => true) (fun k => decide (rows.getD k [] < rows.getD (k + 1) []))]
      · rw [filter_yes]
        simp only [R.bind_ok, oAll_m, sat_ok, pickB, hb, Bool.true_and, adj_range, List.all_map]
        rfl
      · intro k hk
        have hk2 : k < rows.length - 1 := List.mem_range.mp hk
        have g1 : getI (rows.map rowD) (1 + (k : Int) - 1) = .ok (rowD (rows.getD k [])) := by
          rw [getI_map (enc := rowD) (by omega) (by omega)]
          have : (1 + (k : Int) - 1).toNat = k := by omega
          simp [this, List.getElem?_eq_getElem (show k < rows.length by omega)]
        have g2 : getI (rows.map rowD) (1 + (k : Int)) = .ok (rowD (rows.getD (k + 1) [])) := by
          rw [getI_map (enc := rowD) (by omega) (by omega)]
          have : (1 + (k : Int)).toNat = k + 1 := by omega
          simp [this, List.getElem?_eq_getElem (show k + 1 < rows.length by omega)]
        simp [g1, g2, oLtG_r]
    · have hb : (rows.all fun r => decide (r ∈ st)) = false := by
        cases e : (rows.all fun r => decide (r ∈ st))
        · rfl
        · exact absurd (by simpa using e) hall
      rw [if_pos (by simpa using hall)]
      simp [pickB, hb]
  · intro r hr
    simp [oIn_rows]
end DL

set_option Elab.async false
set_option linter.all false
set_option maxRecDepth 100000
set_option maxHeartbeats 4000000
set_option autoImplicit false
/-! P2d: covers and rows apart, the program's word and the laws'. -/
namespace DL
open PySem
def coverB (n d : Int) (st rows : List (List Int)) : Bool := pickB st rows && st.all fun row => rows.any fun one => nearB n d one row
def apartB (n d : Int) (st rows : List (List Int)) : Bool := pickB st rows && st.all fun one => decide ((rows.filter fun row => nearB n d one row).length ≤ 1)
/-- a stair of width w, of bounded numbers -/
structure Nice (w : Nat) (st : List (List Int)) : Prop where
  wd : Wd w st
  sm : ∀ r ∈ st, SmR r
  w0 : 0 < w
  w1 : w ≤ 1000
theorem pick_sub {st rows : List (List Int)} (h : pickB st rows = true) : ∀ r ∈ rows, r ∈ st := by
  unfold pickB at h
  rw [Bool.and_eq_true] at h
  simpa using h.1
theorem is_cover_ok {w : Nat} {n d : Int} {st rows : List (List Int)} (N : Nice w st) (hn : Sm (n + d)) (hd : Sm d) (hl : rows.length ≤ 16777216) : F_is_cover [.lst (st.map rowD), .lst (rows.map rowD), shD n d] = .ok (.bl (coverB n d st rows)) := by
  refine run_ok ?_
  unfold g_is_cover
  simp [is_picked_ok hl]
  cases hp : pickB st rows
  · simp [coverB, hp]
  · have hs := pick_sub hp
    simp
    rw [lcF_of (enc := rowD) (enc' := D.bl) (fun _ => true) (fun row => rows.any fun one => nearB n d one row)]
    · rw [filter_yes]
      simp only [R.bind_ok, oAll_m, sat_ok, coverB, hp, Bool.true_and, List.all_map]
      rfl
    · intro row hr
      simp
      rw [lcF_of (enc := rowD) (enc' := D.bl) (fun _ => true) (fun one => nearB n d one row)]
      · rw [filter_yes]
        simp only [R.bind_ok, oAny_m, List.any_map]
        rfl
      · intro one ho
        have l1 := N.wd one (hs one ho)
        have l2 := N.wd row hr
        have l3 := N.w1
        simp [within_share hn hd (N.sm one (hs one ho)) (N.sm row hr) (by omega) (by omega)]
theorem are_apart_ok {w : Nat} {n d : Int} {st rows : List (List Int)} (N : Nice w st) (hn : Sm (n + d)) (hd : Sm d) (hl : rows.length ≤ 16777216) : F_are_apart [.lst (st.map rowD), .lst (rows.map rowD), shD n d] = .ok (.bl (apartB n d st rows)) := by
  refine run_ok ?_
  unfold g_are_apart
  simp [is_picked_ok hl]
  cases hp : pickB st rows
  · simp [apartB, hp]
  · have hs := pick_sub hp
    simp
    refine loop_inv (J := fun i ρ => ∃ x3 x4, (∀ k < i, ∀ one, st[k]? = some one → (rows.filter fun row => nearB n d one row).length ≤ 1) ∧ ρ = [some (.lst (st.map rowD)), some (.lst (rows.map rowD)), some (shD n d), x3, x4]) _ 0 _ ⟨_, _, by simp, rfl⟩ ?_ ?_
    · rintro i e ρ he ⟨x3, x4, hk, rfl⟩
      rw [List.getElem?_map] at he
      obtain ⟨one, h1, rfl⟩ := Option.map_eq_some_iff.mp he
      have h1m := List.mem_of_getElem? h1
      simp
      rw [lcF_of (enc := rowD) (enc' := rowD) (fun row => nearB n d one row) (fun r => r)]
      · simp
        split
        · rename_i hlt
          simp [apartB, hp]
          exact ⟨one, h1m, by omega⟩
        · rename_i hlt
          refine ⟨fun k hk2 o ho => ?_, _, _, rfl⟩
          by_cases hki : k = i
          · subst hki
            rw [h1] at ho
            cases ho
            omega
          · exact hk k (by omega) o ho
      · intro row ho
        have l1 := N.wd one h1m
        have l2 := N.wd row (hs row ho)
        have l3 := N.w1
        simp [within_share hn hd (N.sm one h1m) (N.sm row (hs row ho)) (by omega) (by omega)]
    · rintro ρ ⟨x3, x4, hk, rfl⟩
      simp [apartB, hp]
      intro one ho
      obtain ⟨k, h1, h2⟩ := List.mem_iff_getElem.mp ho
      exact hk k (by simpa using h1) one (List.getElem?_eq_some_iff.mpr ⟨h1, h2⟩)
theorem mem_filter_none {st rows : List (List Int)} : (rows.filter fun r => !decide (r ∈ st)) = [] ↔ (rows.all fun r => decide (r ∈ st)) = true := by
  simp [List.filter_eq_nil_iff]
/-- what the laws ask ahead -/
theorem law_pick {st rows : List (List Int)} {w : Nat} (N : Nice w st) (hl : rows.length < 64) {T : Type} (z : R Bool) (ds : List D) (h1 : z = .ok (!decide ((rows.filter fun r => !decide (r ∈ st)) = [])))
    (h2 : R Bool) (e2 : (∀ r ∈ rows, r ∈ st) → h2 = .ok (!decide (rows = sortU rows))) : (z.bind fun b => if b = true then R.ok true else h2) = .ok (!pickB st rows) := by
  rw [h1]
  by_cases hall : ∀ r ∈ rows, r ∈ st
  · have hb : (rows.all fun r => decide (r ∈ st)) = true := by simpa using hall
    rw [decide_eq_true (mem_filter_none.mpr hb), e2 hall]
    unfold pickB
    rw [hb]
    simp only [R.bind_ok, Bool.not_true, Bool.false_eq_true, if_false, Bool.true_and]
    congr 2
    rw [Bool.eq_iff_iff, decide_eq_true_eq, sortU_iff]
  · have hb : (rows.all fun r => decide (r ∈ st)) = false := by
      cases e : (rows.all fun r => decide (r ∈ st))
      · rfl
      · exact absurd (by simpa using e) hall
    have hf : ¬ (rows.filter fun r => !decide (r ∈ st)) = [] := fun z => by
      rw [mem_filter_none, hb] at z
      cases z
    rw [decide_eq_false hf]
    simp [pickB, hb]
theorem law_is_cover_ok {w : Nat} {n d : Int} {st rows : List (List Int)} (N : Nice w st) (hn : Sm (n + d)) (hd : Sm d) (hl : rows.length < 64) : F_law_is_cover [.lst (st.map rowD), .lst (rows.map rowD), shD n d] = .ok (.bl (coverB n d st rows)) := by
  refine run_ok ?_
  unfold g_law_is_cover
  refine Eq.mpr (oSeq_wp) ?_
  simp only [oIf_eq, bOr_eq]
  rw [law_pick (T := Nat) N hl _ [] ?_ _ ?_]
  rotate_left
  · simp
    rw [lcF_of (enc := rowD) (enc' := rowD) (fun r => !decide (r ∈ st)) (fun r => r)]
    · simp only [List.map_id', R.bind_ok]
      rw [oNe_cl cl_rows (cl_lst (n := 0) (ds := []) (by simp))]
      rw [deq_nil cl_rows, isEmpty_map]
      simp only [R.bind_ok, asB_bl]
      congr 2
      rw [Bool.eq_iff_iff, List.isEmpty_iff, decide_eq_true_eq, mem_filter_none]
      simp
    · intro r hr
      simp [oIn_rows]
  · intro hall
    have hw : Wd w rows := fun r hr => N.wd r (hall r hr)
    simp [oSortSet_ok hw N.w0 hl, oNe_cl cl_rows cl_rows, deq_rws]
  cases hp : pickB st rows
  · simp [coverB, hp]
  · have hs := pick_sub hp
    simp
    refine loop_inv (J := fun i ρ => ∃ x3 x4, (∀ k < i, ∀ one, st[k]? = some one → (rows.any fun row => nearB n d row one) = true) ∧ ρ = [some (.lst (st.map rowD)), some (.lst (rows.map rowD)), some (shD n d), x3, x4]) _ 0 _ ⟨_, _, by simp, rfl⟩ ?_ ?_
    · rintro i e ρ he ⟨x3, x4, hk, rfl⟩
      rw [List.getElem?_map] at he
      obtain ⟨one, h1, rfl⟩ := Option.map_eq_some_iff.mp he
      have h1m := List.mem_of_getElem? h1
      simp
      rw [lcF_of (enc := rowD) (enc' := rowD) (fun row => nearB n d row one) (fun r => r)]
      · simp only [List.map_id', R.bind_ok]
        rw [oEq_nil cl_rows, isEmpty_map]
        simp only [R.bind_ok, asB_bl, sat_ok]
        cases hE : (rows.filter fun row => nearB n d row one).isEmpty
        · simp
          intro k hk2 o ho
          by_cases hki : k = i
          · subst hki
            rw [h1] at ho
            cases ho
            rw [filter_isEmpty] at hE
            simpa using hE
          · have := hk k (by omega) o ho
            simpa using this
        · simp [coverB, hp]
          rw [filter_isEmpty] at hE
          exact ⟨one, h1m, by simpa using hE⟩
      · intro row ho
        have l1 := N.wd one h1m
        have l2 := N.wd row (hs row ho)
        have l3 := N.w1
        simp [near_law hn hd (N.sm row (hs row ho)) (N.sm one h1m) (by omega) (by omega)]
    · rintro ρ ⟨x3, x4, hk, rfl⟩
      simp [coverB, hp]
      intro one ho
      obtain ⟨k, h1, h2⟩ := List.mem_iff_getElem.mp ho
      have := hk k (by simpa using h1) one (List.getElem?_eq_some_iff.mpr ⟨h1, h2⟩)
      simpa using this
theorem law_are_apart_ok {w : Nat} {n d : Int} {st rows : List (List Int)} (N : Nice w st) (hn : Sm (n + d)) (hd : Sm d) (hl : rows.length < 64) : F_law_are_apart [.lst (st.map rowD), .lst (rows.map rowD), shD n d] = .ok (.bl (apartB n d st rows)) := by
  refine run_ok ?_
  unfold g_law_are_apart
  refine Eq.mpr (oSeq_wp) ?_
  simp only [oIf_eq, bOr_eq]
  rw [law_pick (T := Nat) N hl _ [] ?_ _ ?_]
  rotate_left
  · simp
    rw [lcF_of (enc := rowD) (enc' := rowD) (fun r => !decide (r ∈ st)) (fun r => r)]
    · simp only [List.map_id', R.bind_ok]
      rw [oNe_cl cl_rows (cl_lst (n := 0) (ds := []) (by simp))]
      rw [deq_nil cl_rows, isEmpty_map]
      simp only [R.bind_ok, asB_bl]
      congr 2
      rw [Bool.eq_iff_iff, List.isEmpty_iff, decide_eq_true_eq, mem_filter_none]
      simp
    · intro r hr
      simp [oIn_rows]
  · intro hall
    have hw : Wd w rows := fun r hr => N.wd r (hall r hr)
    simp [oSortSet_ok hw N.w0 hl, oNe_cl cl_rows cl_rows, deq_rws]
  cases hp : pickB st rows
  · simp [apartB, hp]
  · have hs := pick_sub hp
    simp
    refine loop_inv (J := fun i ρ => ∃ x3 x4, (∀ k < i, ∀ one, st[k]? = some one → (rows.filter fun row => nearB n d one row).length ≤ 1) ∧ ρ = [some (.lst (st.map rowD)), some (.lst (rows.map rowD)), some (shD n d), x3, x4]) _ 0 _ ⟨_, _, by simp, rfl⟩ ?_ ?_
    · rintro i e ρ he ⟨x3, x4, hk, rfl⟩
      rw [List.getElem?_map] at he
      obtain ⟨one, h1, rfl⟩ := Option.map_eq_some_iff.mp he
      have h1m := List.mem_of_getElem? h1
      simp
      rw [lcF_of (enc := rowD) (enc' := rowD) (fun row => nearB n d one row) (fun r => r)]
      · simp
        split
        · rename_i hlt
          simp [apartB, hp]
          exact ⟨one, h1m, by omega⟩
        · rename_i hlt
          refine ⟨fun k hk2 o ho => ?_, _, _, rfl⟩
          by_cases hki : k = i
          · subst hki
            rw [h1] at ho
            cases ho
            omega
          · exact hk k (by omega) o ho
      · intro row ho
        have l1 := N.wd one h1m
        have l2 := N.wd row (hs row ho)
        have l3 := N.w1
        simp [near_law hn hd (N.sm one h1m) (N.sm row (hs row ho)) (by omega) (by omega)]
    · rintro ρ ⟨x3, x4, hk, rfl⟩
      simp [apartB, hp]
      intro one ho
      obtain ⟨k, h1, h2⟩ := List.mem_iff_getElem.mp ho
      exact hk k (by simpa using h1) one (List.getElem?_eq_some_iff.mpr ⟨h1, h2⟩)
end DL

set_option Elab.async false
set_option linter.all false
set_option maxRecDepth 100000
set_option maxHeartbeats 4000000
set_option autoImplicit false
/-! M1: the lower hull of a falling stair, plain. -/
namespace DL
abbrev Pt := Int × Int
/-- on which side of the line from a to b -/
def cr (a b p : Pt) : Int := (b.1 - a.1) * (p.2 - a.2) - (b.2 - a.2) * (p.1 - a.1)
theorem pos_of_mul {s x : Int} (hs : 0 < s) (h : 0 ≤ s * x) : 0 ≤ x := by
  rcases Int.lt_or_le x 0 with hx | hx
  · have := Int.mul_neg_of_pos_of_neg hs hx
    omega
  · exact hx
theorem spos_of_mul {s x : Int} (hs : 0 < s) (h : 0 < s * x) : 0 < x := by
  rcases Int.lt_or_le 0 x with hx | hx
  · exact hx
  · have := Int.mul_nonpos_of_nonneg_of_nonpos (Int.le_of_lt hs) hx
    omega
theorem crA {a b r p : Pt} (h1 : a.1 < b.1) (h2 : b.1 < r.1) (h3 : p.1 ≤ r.1) (h4 : 0 ≤ cr b r p) (h5 : cr a b r ≤ 0) : 0 ≤ cr a r p := by
  unfold cr at *
  refine pos_of_mul (show 0 < r.1 - b.1 by omega) ?_
  have x := Int.mul_nonneg (show 0 ≤ b.1 - a.1 by omega) h4
  have y := Int.mul_nonneg (show 0 ≤ r.1 - b.1 by omega) h4
  have z := Int.mul_nonneg (show 0 ≤ -((b.1 - a.1) * (r.2 - a.2) - (b.2 - a.2) * (r.1 - a.1)) by omega) (show 0 ≤ r.1 - p.1 by omega)
  grind
theorem crB {a b r p : Pt} (h1 : a.1 < b.1) (h2 : a.1 < r.1) (h3 : a.1 ≤ p.1) (h4 : 0 ≤ cr a b p) (h5 : cr a b r ≤ 0) : 0 ≤ cr a r p := by
  unfold cr at *
  refine pos_of_mul (show 0 < b.1 - a.1 by omega) ?_
  have x := Int.mul_nonneg (show 0 ≤ r.1 - a.1 by omega) h4
  have z := Int.mul_nonneg (show 0 ≤ -((b.1 - a.1) * (r.2 - a.2) - (b.2 - a.2) * (r.1 - a.1)) by omega) (show 0 ≤ p.1 - a.1 by omega)
  grind
theorem crC {a c r p : Pt} (h1 : a.1 < c.1) (h2 : c.1 < r.1) (h3 : p.1 ≤ c.1) (h4 : 0 ≤ cr a c p) (h5 : 0 < cr a c r) : 0 ≤ cr c r p := by
  unfold cr at *
  refine pos_of_mul (show 0 < c.1 - a.1 by omega) ?_
  have x := Int.mul_nonneg (show 0 ≤ r.1 - c.1 by omega) h4
  have z := Int.mul_nonneg (Int.le_of_lt h5) (show 0 ≤ c.1 - p.1 by omega)
  grind
theorem crD {a' a c r : Pt} (h0 : a'.1 < a.1) (h1 : a.1 < c.1) (h2 : c.1 < r.1) (h4 : 0 < cr a' a c) (h5 : 0 < cr a c r) : 0 < cr a' a r := by
  unfold cr at *
  refine spos_of_mul (show 0 < c.1 - a.1 by omega) ?_
  have x := Int.mul_pos (show 0 < a.1 - a'.1 by omega) h5
  have z := Int.mul_pos h4 (show 0 < r.1 - a.1 by omega)
  grind
theorem crE {a p b q t : Pt} (h0 : a.1 < p.1) (h1 : p.1 < b.1) (h2 : q.1 < p.1) (h3 : p.1 < t.1) (h4 : 0 ≤ cr a p q) (h5 : 0 < cr a p b) (h6 : 0 ≤ cr p b t) : 0 < cr q p t := by
  unfold cr at *
  -- slope q p ≤ slope a p < slope p b ≤ slope p t
  refine spos_of_mul (Int.mul_pos (show 0 < p.1 - a.1 by omega) (show 0 < b.1 - p.1 by omega)) ?_
  have x := Int.mul_nonneg (Int.mul_nonneg (show 0 ≤ b.1 - p.1 by omega) (show 0 ≤ t.1 - p.1 by omega)) h4
  have y := Int.mul_nonneg (Int.mul_nonneg (show 0 ≤ p.1 - a.1 by omega) (show 0 ≤ p.1 - q.1 by omega)) h6
  have z := Int.mul_pos (Int.mul_pos (show 0 < p.1 - q.1 by omega) (show 0 < t.1 - p.1 by omega)) h5
  grind
/-! the stack, its top ahead -/
def popTo (r : Pt) : List Pt → List Pt
  | b :: a :: l => if 0 < cr a b r then b :: a :: l else popTo r (a :: l)
  | l => l
def push (S : List Pt) (r : Pt) : List Pt := r :: popTo r S
def hull (L : List Pt) : List Pt := (L.foldl push []).reverse
/-- strictly bent at each -/
def Conv : List Pt → Prop
  | c :: b :: a :: l => 0 < cr a b c ∧ Conv (b :: a :: l)
  | _ => True
/-- all above each piece -/
def Abv (L : List Pt) : List Pt → Prop
  | b :: a :: l => (∀ p ∈ L, 0 ≤ cr a b p) ∧ Abv L (a :: l)
  | _ => True
/-- falling -/
abbrev Dn (l : List Pt) : Prop := l.Pairwise fun a b => b.1 < a.1
structure Hl (S L : List Pt) : Prop where
  sub : S.Sublist L
  ne : L ≠ [] → S ≠ []
  hd : S.head? = L.head?
  la : S.getLast? = L.getLast?
  cv : Conv S
  ab : Abv L S
theorem popTo_ok {L : List Pt} {r : Pt} (hr : ∀ p ∈ L, p.1 < r.1) : ∀ {T : List Pt}, Dn T → Conv T → Abv L T → (∀ t ∈ T, t ∈ L) → T ≠ [] →
    (∀ t, T.head? = some t → ∀ p ∈ L, t.1 ≤ p.1 → 0 ≤ cr t r p) → (∀ t, T.getLast? = some t → ∀ p ∈ L, t.1 ≤ p.1) →
    Conv (r :: popTo r T) ∧ Abv L (r :: popTo r T) ∧ (popTo r T).getLast? = T.getLast? ∧ (popTo r T).Sublist T ∧ popTo r T ≠ []
  | [], _, _, _, _, h, _, _ => absurd rfl h
  | [t], _, _, _, _, _, h, h' => by
    simp only [popTo, Conv, Abv, true_and, and_true]
    refine ⟨fun p hp => ?_, List.Sublist.refl _, by simp⟩
    exact h t rfl p hp (h' t rfl p hp)
  | b :: a :: l, hd, hc, ha, hm, _, h, h' => by
    have hd1 := List.pairwise_cons.mp hd
    have hab : a.1 < b.1 := hd1.1 a (by simp)
    have hbr := hr b (hm b (by simp))
    have har := hr a (hm a (by simp))
    unfold popTo
    split
    · rename_i hcr
      refine ⟨⟨hcr, hc⟩, ⟨fun p hp => ?_, ha⟩, rfl, List.Sublist.refl _, by simp⟩
      rcases Int.lt_or_le p.1 b.1 with hpb | hpb
      · exact crC hab hbr (by omega) (ha.1 p hp) hcr
      · exact h b rfl p hp hpb
    · rename_i hcr
      have hc2 : Conv (a :: l) := by
        cases l with
        | nil => trivial
        | cons x l => exact hc.2
      have hh : ∀ t, (a :: l).head? = some t → ∀ p ∈ L, t.1 ≤ p.1 → 0 ≤ cr t r p := by
        intro t ht p hp htp
        cases ht
        rcases Int.lt_or_le p.1 b.1 with hpb | hpb
        · exact crB hab har htp (ha.1 p hp) (by omega)
        · exact crA hab hbr (Int.le_of_lt (hr p hp)) (h b rfl p hp hpb) (by omega)
      obtain ⟨i1, i2, i3, i4, i5⟩ := popTo_ok hr (T := a :: l) hd1.2 hc2 ha.2 (fun t ht => hm t (List.mem_cons_of_mem _ ht)) (by simp) hh (fun t ht => h' t (by simpa using ht))
      exact ⟨i1, i2, by rw [i3]; simp, i4.trans (List.sublist_cons_self _ _), i5⟩
theorem conv_abv {r : Pt} : ∀ {T : List Pt}, Dn (r :: T) → Conv (r :: T) → ∀ {L : List Pt}, Abv L (r :: T) → Abv (r :: L) (r :: T)
  | [], _, _, _, _ => trivial
  | [t], _, _, L, h => ⟨fun p hp => by
      rcases List.mem_cons.mp hp with rfl | hp
      · unfold cr; grind
      · exact h.1 p hp, trivial⟩
  | c :: a :: l, hd, hc, L, h => by
    have hd1 := List.pairwise_cons.mp hd
    have hd2 := List.pairwise_cons.mp hd1.2
    refine ⟨fun p hp => ?_, ?_⟩
    · rcases List.mem_cons.mp hp with rfl | hp
      · unfold cr; grind
      · exact h.1 p hp
    · -- each piece of c :: a :: l is below r
      have key : ∀ {T : List Pt} {c a : Pt}, Dn (c :: a :: T) → Conv (c :: a :: T) → c.1 < r.1 → 0 < cr a c r → Abv L (c :: a :: T) → Abv (r :: L) (c :: a :: T) := by
        intro T
        induction T with
        | nil =>
          intro c a hd hc hcr h0 ha
          refine ⟨fun p hp => ?_, trivial⟩
          rcases List.mem_cons.mp hp with rfl | hp
          · omega
          · exact ha.1 p hp
        | cons b T ih =>
          intro c a hd hc hcr h0 ha
          have e1 := List.pairwise_cons.mp hd
          have e2 := List.pairwise_cons.mp e1.2
          have hac : a.1 < c.1 := e1.1 a (by simp)
          have hba : b.1 < a.1 := e2.1 b (by simp)
          refine ⟨fun p hp => ?_, ih e1.2 hc.2 (by omega) (crD hba hac hcr hc.1 h0) ha.2⟩
          rcases List.mem_cons.mp hp with rfl | hp
          · omega
          · exact ha.1 p hp
      exact key hd1.2 hc.2 (hd1.1 c (by simp)) hc.1 h.2
theorem push_ok {S L : List Pt} {r : Pt} (hL : Dn (r :: L)) (h : Hl S L) : Hl (push S r) (r :: L) := by
  have hL1 := List.pairwise_cons.mp hL
  unfold push
  by_cases hn : L = []
  · subst hn
    have : S = [] := List.eq_nil_of_sublist_nil h.sub
    subst this
    exact ⟨List.Sublist.refl _, fun _ => by simp [popTo], rfl, rfl, trivial, trivial⟩
  · have hS := h.ne hn
    have hdS : Dn S := List.Pairwise.sublist h.sub hL1.2
    have h1 : ∀ t, S.head? = some t → ∀ p ∈ L, t.1 ≤ p.1 → 0 ≤ cr t r p := by
      intro t ht p hp htp
      rw [h.hd] at ht
      cases L with
      | nil => exact absurd rfl hn
      | cons a L =>
        cases ht
        have e := List.pairwise_cons.mp hL1.2
        rcases List.mem_cons.mp hp with rfl | hp
        · unfold cr; grind
        · have := e.1 p hp
          omega
    have h2 : ∀ t, S.getLast? = some t → ∀ p ∈ L, t.1 ≤ p.1 := by
      intro t ht p hp
      rw [h.la] at ht
      obtain ⟨ys, hy⟩ := List.getLast?_eq_some_iff.mp ht
      subst hy
      have e := List.pairwise_append.mp hL1.2
      rcases List.mem_append.mp hp with hp | hp
      · exact Int.le_of_lt (e.2.2 p hp t (by simp))
      · rw [List.mem_singleton.mp hp]
        exact Int.le_refl _
    obtain ⟨i1, i2, i3, i4, i5⟩ := popTo_ok (L := L) (r := r) hL1.1 hdS h.cv h.ab (fun t ht => h.sub.subset ht) hS h1 h2
    have hdn : Dn (r :: popTo r S) := List.pairwise_cons.mpr ⟨fun q hq => hL1.1 q (h.sub.subset (i4.subset hq)), List.Pairwise.sublist i4 hdS⟩
    refine ⟨List.Sublist.cons₂ r (i4.trans h.sub), fun _ => by simp, rfl, ?_, i1, conv_abv hdn i1 i2⟩
    rw [List.getLast?_cons, List.getLast?_cons, i3, h.la]
/-- rising -/
abbrev Up (l : List Pt) : Prop := l.Pairwise fun a b => a.1 < b.1
theorem fold_ok : ∀ {Q : List Pt} {S L : List Pt}, Hl S L → Dn (Q.reverse ++ L) → Hl (Q.foldl push S) (Q.reverse ++ L)
  | [], S, L, h, _ => h
  | r :: Q, S, L, h, hd => by
    rw [List.reverse_cons, List.append_assoc] at hd ⊢
    have e := List.pairwise_append.mp hd
    exact fold_ok (push_ok e.2.1 h) hd
theorem stack_ok {Q : List Pt} (h : Up Q) : Hl (Q.foldl push []) Q.reverse := by
  have := fold_ok (Q := Q) (S := []) (L := []) ⟨List.Sublist.refl _, fun h => absurd rfl h, rfl, rfl, trivial, trivial⟩ (by
    rw [List.append_nil]
    exact List.pairwise_reverse.mpr h)
  rwa [List.append_nil] at this
/-- below all straight lines of others -/
def extB (L : List Pt) (p : Pt) : Bool := L.all fun q => L.all fun t => decide (q.1 < p.1 → p.1 < t.1 → 0 < cr q p t)
theorem ext_iff {L : List Pt} {p : Pt} : extB L p = true ↔ ∀ q ∈ L, ∀ t ∈ L, q.1 < p.1 → p.1 < t.1 → 0 < cr q p t := by
  unfold extB
  rw [List.all_eq_true]
  refine forall_congr' fun q => imp_congr_right fun _ => ?_
  rw [List.all_eq_true]
  refine forall_congr' fun t => imp_congr_right fun _ => ?_
  exact decide_eq_true_iff
theorem dn_inj {L : List Pt} (h : Dn L) {a b : Pt} (ha : a ∈ L) (hb : b ∈ L) (e : a.1 = b.1) : a = b := by
  induction L with
  | nil => cases ha
  | cons c L ih =>
    have h1 := List.pairwise_cons.mp h
    rcases List.mem_cons.mp ha with e1 | ha <;> rcases List.mem_cons.mp hb with e2 | hb
    · rw [e1, e2]
    · have := h1.1 b hb; rw [e1] at e; omega
    · have := h1.1 a ha; rw [e2] at e; omega
    · exact ih h1.2 ha hb
/-- neighbours in a falling stack -/
theorem hl_mem {S L : List Pt} (hL : Dn L) (h : Hl S L) {p : Pt} (hp : p ∈ L) : p ∈ S ↔ extB L p = true := by
  rw [ext_iff]
  have hdS : Dn S := List.Pairwise.sublist h.sub hL
  constructor
  · intro hpS q hq t ht hqp hpt
    obtain ⟨X, Y, rfl⟩ := List.append_of_mem hpS
    -- the right neighbour is the last of X, the left one the first of Y
    have hY : ∃ a Y', Y = a :: Y' := by
      cases Y with
      | cons a Y' => exact ⟨a, Y', rfl⟩
      | nil =>
        have hl := h.la
        simp at hl
        obtain ⟨ys, hy⟩ := List.getLast?_eq_some_iff.mp hl.symm
        subst hy
        have e := List.pairwise_append.mp hL
        rcases List.mem_append.mp hq with hq | hq
        · have := e.2.2 q hq p (by simp); omega
        · rw [List.mem_singleton.mp hq] at hqp; omega
    have hX : ∃ b X', X = X' ++ [b] := by
      rcases List.eq_nil_or_concat X with rfl | ⟨X', b, rfl⟩
      · have hl := h.hd
        simp at hl
        cases L with
        | nil => cases ht
        | cons c L =>
          simp at hl
          subst hl
          have e := List.pairwise_cons.mp hL
          rcases List.mem_cons.mp ht with rfl | ht
          · omega
          · have := e.1 t ht; omega
      · exact ⟨b, X', by simp⟩
    obtain ⟨a, Y', rfl⟩ := hY
    obtain ⟨b, X', rfl⟩ := hX
    have hsp : ∀ {X' : List Pt}, Conv (X' ++ [b] ++ p :: a :: Y') → Abv L (X' ++ [b] ++ p :: a :: Y') → 0 < cr a p b ∧ (∀ t ∈ L, 0 ≤ cr p b t) ∧ ∀ t ∈ L, 0 ≤ cr a p t := by
      intro X'
      induction X' with
      | nil => intro c d; exact ⟨c.1, d.1, d.2.1⟩
      | cons x X' ih =>
        intro c d
        refine ih ?_ ?_
        · cases X' with
          | nil => exact c.2
          | cons y X' => cases X' <;> exact c.2
        · cases X' with
          | nil => exact d.2
          | cons y X' => exact d.2
    obtain ⟨s1, s2, s3⟩ := hsp h.cv h.ab
    have hd1 := List.pairwise_append.mp hdS
    have hpb : p.1 < b.1 := hd1.2.2 b (by simp) p (by simp)
    have hap : a.1 < p.1 := (List.pairwise_cons.mp hd1.2.1).1 a (by simp)
    exact crE hap hpb hqp hpt (s3 q hq) s1 (s2 t ht)
  · intro hx
    refine Classical.byContradiction fun hn => ?_
    have key : ∀ {T : List Pt}, (∀ t ∈ T, t ∈ S) → Abv L T → (∀ b, T.head? = some b → p.1 < b.1) → (∀ a, T.getLast? = some a → a.1 ≤ p.1) → T = [] := by
      intro T
      induction T with
      | nil => intros; rfl
      | cons b T ih =>
        intro hm ha h1 h2
        have hb := h1 b rfl
        cases T with
        | nil =>
          have := h2 b rfl
          omega
        | cons a T =>
          rcases Int.lt_trichotomy a.1 p.1 with hlt | heq | hgt
          · have z := hx a (h.sub.subset (hm a (by simp))) b (h.sub.subset (hm b (by simp))) hlt hb
            have y := ha.1 p hp
            unfold cr at z y
            grind
          · have := dn_inj hL (h.sub.subset (hm a (by simp))) hp heq
            subst this
            exact absurd (hm a (by simp)) hn
          · have := ih (fun t ht => hm t (List.mem_cons_of_mem _ ht)) ha.2 (fun b hb => by cases hb; exact hgt) (fun c hc => h2 c (by simpa using hc))
            cases this
    have hS : S = [] := key (fun t ht => ht) h.ab (fun b hb => by
        have hbL := hb
        rw [h.hd] at hbL
        cases L with
        | nil => cases hp
        | cons c L =>
          cases hbL
          rcases List.mem_cons.mp hp with rfl | hp'
          · exact absurd (List.mem_of_head? hb) hn
          · exact (List.pairwise_cons.mp hL).1 p hp') (fun a ha => by
        rw [h.la] at ha
        obtain ⟨ys, hy⟩ := List.getLast?_eq_some_iff.mp ha
        subst hy
        have e := List.pairwise_append.mp hL
        rcases List.mem_append.mp hp with hp | hp
        · exact Int.le_of_lt (e.2.2 p hp a (by simp))
        · rw [List.mem_singleton.mp hp]
          exact Int.le_refl _)
    subst hS
    exact h.ne (fun z => by subst z; cases hp) rfl
theorem up_ext : ∀ {A B : List Pt}, Up A → Up B → (∀ y, y ∈ A ↔ y ∈ B) → A = B
  | [], B, _, _, h => by
    cases B with
    | nil => rfl
    | cons b B => exact absurd ((h b).mpr (by simp)) (by simp)
  | a :: A, [], _, _, h => absurd ((h a).mp (by simp)) (by simp)
  | a :: A, b :: B, ha, hb, h => by
    have ha1 := List.pairwise_cons.mp ha
    have hb1 := List.pairwise_cons.mp hb
    have e : a = b := by
      rcases List.mem_cons.mp ((h a).mp (by simp)) with e | e
      · exact e
      · rcases List.mem_cons.mp ((h b).mpr (by simp)) with e2 | e2
        · exact e2.symm
        · have := ha1.1 b e2
          have := hb1.1 a e
          omega
    subst e
    rw [up_ext ha1.2 hb1.2 fun y => ?_]
    constructor
    · intro hy
      rcases List.mem_cons.mp ((h y).mp (List.mem_cons_of_mem _ hy)) with e | e
      · have := ha1.1 y hy
        rw [e] at this
        omega
      · exact e
    · intro hy
      rcases List.mem_cons.mp ((h y).mpr (List.mem_cons_of_mem _ hy)) with e | e
      · have := hb1.1 y hy
        rw [e] at this
        omega
      · exact e
/-- the hull: what is below all lines -/
theorem hull_eq {L : List Pt} (h : Up L) : hull L = L.filter (extB L) := by
  have H := stack_ok h
  have hd : Dn L.reverse := List.pairwise_reverse.mpr h
  refine up_ext ?_ (h.filter _) fun y => ?_
  · exact List.pairwise_reverse.mpr (List.Pairwise.sublist H.sub hd)
  · unfold hull
    rw [List.mem_reverse, List.mem_filter]
    have e : extB L.reverse y = extB L y := by
      rw [Bool.eq_iff_iff, ext_iff, ext_iff]
      simp
    constructor
    · intro hy
      have hyL := H.sub.subset hy
      exact ⟨List.mem_reverse.mp hyL, e ▸ (hl_mem hd H hyL).mp hy⟩
    · rintro ⟨h1, h2⟩
      exact (hl_mem hd H (List.mem_reverse.mpr h1)).mpr (e ▸ h2)
/-- pieces of the rising hull -/
inductive Nxt (a b : Pt) : List Pt → Prop
  | here {l : List Pt} : Nxt a b (a :: b :: l)
  | there {c : Pt} {l : List Pt} : Nxt a b l → Nxt a b (c :: l)
theorem nxt_iff {a b : Pt} {l : List Pt} : Nxt a b l ↔ ∃ X Y, l = X ++ a :: b :: Y := by
  constructor
  · intro h
    induction h with
    | @here l => exact ⟨[], l, rfl⟩
    | @there c l _ ih =>
      obtain ⟨X, Y, rfl⟩ := ih
      exact ⟨c :: X, Y, rfl⟩
  · rintro ⟨X, Y, rfl⟩
    induction X with
    | nil => exact .here
    | cons c X ih => exact .there ih
/-- what the hull's pieces keep -/
theorem hull_piece {L : List Pt} (h : Up L) {a b : Pt} (hn : Nxt a b (hull L)) : a.1 < b.1 ∧ a ∈ L ∧ b ∈ L ∧ ∀ p ∈ L, 0 ≤ cr a b p := by
  have H := stack_ok h
  have hd : Dn L.reverse := List.pairwise_reverse.mpr h
  have hdS := List.Pairwise.sublist H.sub hd
  obtain ⟨X, Y, e⟩ := nxt_iff.mp hn
  unfold hull at e
  have e2 : L.foldl push [] = Y.reverse ++ b :: a :: X.reverse := by
    rw [← List.reverse_reverse (L.foldl push []), e]
    simp
  rw [e2] at H hdS
  have hab := H.ab
  have z : ∀ {Z : List Pt}, Abv L.reverse (Z ++ b :: a :: X.reverse) → ∀ p ∈ L.reverse, 0 ≤ cr a b p := by
    intro Z
    induction Z with
    | nil => intro d; exact d.1
    | cons x Z ih =>
      intro d
      refine ih ?_
      cases Z with
      | nil => exact d.2
      | cons y Z => exact d.2
  have s := List.pairwise_append.mp hdS
  exact ⟨(List.pairwise_cons.mp s.2.1).1 a (by simp), List.mem_reverse.mp (H.sub.subset (by simp)), List.mem_reverse.mp (H.sub.subset (by simp)), fun p hp => z hab p (List.mem_reverse.mpr hp)⟩
/-- a bend -/
theorem hull_bend {L : List Pt} (h : Up L) {a b c : Pt} {X Y : List Pt} (e : hull L = X ++ a :: b :: c :: Y) : 0 < cr a b c := by
  have hL := hull_eq h
  have hm : b ∈ L.filter (extB L) := by rw [← hL, e]; simp
  have hup : Up (X ++ a :: b :: c :: Y) := by rw [← e, hL]; exact h.filter _
  have s := (List.pairwise_append.mp hup).2.1
  have s1 := List.pairwise_cons.mp s
  have s2 := List.pairwise_cons.mp s1.2
  have ha : a ∈ L := (List.mem_filter.mp (by rw [← hL, e]; simp : a ∈ L.filter (extB L))).1
  have hc : c ∈ L := (List.mem_filter.mp (by rw [← hL, e]; simp : c ∈ L.filter (extB L))).1
  exact ext_iff.mp (List.mem_filter.mp hm).2 a ha c hc (s1.1 b (by simp)) (s2.1 c (by simp))
theorem hull_ne {L : List Pt} (h : Up L) (hn : L ≠ []) : hull L ≠ [] := fun z => by
  have H := stack_ok h
  exact H.ne (by simpa using hn) (by simpa [hull] using z)
theorem hull_head {L : List Pt} (h : Up L) : (hull L).head? = L.head? := by
  have H := (stack_ok h).la
  unfold hull
  rw [List.head?_reverse, H, List.getLast?_reverse]
theorem hull_last {L : List Pt} (h : Up L) : (hull L).getLast? = L.getLast? := by
  have H := (stack_ok h).hd
  unfold hull
  rw [List.getLast?_reverse, H, List.head?_reverse]
theorem hull_sub {L : List Pt} (h : Up L) : ∀ p ∈ hull L, p ∈ L := fun p hp => by
  rw [hull_eq h] at hp
  exact (List.mem_filter.mp hp).1
theorem hull_up {L : List Pt} (h : Up L) : Up (hull L) := by
  rw [hull_eq h]
  exact h.filter _
end DL

set_option Elab.async false
set_option linter.all false
set_option maxRecDepth 100000
set_option maxHeartbeats 4000000
set_option autoImplicit false
/-! M2: thinned, plain. -/
namespace DL
abbrev Pt2 := Int × Int
/-- covers within the share -/
def nr (n d : Int) (p q : Pt2) : Bool := decide (p.1 * d ≤ q.1 * (n + d)) && decide (p.2 * d ≤ q.2 * (n + d))
theorem nr_iff {n d : Int} {p q : Pt2} : nr n d p q = true ↔ p.1 * d ≤ q.1 * (n + d) ∧ p.2 * d ≤ q.2 * (n + d) := by
  simp [nr]
/-- a stair of two prices -/
structure St (L : List Pt2) : Prop where
  up : L.Pairwise fun a b => a.1 < b.1 ∧ b.2 < a.2
  nn : ∀ p ∈ L, 0 ≤ p.1 ∧ 0 ≤ p.2
structure Thin (n d : Int) (L C A : List Pt2) : Prop where
  len : C.length = A.length
  cs : C.Sublist L
  as : A.Sublist L
  cv : ∀ p ∈ L, ∃ c ∈ C, nr n d c p = true
  ap : ∀ p ∈ L, (A.filter (nr n d p)).length ≤ 1
/-- the k-th -/
def gp (L : List Pt2) (k : Nat) : Pt2 := L.getD k (0, 0)
theorem gp_mem {L : List Pt2} {k : Nat} (h : k < L.length) : gp L k ∈ L := by
  unfold gp
  rw [List.getD_eq_getElem?_getD, List.getElem?_eq_getElem h]
  exact List.getElem_mem h
theorem st_le {L : List Pt2} (h : St L) {i j : Nat} (hij : i ≤ j) (hj : j < L.length) : (gp L i).1 ≤ (gp L j).1 ∧ (gp L j).2 ≤ (gp L i).2 := by
  rcases Nat.lt_or_eq_of_le hij with hlt | rfl
  · have := List.pairwise_iff_getElem.mp h.up i j (by omega) hj hlt
    unfold gp
    rw [List.getD_eq_getElem?_getD, List.getD_eq_getElem?_getD, List.getElem?_eq_getElem hj, List.getElem?_eq_getElem (show i < L.length by omega)]
    exact ⟨Int.le_of_lt this.1, Int.le_of_lt this.2⟩
  · exact ⟨Int.le_refl _, Int.le_refl _⟩
/-- what the walk keeps: numbers of rows -/
structure Gr (n d : Int) (L : List Pt2) (at' : Nat) (ci ai : List Nat) : Prop where
  len : ci.length = ai.length
  le : at' ≤ L.length
  cl : ∀ i ∈ ci, i < at'
  al : ∀ i ∈ ai, i < at'
  cu : ci.Pairwise (· < ·)
  au : ai.Pairwise (· < ·)
  cv : ∀ j < at', ∃ i ∈ ci, nr n d (gp L i) (gp L j) = true
  ap : ∀ k < L.length, (ai.filter fun i => nr n d (gp L k) (gp L i)).length ≤ 1
  af : ∀ i ∈ ai, ∀ k < L.length, nr n d (gp L k) (gp L i) = true → ∀ j, at' ≤ j → j < L.length → nr n d (gp L k) (gp L j) = false
theorem gr_nil {n d : Int} {L : List Pt2} : Gr n d L 0 [] [] :=
  ⟨rfl, Nat.zero_le _, by simp, by simp, .nil, .nil, by omega, by simp, by simp⟩
theorem nr_self {n d : Int} (hn : 0 ≤ n) {p : Pt2} (hp : 0 ≤ p.1 ∧ 0 ≤ p.2) : nr n d p p = true := by
  rw [nr_iff]
  have a := Int.mul_nonneg hp.1 hn
  have b := Int.mul_nonneg hp.2 hn
  constructor <;> grind
/-- one turn -/
theorem gr_step {n d : Int} (hn : 0 ≤ n) (hd : 0 ≤ d) {L : List Pt2} (S : St L) {i0 la at' : Nat} {ci ai : List Nat} (G : Gr n d L i0 ci ai) (hi : i0 < L.length)
    (hla : la < L.length) (hnla : nr n d (gp L la) (gp L i0) = true) (hmax : ∀ k < L.length, nr n d (gp L k) (gp L i0) = true → k ≤ la)
    (h1 : la < at') (h2 : at' ≤ L.length) (h3 : ∀ j, la < j → j < at' → nr n d (gp L la) (gp L j) = true) (h4 : at' < L.length → nr n d (gp L la) (gp L at') = false) :
    Gr n d L at' (ci ++ [la]) (ai ++ [i0]) := by
  have hila : i0 ≤ la := hmax i0 hi (nr_self hn (S.nn _ (gp_mem hi)))
  refine ⟨by simp [G.len], h2, ?_, ?_, ?_, ?_, ?_, ?_, ?_⟩
  · intro i hi'
    rcases List.mem_append.mp hi' with h | h
    · have := G.cl i h; omega
    · rw [List.mem_singleton.mp h]; exact h1
  · intro i hi'
    rcases List.mem_append.mp hi' with h | h
    · have := G.al i h; omega
    · rw [List.mem_singleton.mp h]; omega
  · refine List.pairwise_append.mpr ⟨G.cu, by simp, fun a ha b hb => ?_⟩
    rw [List.mem_singleton.mp hb]
    have := G.cl a ha
    omega
  · refine List.pairwise_append.mpr ⟨G.au, by simp, fun a ha b hb => ?_⟩
    rw [List.mem_singleton.mp hb]
    exact G.al a ha
  · intro j hj
    rcases Nat.lt_or_ge j i0 with hlt | hge
    · obtain ⟨i, h, h'⟩ := G.cv j hlt
      exact ⟨i, List.mem_append_left _ h, h'⟩
    · refine ⟨la, by simp, ?_⟩
      rcases Nat.lt_or_ge la j with hlt | hge2
      · exact h3 j hlt hj
      · have o1 := st_le S hge (show j < L.length by omega)
        have o2 := st_le S hge2 hla
        have p1 := S.nn _ (gp_mem (L := L) (k := j) (by omega))
        rw [nr_iff] at hnla ⊢
        have a := Int.mul_nonneg (show 0 ≤ (gp L j).1 - (gp L i0).1 by omega) (show 0 ≤ n + d by omega)
        have b := Int.mul_nonneg (show 0 ≤ (gp L j).2 - (gp L la).2 by omega) hd
        have c := Int.mul_nonneg p1.2 hn
        constructor <;> grind
  · intro k hk
    rw [List.filter_append, List.length_append]
    have := G.ap k hk
    cases e : nr n d (gp L k) (gp L i0)
    · simp [e, this]
    · have : ai.filter (fun i => nr n d (gp L k) (gp L i)) = [] := by
        rw [List.filter_eq_nil_iff]
        intro i h1 h2
        rw [G.af i h1 k hk h2 i0 (Nat.le_refl _) hi] at e
        cases e
      simp [e, this]
  · intro i hi' k hk hki j hj1 hj2
    rcases List.mem_append.mp hi' with h | h
    · exact G.af i h k hk hki j (by omega) hj2
    · rw [List.mem_singleton.mp h] at hki
      have hkl := hmax k hk hki
      have f := h4 (by omega)
      cases e : nr n d (gp L k) (gp L j)
      · rfl
      · exfalso
        rw [← Bool.not_eq_true, nr_iff] at f
        rw [nr_iff] at e
        have o1 := st_le S hkl hla
        have o2 := st_le S hj1 hj2
        have o3 := st_le S (show la ≤ at' by omega) (show at' < L.length by omega)
        have p1 := S.nn _ (gp_mem (L := L) (k := at') (by omega))
        have a := Int.mul_nonneg (show 0 ≤ (gp L at').1 - (gp L la).1 by omega) hd
        have b := Int.mul_nonneg p1.1 hn
        have c := Int.mul_nonneg (show 0 ≤ (gp L k).2 - (gp L la).2 by omega) hd
        have d' := Int.mul_nonneg (show 0 ≤ (gp L at').2 - (gp L j).2 by omega) (show 0 ≤ n + d by omega)
        apply f
        constructor <;> grind
theorem gp_sub {L : List Pt2} {is : List Nat} (h : is.Pairwise (· < ·)) (h2 : ∀ i ∈ is, i < L.length) : (is.map (gp L)).Sublist L := by
  have key : ∀ (L : List Pt2) (o : Nat) (is : List Nat), is.Pairwise (· < ·) → (∀ i ∈ is, o ≤ i) → (∀ i ∈ is, i - o < L.length) → (is.map fun i => gp L (i - o)).Sublist L := by
    intro L
    induction L with
    | nil =>
      intro o is h h1 h2
      cases is with
      | nil => exact List.Sublist.refl _
      | cons i is => exact absurd (h2 i (by simp)) (by simp)
    | cons a L ih =>
      intro o is h h1 h2
      cases is with
      | nil => exact List.nil_sublist _
      | cons i is =>
        have hp := List.pairwise_cons.mp h
        by_cases hi : i = o
        · subst hi
          rw [List.map_cons]
          have e0 : gp (a :: L) (i - i) = a := by simp [gp]
          rw [e0]
          refine List.Sublist.cons₂ a ?_
          have := ih (i + 1) is hp.2 (fun j hj => hp.1 j hj) (fun j hj => by
            have := h2 j (List.mem_cons_of_mem _ hj)
            have := hp.1 j hj
            simp at *
            omega)
          have e : is.map (fun j => gp (a :: L) (j - i)) = is.map fun j => gp L (j - (i + 1)) := by
            refine List.map_congr_left fun j hj => ?_
            have := hp.1 j hj
            rw [show j - i = (j - (i + 1)) + 1 by omega]
            simp [gp]
          rw [e]
          exact this
        · refine List.Sublist.cons a ?_
          have hall : ∀ j ∈ i :: is, o < j := by
            intro j hj
            have h1i := h1 i (by simp)
            rcases List.mem_cons.mp hj with rfl | hj
            · omega
            · have := hp.1 j hj; omega
          have := ih (o + 1) (i :: is) h (fun j hj => hall j hj) (fun j hj => by
            have := h2 j hj
            have := hall j hj
            simp at *
            omega)
          have e : (i :: is).map (fun j => gp (a :: L) (j - o)) = (i :: is).map fun j => gp L (j - (o + 1)) := by
            refine List.map_congr_left fun j hj => ?_
            have := hall j hj
            rw [show j - o = (j - (o + 1)) + 1 by omega]
            simp [gp]
          rw [e]
          exact this
  simpa using key L 0 is h (fun _ _ => Nat.zero_le _) (fun i hi => by simpa using h2 i hi)
theorem gr_thin {n d : Int} {L : List Pt2} {ci ai : List Nat} (G : Gr n d L L.length ci ai) : Thin n d L (ci.map (gp L)) (ai.map (gp L)) := by
  refine ⟨by simp [G.len], gp_sub G.cu G.cl, gp_sub G.au G.al, fun p hp => ?_, fun p hp => ?_⟩
  · obtain ⟨j, hj, rfl⟩ := List.mem_iff_getElem.mp hp
    obtain ⟨i, h1, h2⟩ := G.cv j hj
    refine ⟨gp L i, List.mem_map_of_mem h1, ?_⟩
    have : gp L j = L[j] := by simp [gp, List.getElem?_eq_getElem hj]
    rwa [this] at h2
  · obtain ⟨k, hk, rfl⟩ := List.mem_iff_getElem.mp hp
    have : gp L k = L[k] := by simp [gp, List.getElem?_eq_getElem hk]
    rw [← this, List.filter_map, List.length_map]
    exact G.ap k hk
/-! no cover is shorter than rows apart -/
theorem dual_aux {n d : Int} : ∀ {C A : List Pt2}, (∀ a ∈ A, ∃ c ∈ C, nr n d c a = true) → (∀ c ∈ C, (A.filter (nr n d c)).length ≤ 1) → A.length ≤ C.length
  | [], A, h, _ => by
    cases A with
    | nil => simp
    | cons a A => obtain ⟨c, hc, _⟩ := h a (by simp); cases hc
  | c :: C, A, h, h2 => by
    have e := h2 c (by simp)
    have s : (A.filter fun a => !nr n d c a).length + (A.filter (nr n d c)).length = A.length := by
      clear h h2 e
      induction A with
      | nil => rfl
      | cons a A ih => cases e : nr n d c a <;> simp [e] <;> omega
    have ih := dual_aux (n := n) (d := d) (C := C) (A := A.filter fun a => !nr n d c a) (fun a ha => by
        obtain ⟨h3, h4⟩ := List.mem_filter.mp ha
        obtain ⟨c', h5, h6⟩ := h a h3
        rcases List.mem_cons.mp h5 with rfl | h5
        · rw [h6] at h4; cases h4
        · exact ⟨c', h5, h6⟩) (fun c' hc' => by
        have := h2 c' (List.mem_cons_of_mem _ hc')
        rw [List.filter_filter]
        refine Nat.le_trans ?_ this
        have : (A.filter fun a => nr n d c' a && !nr n d c a).Sublist (A.filter (nr n d c')) := by
          have z := (List.filter_sublist (p := fun a => !nr n d c a) (l := A.filter (nr n d c')))
          rw [List.filter_filter] at z
          refine List.Sublist.trans ?_ z
          have : (fun a => nr n d c' a && !nr n d c a) = fun a => !nr n d c a && nr n d c' a := by funext a; exact Bool.and_comm _ _
          rw [this]
          exact List.Sublist.refl _
        exact this.length_le)
    simp only [List.length_cons]
    omega
theorem Thin.least {n d : Int} {L C A C' : List Pt2} (T : Thin n d L C A) (hs : ∀ c ∈ C', c ∈ L) (hc : ∀ p ∈ L, ∃ c ∈ C', nr n d c p = true) : C.length ≤ C'.length := by
  rw [T.len]
  exact dual_aux (fun a ha => hc a (T.as.subset ha)) fun c hc' => T.ap c (hs c hc')
end DL

set_option Elab.async false
set_option linter.all false
set_option maxRecDepth 100000
set_option maxHeartbeats 4000000
set_option autoImplicit false
/-! P2h: corners. -/
namespace DL
open PySem
abbrev rw2 (p : Pt) : List Int := [p.1, p.2]
abbrev pD (p : Pt) : D := .tup [.int p.1, .int p.2]
theorem pD_row (p : Pt) : rowD (rw2 p) = pD p := rfl
/-- bounds of a point -/
def Bp (p : Pt) : Prop := (0 ≤ p.1 ∧ p.1 ≤ 1000000000000000000000000000000000000000000000) ∧ (0 ≤ p.2 ∧ p.2 ≤ 1000000000000000000000000000000000000000000000)
@[simp] theorem get2_0 {a b : D} : getI [a, b] 0 = .ok a := getI_ok (by decide) rfl
@[simp] theorem get2_1 {a b : D} : getI [a, b] 1 = .ok b := getI_ok (by decide) rfl
theorem is_below_ok {a b c : Pt} (ha : Bp a) (hb : Bp b) (hc : Bp c) : F_is_below [pD a, pD b, pD c] = .ok (.bl (decide (0 < cr a b c))) := by
  refine run_ok ?_
  unfold g_is_below
  unfold Bp at ha hb hc
  simp
  rw [oMul_ok (i := a.2 - b.2) ⟨by omega, by omega⟩ ⟨by omega, by omega⟩, oMul_ok (i := b.2 - c.2) ⟨by omega, by omega⟩ ⟨by omega, by omega⟩]
  simp
  unfold cr
  constructor <;> intro h <;> grind
/-- in lowest terms -/
def lowA (n d : Int) : Pt := (n / (Int.gcd n d : Int), d / (Int.gcd n d : Int))
theorem lowest_ok {n d : Int} (hn : 0 ≤ n) (hd : 0 < d) (hn1 : n < 2 ^ 250) (hd1 : d < 2 ^ 250) : F_lowest [.int n, .int d] = .ok (pD (lowA n d)) := by
  refine run_ok ?_
  unfold g_lowest
  simp only [oSeq_wp]
  simp
  refine gcd_wp hn (by omega) (by omega) hn1 hd1 ?_
  have h0 : 0 < Int.gcd n d := Int.gcd_pos_of_ne_zero_right _ (by omega)
  have h1 : (Int.gcd n d : Int) ≤ d := Int.le_of_dvd hd (Int.gcd_dvd_right ..)
  have hs : Sm (Int.gcd n d : Int) := ⟨by omega, by omega⟩
  simp [oDiv_ok (i := n) (show (0 : Int) < (Int.gcd n d : Int) by omega) hs, oDiv_ok (i := d) (show (0 : Int) < (Int.gcd n d : Int) by omega) hs, lowA]
/-- what lowest terms keep -/
theorem lowA_ok {n d : Int} (hn : 0 ≤ n) (hd : 0 < d) : ∃ g : Int, 0 < g ∧ n = (lowA n d).1 * g ∧ d = (lowA n d).2 * g ∧ 0 ≤ (lowA n d).1 ∧ 0 < (lowA n d).2 ∧ Int.gcd (lowA n d).1 (lowA n d).2 = 1 := by
  have h0 : 0 < Int.gcd n d := Int.gcd_pos_of_ne_zero_right _ (by omega)
  have e1 := Int.ediv_mul_cancel (Int.gcd_dvd_left n d)
  have e2 := Int.ediv_mul_cancel (Int.gcd_dvd_right n d)
  have e3 := Int.gcd_ediv_gcd_ediv_gcd h0
  refine ⟨Int.gcd n d, by omega, e1.symm, e2.symm, Int.ediv_nonneg hn (by omega), ?_, e3⟩
  exact Int.ediv_pos_of_pos_of_dvd hd (by omega) (Int.gcd_dvd_right n d)
/-! the ends -/
def lowE (a b : Pt) : Pt := lowA (a.2 - b.2) (a.2 - b.2 + b.1 - a.1)
def en (K : List Pt) (k : Nat) : Pt := if k = 0 then (1, 1) else if k < K.length then lowE (gp K (k - 1)) (gp K k) else (0, 1)
abbrev cD (c : Pt × Pt × Pt) : D := .tup [pD c.1, pD c.2.1, pD c.2.2]
def cornersK (K : List Pt) : List (Pt × Pt × Pt) := (List.range K.length).map fun k => (gp K k, en K (k + 1), en K k)
def cornersA (L : List Pt) : List (Pt × Pt × Pt) := if L = [] then [] else cornersK (hull L)
theorem dropLast_rev {α : Type} (a : α) (l : List α) : (a :: l).reverse.dropLast = l.reverse := by simp
theorem getI_rev {S : List Pt} {a b : Pt} : getI ((a :: b :: S).reverse.map pD) ((((a :: b :: S).reverse.map pD).length : Int) - 1) = .ok (pD a) ∧ getI ((a :: b :: S).reverse.map pD) ((((a :: b :: S).reverse.map pD).length : Int) - 2) = .ok (pD b) := by
  have e : (a :: b :: S).reverse.map pD = S.reverse.map pD ++ [pD b, pD a] := by simp
  rw [e]
  constructor
  · refine getI_ok (by simp <;> omega) ?_
    rw [List.getElem?_append_right (by simp <;> omega)]
    simp only [List.length_append, List.length_map, List.length_reverse, List.length_cons, List.length_nil]
    rw [show ((((S.length + (0 + 1 + 1) : Nat)) : Int) - 1).toNat - S.length = 1 by omega]
    rfl
  · refine getI_ok (by simp <;> omega) ?_
    rw [List.getElem?_append_right (by simp <;> omega)]
    simp only [List.length_append, List.length_map, List.length_reverse, List.length_cons, List.length_nil]
    rw [show ((((S.length + (0 + 1 + 1) : Nat)) : Int) - 2).toNat - S.length = 0 by omega]
    rfl
theorem gp_get {K : List Pt} {k : Int} {j : Nat} (h : k = j) (hj : j < K.length) : getI (K.map pD) k = .ok (pD (gp K j)) := by
  subst h
  rw [getI_map (enc := pD) (by omega) (by simpa using hj)]
  simp [gp, List.getElem?_eq_getElem hj]
theorem popTo_len (r : Pt) : ∀ S : List Pt, (popTo r S).length ≤ S.length
  | [] => by simp [popTo]
  | [a] => by simp [popTo]
  | b :: a :: l => by
    unfold popTo
    split
    · exact Nat.le_refl _
    · have := popTo_len r (a :: l)
      simp at *
      omega
theorem popTo_mem {r p : Pt} : ∀ {S : List Pt}, p ∈ popTo r S → p ∈ S
  | [], h => h
  | [a], h => h
  | b :: a :: l, h => by
    unfold popTo at h
    split at h
    · exact h
    · exact List.mem_cons_of_mem _ (popTo_mem h)
theorem cl_pts {ps : List Pt} : Cl 2 (.lst (ps.map pD)) := by
  have := cl_rows (rs := ps.map rw2)
  rw [List.map_map] at this
  exact this
theorem corners_ok {L : List Pt} (h : St L) (hb : ∀ p ∈ L, Bp p) (hl : L.length ≤ 1000) : F_corners [.lst (L.map pD)] = .ok (.lst ((cornersA L).map cD)) := by
  refine run_ok ?_
  unfold g_corners
  rw [oSeq_wp]
  simp only [oIf_eq, dB_eq, d2_eq, dV_z, R.bind_ok, dLst_eq, dNil_eq, List.map_cons, List.map_nil, List.cons_append]
  rw [oEq_nil cl_pts]
  by_cases hL : L = []
  · subst hL
    simp [cornersA]
  have hup : Up L := h.up.imp fun z => z.1
  have hLm : L.map pD ≠ [] := by simpa using hL
  have e0 : getI (L.map pD) 0 = .ok (pD (gp L 0)) := gp_get rfl (List.length_pos_iff.mpr hL)
  simp [hL, e0]
  refine wp_mid (I := fun ρ => ∃ x2 x4 x5, ρ = [some (.lst (L.map pD)), some (.lst ((hull L).map pD)), x2, none, x4, x5]) ?_ ?_
  · refine loop_foldI (J := fun n (S : List Pt) ρ => ∃ x2 x4 x5, S.length ≤ n ∧ (∀ p ∈ S, p ∈ L) ∧ ρ = [some (.lst (L.map pD)), some (.lst (S.reverse.map pD)), x2, none, x4, x5]) push L 0 [] _ ⟨_, _, _, by simp, by simp, rfl⟩ ?_ ?_
    · rintro i S r ρ hi hr ⟨x2, x4, x5, hS, hSm, rfl⟩
      simp
      refine wp_mid (I := fun ρ => ρ = [some (.lst (L.map pD)), some (.lst ((popTo r S).reverse.map pD)), some (pD r), none, x4, x5]) ?_ ?_
      · refine while_wp (J := fun k ρ => ∃ S', S'.length = k ∧ popTo r S' = popTo r S ∧ (∀ p ∈ S', p ∈ L) ∧ ρ = [some (.lst (L.map pD)), some (.lst (S'.reverse.map pD)), some (pD r), none, x4, x5]) S.length ⟨S, rfl, rfl, hSm, by simp⟩ (by omega) ?_
        rintro k ρ ⟨S', hk, hp, hm, rfl⟩
        match S', hk, hp, hm with
        | [], hk, hp, hm => simp [← hp, popTo]
        | [a], hk, hp, hm => simp [← hp, popTo]
        | b :: a :: l, hk, hp, hm =>
          obtain ⟨g1, g2⟩ := getI_rev (S := l) (a := b) (b := a)
          simp only [bAnd_eq, dB_eq, d2_eq, dCall_eq, dCons_eq, dNil_eq, dV_z, dV_s, R.bind_ok, oLen_l, dC_eq, ixK_eq, kL_eq, isL_l, bNot_eq, oSub_i, g1, g2]
          simp [is_below_ok (hb _ (hm a (by simp))) (hb _ (hm b (by simp))) (hb r hr)]
          have hl : ((l.length : Int) + 1 + 1 > 1) := by omega
          by_cases hc : 0 < cr a b r
          · have e : popTo r (b :: a :: l) = b :: a :: l := by unfold popTo; rw [if_pos hc]
            rw [← hp, e]
            simp [hc]
            intro _ hh
            omega
          · have e : popTo r (b :: a :: l) = popTo r (a :: l) := by rw [popTo]; rw [if_neg hc]
            have hc2 : cr a b r ≤ 0 := by omega
            simp [hc2, mPop, show (1 : Int) < (l.length : Int) + 1 + 1 by omega, show (1 : Int) < (l.length : Int) + 2 by omega]
            refine ⟨l.length + 1, by simp at hk; omega, a :: l, by simp, by rw [← e, hp], fun p1 p2 hp => hm _ (List.mem_cons_of_mem _ hp), by simp⟩
      · rintro ρ rfl
        have := popTo_len r S
        simp [show (popTo r S).length < 16777216 by omega]
        refine ⟨by simp [push]; omega, fun p1 p2 hp => ?_, by simp [push]⟩
        · unfold push at hp
          rcases List.mem_cons.mp hp with e | hp
          · rw [e]; exact hr
          · exact hSm _ (popTo_mem hp)
    · rintro ρ ⟨x2, x4, x5, _, _, rfl⟩
      exact ⟨x2, x4, x5, rfl⟩
  rintro ρ ⟨x2, x4, x5, rfl⟩
  have hK : ∀ p ∈ hull L, Bp p := fun p hp => hb p (hull_sub hup p hp)
  have hne := hull_ne hup hL
  have hKl : (hull L).length ≤ 1000 := by
    rw [hull_eq hup]
    exact Nat.le_trans (List.length_filter_le _ _) hl
  have hKf : ∀ i j, i < j → j < (hull L).length → (gp (hull L) i).1 < (gp (hull L) j).1 ∧ (gp (hull L) j).2 < (gp (hull L) i).2 := by
    intro i j hij hj
    have hp : (hull L).Pairwise fun a b => a.1 < b.1 ∧ b.2 < a.2 := by
      rw [hull_eq hup]
      exact h.up.filter _
    have := List.pairwise_iff_getElem.mp hp i j (by omega) hj hij
    simpa [gp, List.getElem?_eq_getElem hj, List.getElem?_eq_getElem (show i < (hull L).length by omega)] using this
  unfold cornersA
  rw [if_neg hL]
  generalize hull L = K at hK hne hKl hKf
  have hKp : 0 < K.length := List.length_pos_iff.mpr hne
  have e2 : itR2 [.int 1, .int (K.length : Int)] = .ok ((List.range (K.length - 1)).map fun i : Nat => D.int (1 + (i : Int))) := by
    show (if _ then _ else _) = _
    rw [if_pos (by omega)]
    unfold upTo
    congr 2
    congr 1
    omega
  simp [e2]
  refine loop_inv (J := fun i ρ => ∃ x4 x5, ρ = [some (.lst (L.map pD)), some (.lst (K.map pD)), x2, some (.lst (((List.range (i + 1)).map (en K)).map pD)), x4, x5]) _ 0 _ ⟨x4, x5, by simp [en]⟩ ?_ ?_
  · rintro i e ρ he ⟨x4, x5, rfl⟩
    obtain ⟨hi, rfl⟩ : i < K.length - 1 ∧ e = .int (1 + (i : Int)) := by
      rw [List.getElem?_map] at he
      obtain ⟨j, h1, h2⟩ := Option.map_eq_some_iff.mp he
      obtain ⟨h3, h4⟩ := List.getElem?_eq_some_iff.mp h1
      rw [List.getElem_range] at h4
      subst h4
      exact ⟨by simpa using h3, h2.symm⟩
    have g1 : getI (K.map pD) (1 + (i : Int)) = .ok (pD (gp K (i + 1))) := gp_get (by omega) (by omega)
    have g0 : getI (K.map pD) (1 + (i : Int) - 1) = .ok (pD (gp K i)) := gp_get (by omega) (by omega)
    have f := hKf i (i + 1) (by omega) (by omega)
    have b1 := hK _ (gp_mem (L := K) (k := i) (by omega))
    have b2 := hK _ (gp_mem (L := K) (k := i + 1) (by omega))
    unfold Bp at b1 b2
    simp [-List.map_map, g0, g1, lowest_ok (n := (gp K i).2 - (gp K (i + 1)).2) (d := (gp K i).2 - (gp K (i + 1)).2 + (gp K (i + 1)).1 - (gp K i).1) (by omega) (by omega) (by omega) (by omega), show i + 1 < 16777216 by omega]
    rw [List.range_succ (n := i + 1)]
    simp [en, show i + 1 < K.length by omega, lowE]
  · rintro ρ ⟨x4, x5, rfl⟩
    have e3 : ((List.range (0 + (List.map (fun i : Nat => D.int (1 + (i : Int))) (List.range (K.length - 1))).length + 1)).map (en K)).map pD = ((List.range K.length).map (en K)).map pD := by
      congr 3
      simp
      omega
    rw [e3]
    simp [-List.map_map, show K.length < 16777216 by omega]
    have e4 : ((List.range K.length).map (en K)).map pD ++ [D.tup [.int 0, .int 1]] = ((List.range (K.length + 1)).map (en K)).map pD := by
      rw [List.range_succ]
      simp [en, show K.length ≠ 0 by omega]
    rw [e4]
    have e5 : enumF 0 (K.map pD) = (List.range K.length).map fun k : Nat => D.tup [.int (k : Int), pD (gp K k)] := by
      apply List.ext_getElem?
      intro k
      by_cases hk : k < K.length
      · rw [enumF_get (d := pD (gp K k))]
        · simp [hk]
        · simp [gp, List.getElem?_eq_getElem hk]
      · rw [List.getElem?_eq_none (by rw [enumF_length]; simp; omega), List.getElem?_eq_none (by simp <;> omega)]
    simp [-List.map_map, itE, e5]
    rw [lcF_of (enc := fun k : Nat => D.tup [.int (k : Int), pD (gp K k)]) (enc' := cD) (fun _ => true) (fun k : Nat => (gp K k, en K (k + 1), en K k))]
    · rw [filter_yes]
      rfl
    · intro k hk
      have hk2 : k < K.length := List.mem_range.mp hk
      have g1 : ∀ (z : Int) (j : Nat), z = j → j < K.length + 1 → getI (((List.range (K.length + 1)).map (en K)).map pD) z = .ok (pD (en K j)) := by
        intro z j hz hj
        subst hz
        rw [getI_map (enc := pD) (by omega) (by simpa using hj)]
        simp
      simp [-List.map_map, g1 (k : Int) k rfl (by omega), g1 ((k : Int) + 1) (k + 1) (by omega) (by omega)]
end DL

set_option Elab.async false
set_option linter.all false
set_option maxRecDepth 100000
set_option maxHeartbeats 4000000
set_option autoImplicit false
/-! P2a: any stair. -/
namespace DL
open PySem
/-- entries in bounds -/
def Bd (rs : List (List Int)) : Prop := ∀ r ∈ rs, ∀ x ∈ r, 0 ≤ x ∧ x ≤ 1000000000000000000000000000000000000000000
theorem stairA_bd {rs : List (List Int)} (h : Bd rs) : Bd (stairA rs) := fun r hr => h r (stairA_mem hr)
theorem any_stair_ex (ns : List Int) (w : Nat) (hw : w = 2 ∨ w = 3) : ∃ rs : List (List Int), F_law_any_stair [.lst (ns.map .int), .int w] = .ok (.lst ((stairA rs).map rowD)) ∧ Wd w rs ∧ rs.length ≤ 40 ∧ Bd rs := by
  have z : ∃ d, F_law_any_stair [.lst (ns.map .int), .int w] = .ok d ∧ ∃ rs : List (List Int), d = .lst ((stairA rs).map rowD) ∧ Wd w rs ∧ rs.length ≤ 40 ∧ Bd rs := by
    refine run_ex ?_
    unfold g_law_any_stair
    obtain ⟨m1, b1, c1⟩ := mix_ok (c := cellA ns 0) (k := 1) (by decide) (by decide)
    obtain ⟨m2, b2, c2⟩ := mix_ok (c := cellA ns 0) (k := 2) (by decide) (by decide)
    obtain ⟨m3, b3, c3⟩ := mix_ok (c := cellA ns 0) (k := 3) (by decide) (by decide)
    obtain ⟨m4, b4, c4⟩ := mix_ok (c := cellA ns 0) (k := 4) (by decide) (by decide)
    obtain ⟨far, e1, h1⟩ := pick4 (a := 0) (b := 0) (c := 900000000000000000000000000000000000000000) (d := 100000000000000000000000000000000000000) (k := mixA (cellA ns 0) 1 % 4) (by omega) (by omega)
    obtain ⟨span, e2, h2⟩ := pick4 (a := 4) (b := 12) (c := 40) (d := 1000) (k := mixA (cellA ns 0) 2 % 4) (by omega) (by omega)
    have hfar : 0 ≤ far ∧ far ≤ 900000000000000000000000000000000000000000 := by omega
    have hspan : 4 ≤ span ∧ span ≤ 1000 := by omega
    clear h1 h2
    simp [F_cell_at (show (0 : Int) ≤ 0 by decide), m1, m2, m3, m4, e1, e2, itR1_ok (j := mixA (cellA ns 0) 3 % 41) (by omega) (by omega), upTo_map]
    refine loop_foldI (J := fun n (_ : Unit) ρ => ∃ (rs : List (List Int)) (x6 x7 x8 x9 : Option D), rs.length = n ∧ Wd w rs ∧ Bd rs ∧ ρ = [some (.lst (ns.map .int)), some (.int w), some (.int (cellA ns 0)), some (.int far), some (.int span), some (.lst (rs.map rowD)), x6, x7, x8, x9]) (fun s _ => s) _ 0 () _ ⟨[], _, _, _, _, rfl, by simp [Wd], by simp [Bd], rfl⟩ ?_ ?_
    · rintro k ⟨⟩ a ρ hk ha ⟨rs, x6, x7, x8, x9, hl, hwd, hbd, rfl⟩
      have ha2 : a < 41 := by have := List.mem_range.mp ha; omega
      simp [itR1_ok (j := (w : Int)) (by omega) (by omega), upTo_map]
      refine loop_foldI (J := fun n (_ : Unit) ρ => ∃ (r : List Int) (x8 x9 : Option D), r.length = n ∧ (∀ x ∈ r, 0 ≤ x ∧ x ≤ 1000000000000000000000000000000000000000000) ∧ ρ = [some (.lst (ns.map .int)), some (.int w), some (.int (cellA ns 0)), some (.int far), some (.int span), some (.lst (rs.map rowD)), some (.int a), some (.lst (r.map .int)), x8, x9]) (fun s _ => s) _ 0 () _ ⟨[], _, _, rfl, by simp, rfl⟩ ?_ ?_
      · rintro s ⟨⟩ b ρ hs hb ⟨r, x8, x9, hr, hrb, rfl⟩
        have hb2 : b < w := List.mem_range.mp hb
        obtain ⟨m, hm1, hm2⟩ := mix_ok (c := cellA ns (1 + (a : Int) % 30)) (k := 3 * (a : Int) % 60 + b) (by omega) (by omega)
        simp [oMul_ok (i := 3) (j := (a : Int)) ⟨by decide, by decide⟩ ⟨by omega, by omega⟩, F_cell_at (ns := ns) (k := 1 + (a : Int) % 30) (by omega), m]
        generalize mixA (cellA ns (1 + (a : Int) % 30)) (3 * (a : Int) % 60 + b) = z at hm1 hm2
        have hr2 : r.length < 16777216 := by simp at hs; omega
        have h9 : 0 ≤ z / 100000 % 2 ∧ z / 100000 % 2 < 2 := by omega
        simp [oDiv_ok (i := z) (j := 100000) (by decide) ⟨by decide, by decide⟩, oMul_ok (i := far) (j := z / 100000 % 2) ⟨by omega, by omega⟩ ⟨by omega, by omega⟩, show (0 : Int) < span by omega, hr2]
        refine ⟨r ++ [z % span + far * (z / 100000 % 2)], by simp; omega, ?_, by simp⟩
        intro x hx
        rcases List.mem_append.mp hx with hx | hx
        · exact hrb x hx
        · rw [List.mem_singleton.mp hx]
          have h10 : z / 100000 % 2 = 0 ∨ z / 100000 % 2 = 1 := by omega
          have h11 : 0 ≤ z % span := Int.emod_nonneg _ (by omega)
          have h12 : z % span < span := Int.emod_lt_of_pos _ (by omega)
          rcases h10 with h10 | h10 <;> rw [h10] <;> omega
      · rintro ρ ⟨r, x8, x9, hr, hrb, rfl⟩
        simp [m4]
        have hrw : r.length = w := by simpa using hr
        have hrs : rs.length < 16777216 := by simp at hk; omega
        have r0 := getI_row (r := r) (k := 0) (by decide) (by omega)
        have r1 := getI_row (r := r) (k := 1) (by decide) (by omega)
        have q1 : 0 ≤ at0 r 1 % 4 ∧ at0 r 1 % 4 < 4 := by omega
        by_cases hq : mixA (cellA ns 0) 4 % 2 = 1 ∧ (w : Int) = 2
        · have h1 : (1 : Int) < r.length := by omega
          simp [hq.1, hq.2, oDiv_ok (i := span) (j := 2) (by decide) ⟨by decide, by decide⟩, r0, r1, h1, oMul_ok (i := at0 r 1 % 4) (j := (a : Int) % 3) ⟨by omega, by omega⟩ ⟨by omega, by omega⟩, hrs]
          have p0 : 0 ≤ at0 r 0 := by
            unfold at0
            rw [List.getD_eq_getElem?_getD, List.getElem?_eq_getElem (by simp; omega)]
            exact (hrb _ (List.getElem_mem _)).1
          have p1 : 0 ≤ at0 r 1 % 4 * ((a : Int) % 3) := Int.mul_nonneg (by omega) (by omega)
          refine ⟨rs ++ [r.set 1 (if at0 r 1 % 4 * ((a : Int) % 3) < span + span / 2 - at0 r 0 then span + span / 2 - at0 r 0 - at0 r 1 % 4 * ((a : Int) % 3) else 0)], by simp; omega, ?_, ?_, by simp [rowD]⟩
          · intro y hy
            rcases List.mem_append.mp hy with hy | hy
            · exact hwd y hy
            · rw [List.mem_singleton.mp hy]; simp [hrw]
          · intro y hy
            rcases List.mem_append.mp hy with hy | hy
            · exact hbd y hy
            · rw [List.mem_singleton.mp hy]
              intro x hx
              rcases List.mem_or_eq_of_mem_set hx with hx | hx
              · exact hrb x hx
              · rw [hx]
                split <;> omega
        · rw [if_neg hq]
          simp [hrs]
          refine ⟨rs ++ [r], by simp; omega, ?_, ?_, by simp [rowD]⟩
          · intro y hy
            rcases List.mem_append.mp hy with hy | hy
            · exact hwd y hy
            · rw [List.mem_singleton.mp hy]; exact hrw
          · intro y hy
            rcases List.mem_append.mp hy with hy | hy
            · exact hbd y hy
            · rw [List.mem_singleton.mp hy]; exact hrb
    · rintro ρ ⟨rs, x6, x7, x8, x9, hl, hwd, hbd, rfl⟩
      have hn : rs.length ≤ 40 := by simp at hl; omega
      simp [stair_ok hwd (by omega) (by omega) (by omega)]
      exact ⟨rs, rfl, hwd, hn, hbd⟩
  obtain ⟨d, e, n, rfl, h⟩ := z
  exact ⟨n, e, h⟩
end DL

set_option Elab.async false
set_option linter.all false
set_option maxRecDepth 100000
set_option maxHeartbeats 4000000
set_option autoImplicit false
/-! P2b: any stair, as the laws of shares draw it. -/
namespace DL
open PySem
theorem any_stair2_ex (ns : List Int) (w : Nat) (hw : w = 2 ∨ w = 3) : ∃ rs : List (List Int), F_law_any_stair_v2 [.lst (ns.map .int), .int w] = .ok (.lst ((stairA rs).map rowD)) ∧ Wd w rs ∧ rs.length ≤ 40 ∧ Bd rs := by
  have z : ∃ d, F_law_any_stair_v2 [.lst (ns.map .int), .int w] = .ok d ∧ ∃ rs : List (List Int), d = .lst ((stairA rs).map rowD) ∧ Wd w rs ∧ rs.length ≤ 40 ∧ Bd rs := by
    refine run_ex ?_
    unfold g_law_any_stair_v2
    obtain ⟨m1, b1, c1⟩ := mix_ok (c := cellA ns 0) (k := 1) (by decide) (by decide)
    obtain ⟨m2, b2, c2⟩ := mix_ok (c := cellA ns 0) (k := 2) (by decide) (by decide)
    obtain ⟨m3, b3, c3⟩ := mix_ok (c := cellA ns 0) (k := 3) (by decide) (by decide)
    obtain ⟨m4, b4, c4⟩ := mix_ok (c := cellA ns 0) (k := 4) (by decide) (by decide)
    obtain ⟨far, e1, h1⟩ := pick4 (a := 0) (b := 0) (c := 0) (d := 100000000000000000000000000000000000000) (k := mixA (cellA ns 0) 1 % 4) (by omega) (by omega)
    obtain ⟨span, e2, h2⟩ := pick4 (a := 4) (b := 12) (c := 40) (d := 1000) (k := mixA (cellA ns 0) 2 % 4) (by omega) (by omega)
    have hfar : 0 ≤ far ∧ far ≤ 900000000000000000000000000000000000000000 := by omega
    have hspan : 4 ≤ span ∧ span ≤ 1000 := by omega
    clear h1 h2
    simp [F_cell_at (show (0 : Int) ≤ 0 by decide), m1, m2, m3, m4, e1, e2, itR1_ok (j := mixA (cellA ns 0) 3 % 41) (by omega) (by omega), upTo_map]
    refine loop_foldI (J := fun n (_ : Unit) ρ => ∃ (rs : List (List Int)) (x6 x7 x8 x9 : Option D), rs.length = n ∧ Wd w rs ∧ Bd rs ∧ ρ = [some (.lst (ns.map .int)), some (.int w), some (.int (cellA ns 0)), some (.int far), some (.int span), some (.lst (rs.map rowD)), x6, x7, x8, x9]) (fun s _ => s) _ 0 () _ ⟨[], _, _, _, _, rfl, by simp [Wd], by simp [Bd], rfl⟩ ?_ ?_
    · rintro k ⟨⟩ a ρ hk ha ⟨rs, x6, x7, x8, x9, hl, hwd, hbd, rfl⟩
      have ha2 : a < 41 := by have := List.mem_range.mp ha; omega
      simp [itR1_ok (j := (w : Int)) (by omega) (by omega), upTo_map]
      refine loop_foldI (J := fun n (_ : Unit) ρ => ∃ (r : List Int) (x8 x9 : Option D), r.length = n ∧ (∀ x ∈ r, 0 ≤ x ∧ x ≤ 1000000000000000000000000000000000000000000) ∧ ρ = [some (.lst (ns.map .int)), some (.int w), some (.int (cellA ns 0)), some (.int far), some (.int span), some (.lst (rs.map rowD)), some (.int a), some (.lst (r.map .int)), x8, x9]) (fun s _ => s) _ 0 () _ ⟨[], _, _, rfl, by simp, rfl⟩ ?_ ?_
      · rintro s ⟨⟩ b ρ hs hb ⟨r, x8, x9, hr, hrb, rfl⟩
        have hb2 : b < w := List.mem_range.mp hb
        obtain ⟨m, hm1, hm2⟩ := mix_ok (c := cellA ns (1 + (a : Int) % 30)) (k := 3 * (a : Int) % 60 + b) (by omega) (by omega)
        simp [oMul_ok (i := 3) (j := (a : Int)) ⟨by decide, by decide⟩ ⟨by omega, by omega⟩, F_cell_at (ns := ns) (k := 1 + (a : Int) % 30) (by omega), m]
        generalize mixA (cellA ns (1 + (a : Int) % 30)) (3 * (a : Int) % 60 + b) = z at hm1 hm2
        have hr2 : r.length < 16777216 := by simp at hs; omega
        have h9 : 0 ≤ z / 100000 % 2 ∧ z / 100000 % 2 < 2 := by omega
        simp [oDiv_ok (i := z) (j := 100000) (by decide) ⟨by decide, by decide⟩, oMul_ok (i := far) (j := z / 100000 % 2) ⟨by omega, by omega⟩ ⟨by omega, by omega⟩, show (0 : Int) < span by omega, hr2]
        refine ⟨r ++ [z % span + far * (z / 100000 % 2)], by simp; omega, ?_, by simp⟩
        intro x hx
        rcases List.mem_append.mp hx with hx | hx
        · exact hrb x hx
        · rw [List.mem_singleton.mp hx]
          have h10 : z / 100000 % 2 = 0 ∨ z / 100000 % 2 = 1 := by omega
          have h11 : 0 ≤ z % span := Int.emod_nonneg _ (by omega)
          have h12 : z % span < span := Int.emod_lt_of_pos _ (by omega)
          rcases h10 with h10 | h10 <;> rw [h10] <;> omega
      · rintro ρ ⟨r, x8, x9, hr, hrb, rfl⟩
        simp [m4]
        have hrw : r.length = w := by simpa using hr
        have hrs : rs.length < 16777216 := by simp at hk; omega
        have r0 := getI_row (r := r) (k := 0) (by decide) (by omega)
        have r1 := getI_row (r := r) (k := 1) (by decide) (by omega)
        have q1 : 0 ≤ at0 r 1 % 4 ∧ at0 r 1 % 4 < 4 := by omega
        by_cases hq : mixA (cellA ns 0) 4 % 2 = 1 ∧ (w : Int) = 2
        · have h1 : (1 : Int) < r.length := by omega
          simp [hq.1, hq.2, oDiv_ok (i := span) (j := 2) (by decide) ⟨by decide, by decide⟩, r0, r1, h1, oMul_ok (i := at0 r 1 % 4) (j := (a : Int) % 3) ⟨by omega, by omega⟩ ⟨by omega, by omega⟩, hrs]
          have p0 : 0 ≤ at0 r 0 := by
            unfold at0
            rw [List.getD_eq_getElem?_getD, List.getElem?_eq_getElem (by simp; omega)]
            exact (hrb _ (List.getElem_mem _)).1
          have p1 : 0 ≤ at0 r 1 % 4 * ((a : Int) % 3) := Int.mul_nonneg (by omega) (by omega)
          refine ⟨rs ++ [r.set 1 (if at0 r 1 % 4 * ((a : Int) % 3) < span + span / 2 - at0 r 0 then span + span / 2 - at0 r 0 - at0 r 1 % 4 * ((a : Int) % 3) else 0)], by simp; omega, ?_, ?_, by simp [rowD]⟩
          · intro y hy
            rcases List.mem_append.mp hy with hy | hy
            · exact hwd y hy
            · rw [List.mem_singleton.mp hy]; simp [hrw]
          · intro y hy
            rcases List.mem_append.mp hy with hy | hy
            · exact hbd y hy
            · rw [List.mem_singleton.mp hy]
              intro x hx
              rcases List.mem_or_eq_of_mem_set hx with hx | hx
              · exact hrb x hx
              · rw [hx]
                split <;> omega
        · rw [if_neg hq]
          simp [hrs]
          refine ⟨rs ++ [r], by simp; omega, ?_, ?_, by simp [rowD]⟩
          · intro y hy
            rcases List.mem_append.mp hy with hy | hy
            · exact hwd y hy
            · rw [List.mem_singleton.mp hy]; exact hrw
          · intro y hy
            rcases List.mem_append.mp hy with hy | hy
            · exact hbd y hy
            · rw [List.mem_singleton.mp hy]; exact hrb
    · rintro ρ ⟨rs, x6, x7, x8, x9, hl, hwd, hbd, rfl⟩
      have hn : rs.length ≤ 40 := by simp at hl; omega
      simp [stair_ok hwd (by omega) (by omega) (by omega)]
      exact ⟨rs, rfl, hwd, hn, hbd⟩
  obtain ⟨d, e, n, rfl, h⟩ := z
  exact ⟨n, e, h⟩
end DL

set_option Elab.async false
set_option linter.all false
set_option maxRecDepth 100000
set_option maxHeartbeats 4000000
set_option autoImplicit false
/-! P2i: a stair of two prices as points; what corners keep. -/
namespace DL
open PySem
theorem foldA_pw : ∀ {xs found : List (List Int)}, found.Pairwise (fun a b => a < b ∧ cov a b = false) → xs.Pairwise (· < ·) → (∀ a ∈ found, ∀ b ∈ xs, a < b) → (xs.foldl stepA found).Pairwise (fun a b => a < b ∧ cov a b = false)
  | [], _, h, _, _ => h
  | x :: xs, found, h, hx, hf => by
    have h1 := List.pairwise_cons.mp hx
    rw [List.foldl_cons]
    refine foldA_pw ?_ h1.2 fun a ha b hb => ?_
    · unfold stepA
      split
      · rename_i he
        rw [filter_isEmpty] at he
        simp at he
        refine List.pairwise_append.mpr ⟨h, by simp, fun a ha b hb => ?_⟩
        rw [List.mem_singleton.mp hb]
        exact ⟨hf a ha x (by simp), he a ha⟩
      · exact h
    · rcases stepA_mem ha with ha | ha
      · exact hf a ha b (List.mem_cons_of_mem _ hb)
      · rw [ha]
        exact h1.1 b hb
theorem stairA_pw (rs : List (List Int)) : (stairA rs).Pairwise fun a b => a < b ∧ cov a b = false :=
  foldA_pw .nil sortU_asc (by simp)
theorem wd2_pts : ∀ {rs : List (List Int)}, Wd 2 rs → ∃ L : List Pt, rs = L.map rw2
  | [], _ => ⟨[], rfl⟩
  | r :: rs, h => by
    obtain ⟨L, hL⟩ := wd2_pts (rs := rs) fun r hr => h r (List.mem_cons_of_mem _ hr)
    have hr := h r (by simp)
    match r, hr with
    | [x, y], _ => exact ⟨(x, y) :: L, by rw [hL]; rfl⟩
theorem cov2 {p q : Pt} : cov (rw2 p) (rw2 q) = true ↔ p.1 ≤ q.1 ∧ p.2 ≤ q.2 := by
  unfold cov
  simp [List.range_succ]
theorem stairA_pts {rs : List (List Int)} (h : Wd 2 rs) (hb : Bd rs) : ∃ L : List Pt, stairA rs = L.map rw2 ∧ St L ∧ (∀ p ∈ L, Bp p) ∧ L.length ≤ rs.length := by
  obtain ⟨L, hL⟩ := wd2_pts (stairA_wd h)
  have hp := stairA_pw rs
  have hbd := stairA_bd hb
  have hlen := stairA_len rs
  rw [hL] at hp hbd hlen
  have hbp : ∀ p ∈ L, (0 ≤ p.1 ∧ p.1 ≤ 1000000000000000000000000000000000000000000) ∧ (0 ≤ p.2 ∧ p.2 ≤ 1000000000000000000000000000000000000000000) := fun p hp => by
    have := hbd (rw2 p) (List.mem_map_of_mem hp)
    exact ⟨this p.1 (by simp), this p.2 (by simp)⟩
  refine ⟨L, hL, ⟨?_, fun p hp => ⟨(hbp p hp).1.1, (hbp p hp).2.1⟩⟩, fun p hp => ?_, by simpa using hlen⟩
  · rw [List.pairwise_map] at hp
    refine hp.imp fun {a b} z => ?_
    have z1 := z.1
    have z2 := z.2
    rw [← Bool.not_eq_true, cov2] at z2
    rw [List.cons_lt_cons_iff, List.cons_lt_cons_iff] at z1
    simp at z1
    omega
  · have := hbp p hp
    unfold Bp
    omega
theorem pts_rows (L : List Pt) : (L.map rw2).map rowD = L.map pD := by
  rw [List.map_map]
  rfl
theorem pD_inj {a b : Pt} (h : pD a = pD b) : a = b := by
  simp at h
  exact Prod.ext h.1 h.2
theorem deq_pD {a b : Pt} : deq (pD a) (pD b) = decide (a = b) := by
  rw [← pD_row, ← pD_row, deq_row]
  congr 1
  simp [rw2, Prod.ext_iff]
theorem deq_pts {a b : List Pt} : deq (.lst (a.map pD)) (.lst (b.map pD)) = decide (a = b) := by
  rw [Bool.eq_iff_iff, deq_iff cl_pts cl_pts]
  simp only [D.lst.injEq, decide_eq_true_eq]
  exact ⟨fun h => (List.map_inj_right fun a b h => pD_inj h).mp h, fun h => by rw [h]⟩
theorem cl_pD {p : Pt} : Cl 1 (pD p) := cl_row (r := rw2 p)
theorem oEq_pD {a b : Pt} : oEq (pD a) (pD b) = .ok (.bl (decide (a = b))) := by rw [oEq_cl cl_pD cl_pD, deq_pD]
theorem oNe_pD {a b : Pt} : oNe (pD a) (pD b) = .ok (.bl (!decide (a = b))) := by rw [oNe_cl cl_pD cl_pD, deq_pD]
theorem oMin_is {ns : List Int} (h : ns ≠ []) : oMin [.lst (ns.map .int)] = .ok (.int (minL ns)) := by
  show (match intL (ns.map D.int) with | some [] => R.bad | some ns => R.ok (D.int (minL ns)) | none => .bad) = _
  rw [ints_map]
  cases ns with
  | nil => exact absurd rfl h
  | cons a l => rfl
theorem oMax_is {ns : List Int} (h : ns ≠ []) : oMax [.lst (ns.map .int)] = .ok (.int (maxL ns)) := by
  show (match intL (ns.map D.int) with | some [] => R.bad | some ns => R.ok (D.int (maxL ns)) | none => .bad) = _
  rw [ints_map]
  cases ns with
  | nil => exact absurd rfl h
  | cons a l => rfl
theorem minL_is {ns : List Int} {x : Int} (h : x ∈ ns) (h2 : ∀ y ∈ ns, x ≤ y) : minL ns = x := by
  have := minL_mem (ns := ns) (fun z => by rw [z] at h; cases h)
  have := this.2 x h
  have := h2 _ (minL_mem (ns := ns) (fun z => by rw [z] at h; cases h)).1
  omega
theorem getI_last {ds : List D} {d : D} : getI (ds ++ [d]) (-1) = .ok d := by
  have e : L2.atI (ds ++ [d]) (-1) = some d := by
    unfold L2.atI L2.ixN
    rw [if_neg (by omega), if_pos (by simp; omega)]
    have h3 : (-1 + ((ds ++ [d]).length : Int)).toNat = ds.length := by simp; omega
    rw [h3]
    simp
  unfold getI
  rw [e]
theorem get3 {a b c : D} : getI [a, b, c] 0 = .ok a ∧ getI [a, b, c] 1 = .ok b ∧ getI [a, b, c] 2 = .ok c := ⟨getI_ok (by decide) rfl, getI_ok (by decide) rfl, getI_ok (by decide) rfl⟩
@[simp] theorem get3_0 {a b c : D} : getI [a, b, c] 0 = .ok a := get3.1
@[simp] theorem get3_1 {a b c : D} : getI [a, b, c] 1 = .ok b := get3.2.1
@[simp] theorem get3_2 {a b c : D} : getI [a, b, c] 2 = .ok c := get3.2.2
/-! the ends -/
/-- worth by n of d -/
def wo (w p : Pt) : Int := p.1 * w.1 + p.2 * (w.2 - w.1)
structure Fr (f : Pt) : Prop where
  n : 0 ≤ f.1
  d : 0 < f.2
  nd : f.1 ≤ f.2
  g : Int.gcd f.1 f.2 = 1
  b : f.2 ≤ 10000000000000000000000000000000000000000000000
theorem div_cross {n d g a b : Int} (hg : 0 < g) (h : 0 ≤ (n * g) * a + (d * g) * b) : 0 ≤ n * a + d * b := by
  refine pos_of_mul hg ?_
  grind
section
variable {L : List Pt}
/-- pieces by numbers -/
theorem hull_at (h : St L) {k : Nat} (hk : k + 1 < (hull L).length) : (gp (hull L) k).1 < (gp (hull L) (k + 1)).1 ∧ (gp (hull L) (k + 1)).2 < (gp (hull L) k).2 ∧ gp (hull L) k ∈ L ∧ gp (hull L) (k + 1) ∈ L ∧ ∀ p ∈ L, 0 ≤ cr (gp (hull L) k) (gp (hull L) (k + 1)) p := by
  have hup : Up L := h.up.imp fun z => z.1
  have e : hull L = (hull L).take k ++ gp (hull L) k :: gp (hull L) (k + 1) :: (hull L).drop (k + 2) := by
    have e1 : (hull L).drop k = gp (hull L) k :: (hull L).drop (k + 1) := by
      rw [List.drop_eq_getElem_cons (show k < (hull L).length by omega)]
      simp [gp, List.getElem?_eq_getElem (show k < (hull L).length by omega)]
    have e2 : (hull L).drop (k + 1) = gp (hull L) (k + 1) :: (hull L).drop (k + 2) := by
      rw [List.drop_eq_getElem_cons hk]
      simp [gp, List.getElem?_eq_getElem hk]
    rw [← e2, ← e1, List.take_append_drop]
  have hp := hull_piece hup (nxt_iff.mpr ⟨_, _, e⟩)
  have hf : (hull L).Pairwise fun a b => a.1 < b.1 ∧ b.2 < a.2 := by
    rw [hull_eq hup]
    exact h.up.filter _
  have := List.pairwise_iff_getElem.mp hf k (k + 1) (by omega) hk (by omega)
  refine ⟨hp.1, ?_, hp.2.1, hp.2.2.1, hp.2.2.2⟩
  simpa [gp, List.getElem?_eq_getElem hk, List.getElem?_eq_getElem (show k < (hull L).length by omega)] using this.2
theorem hull_bent (h : St L) {k : Nat} (hk : k + 2 < (hull L).length) : 0 < cr (gp (hull L) k) (gp (hull L) (k + 1)) (gp (hull L) (k + 2)) := by
  have hup : Up L := h.up.imp fun z => z.1
  have g : ∀ j, j < (hull L).length → (hull L).drop j = gp (hull L) j :: (hull L).drop (j + 1) := fun j hj => by
    rw [List.drop_eq_getElem_cons hj]
    simp [gp, List.getElem?_eq_getElem hj]
  refine hull_bend hup (X := (hull L).take k) (Y := (hull L).drop (k + 3)) ?_
  rw [← g (k + 2) hk, ← g (k + 1) (by omega), ← g k (by omega), List.take_append_drop]
theorem lowE_ok {a b : Pt} (h1 : a.1 < b.1) (h2 : b.2 < a.2) : ∃ g : Int, 0 < g ∧ a.2 - b.2 = (lowE a b).1 * g ∧ (a.2 - b.2 + b.1 - a.1) = (lowE a b).2 * g ∧ 0 < (lowE a b).1 ∧ (lowE a b).1 < (lowE a b).2 ∧ Int.gcd (lowE a b).1 (lowE a b).2 = 1 := by
  obtain ⟨g, g0, e1, e2, n0, d0, hg⟩ := lowA_ok (n := a.2 - b.2) (d := a.2 - b.2 + b.1 - a.1) (by omega) (by omega)
  unfold lowE
  refine ⟨g, g0, e1, e2, ?_, ?_, hg⟩
  · refine spos_of_mul g0 ?_
    rw [Int.mul_comm, ← e1]
    omega
  · have : 0 < (lowA (a.2 - b.2) (a.2 - b.2 + b.1 - a.1)).2 - (lowA (a.2 - b.2) (a.2 - b.2 + b.1 - a.1)).1 := by
      refine spos_of_mul g0 ?_
      rw [Int.mul_comm, Int.sub_mul, ← e1, ← e2]
      omega
    omega
theorem en_fr (h : St L) (hb : ∀ p ∈ L, Bp p) (k : Nat) : Fr (en (hull L) k) := by
  unfold en
  split
  · exact ⟨by decide, by decide, by decide, by decide, by decide⟩
  · rename_i h0
    split
    · rename_i h1
      obtain ⟨j, rfl⟩ : ∃ j, k = j + 1 := ⟨k - 1, by omega⟩
      obtain ⟨a1, a2, a3, a4, _⟩ := hull_at h h1
      rw [show j + 1 - 1 = j by omega]
      have b1 := hb _ a3
      have b2 := hb _ a4
      generalize gp (hull L) j = a at *
      generalize gp (hull L) (j + 1) = b at *
      obtain ⟨g, g0, e1, e2, n0, d0, hg⟩ := lowE_ok a1 a2
      unfold Bp at b1 b2
      refine ⟨by omega, by omega, by omega, hg, ?_⟩
      have : (lowE a b).2 ≤ (lowE a b).2 * g := by
        have := Int.mul_le_mul_of_nonneg_left (show 1 ≤ g by omega) (show 0 ≤ (lowE a b).2 by omega)
        omega
      omega
    · exact ⟨by decide, by decide, by decide, by decide, by decide⟩
/-- an end is worth it -/
theorem lowE_best {a b p : Pt} (h1 : a.1 < b.1) (h2 : b.2 < a.2) (h3 : 0 ≤ cr a b p) : wo (lowE a b) a ≤ wo (lowE a b) p ∧ wo (lowE a b) b ≤ wo (lowE a b) p := by
  obtain ⟨g, g0, e1, e2, _⟩ := lowE_ok h1 h2
  unfold cr at h3
  unfold wo
  generalize lowE a b = f at *
  have k1 : 0 ≤ p.1 * f.1 + p.2 * (f.2 - f.1) - (a.1 * f.1 + a.2 * (f.2 - f.1)) := by
    refine pos_of_mul g0 ?_
    have e : g * (p.1 * f.1 + p.2 * (f.2 - f.1) - (a.1 * f.1 + a.2 * (f.2 - f.1))) = (b.1 - a.1) * (p.2 - a.2) - (b.2 - a.2) * (p.1 - a.1) := by grind
    rw [e]
    exact h3
  have k2 : 0 ≤ p.1 * f.1 + p.2 * (f.2 - f.1) - (b.1 * f.1 + b.2 * (f.2 - f.1)) := by
    refine pos_of_mul g0 ?_
    have e : g * (p.1 * f.1 + p.2 * (f.2 - f.1) - (b.1 * f.1 + b.2 * (f.2 - f.1))) = (b.1 - a.1) * (p.2 - a.2) - (b.2 - a.2) * (p.1 - a.1) := by grind
    rw [e]
    exact h3
  omega
theorem gp_head : ∀ {K : List Pt}, K ≠ [] → K.head? = some (gp K 0)
  | [], h => absurd rfl h
  | a :: K, _ => rfl
theorem gp_lastq {K : List Pt} (h : K ≠ []) : K.getLast? = some (gp K (K.length - 1)) := by
  have := List.length_pos_iff.mpr h
  rw [List.getLast?_eq_getElem?, List.getElem?_eq_getElem (by omega)]
  simp [gp, List.getElem?_eq_getElem (show K.length - 1 < K.length by omega)]
theorem hull_first (h : St L) (hn : L ≠ []) : ∀ p ∈ L, (gp (hull L) 0).1 ≤ p.1 := by
  have hup : Up L := h.up.imp fun z => z.1
  have e := hull_head hup
  rw [gp_head (hull_ne hup hn), gp_head hn] at e
  cases L with
  | nil => exact absurd rfl hn
  | cons a L =>
    rw [Option.some_inj.mp e]
    intro p hp
    show a.1 ≤ p.1
    rcases List.mem_cons.mp hp with rfl | hp
    · exact Int.le_refl _
    · exact Int.le_of_lt ((List.pairwise_cons.mp hup).1 p hp)
theorem hull_final (h : St L) (hn : L ≠ []) : ∀ p ∈ L, (gp (hull L) ((hull L).length - 1)).2 ≤ p.2 := by
  have hup : Up L := h.up.imp fun z => z.1
  have e := hull_last hup
  rw [gp_lastq (hull_ne hup hn)] at e
  obtain ⟨ys, hy⟩ := List.getLast?_eq_some_iff.mp e.symm
  intro p hp
  rw [hy] at hp
  have s := List.pairwise_append.mp (hy ▸ h.up)
  rcases List.mem_append.mp hp with hp | hp
  · exact Int.le_of_lt (s.2.2 p hp _ (by simp)).2
  · rw [← List.mem_singleton.mp hp]
    exact Int.le_refl _
theorem en_best (h : St L) (hn : L ≠ []) {k : Nat} (hk : k < (hull L).length) {p : Pt} (hp : p ∈ L) : wo (en (hull L) k) (gp (hull L) k) ≤ wo (en (hull L) k) p ∧ wo (en (hull L) (k + 1)) (gp (hull L) k) ≤ wo (en (hull L) (k + 1)) p := by
  constructor
  · cases k with
    | zero =>
      have := hull_first h hn p hp
      simp [en, wo]
      exact this
    | succ j =>
      obtain ⟨a1, a2, a3, a4, a5⟩ := hull_at h hk
      have := (lowE_best a1 a2 (a5 p hp)).2
      simpa [en, hk] using this
  · by_cases h1 : k + 1 < (hull L).length
    · obtain ⟨a1, a2, a3, a4, a5⟩ := hull_at h h1
      have := (lowE_best a1 a2 (a5 p hp)).1
      simpa [en, h1] using this
    · have := hull_final h hn p hp
      rw [show (hull L).length - 1 = k by omega] at this
      simp [en, h1, wo]
      exact this
theorem en_lt (h : St L) {k : Nat} (hk : k < (hull L).length) : (en (hull L) (k + 1)).1 * (en (hull L) k).2 < (en (hull L) k).1 * (en (hull L) (k + 1)).2 := by
  have one : ∀ {a b : Pt}, a.1 < b.1 → b.2 < a.2 → 0 < (lowE a b).1 ∧ (lowE a b).1 < (lowE a b).2 := fun h1 h2 => by
    obtain ⟨g, _, _, _, r1, r2, _⟩ := lowE_ok h1 h2
    exact ⟨r1, r2⟩
  cases k with
  | zero =>
    by_cases h1 : 1 < (hull L).length
    · obtain ⟨a1, a2, _⟩ := hull_at h h1
      have := one a1 a2
      simp [en, h1]
      exact this.2
    · simp [en, h1]
  | succ j =>
    obtain ⟨a1, a2, _⟩ := hull_at h hk
    have o1 := one a1 a2
    by_cases h1 : j + 2 < (hull L).length
    · obtain ⟨b1, b2, _⟩ := hull_at h h1
      have o2 := one b1 b2
      have hb := hull_bent h h1
      obtain ⟨g, g0, e1, e2, _⟩ := lowE_ok a1 a2
      obtain ⟨g', g0', e1', e2', _⟩ := lowE_ok b1 b2
      simp [en, hk, h1, show j + 1 + 1 = j + 2 by omega]
      generalize lowE (gp (hull L) j) (gp (hull L) (j + 1)) = f at *
      rw [show j + 1 + 1 = j + 2 by omega] at *
      generalize lowE (gp (hull L) (j + 1)) (gp (hull L) (j + 2)) = f' at *
      unfold cr at hb
      have : 0 < f.1 * f'.2 - f'.1 * f.2 := by
        refine spos_of_mul (Int.mul_pos g0 g0') ?_
        have e : g * g' * (f.1 * f'.2 - f'.1 * f.2) = ((gp (hull L) (j + 1)).1 - (gp (hull L) j).1) * ((gp (hull L) (j + 2)).2 - (gp (hull L) j).2) - ((gp (hull L) (j + 1)).2 - (gp (hull L) j).2) * ((gp (hull L) (j + 2)).1 - (gp (hull L) j).1) := by
          have e3 : g * g' * (f.1 * f'.2 - f'.1 * f.2) = (f.1 * g) * (f'.2 * g') - (f'.1 * g') * (f.2 * g) := by grind
          rw [e3, ← e1, ← e2, ← e1', ← e2']
          grind
        rw [e]
        exact hb
      omega
    · simp [en, hk, h1]
      exact o1.1
end
end DL

set_option Elab.async false
set_option linter.all false
set_option maxRecDepth 100000
set_option maxHeartbeats 4000000
set_option autoImplicit false
/-! P2v2: stairs and ways read back. -/
namespace DL
open PySem L2 TL
/-! ### the laws' texts -/
theorem mi_len : mi.length = 1 := by rw [len_tl, tl_minus]; rfl
theorem mulS_1 : oMulS (.str mi) (.int 1) = .ok (.str mi) := by
  have e : repS mi 1 = mi := by
    unfold repS
    rw [if_neg (by decide), if_pos (by simp)]
  unfold oMulS
  dsimp only
  rw [e, if_pos ⟨by decide, by decide, by rw [mi_len]; decide, by rw [mi_len]; decide⟩]
theorem mulS_0 : oMulS (.str mi) (.int 0) = .ok (.str Str.empty) := by
  have e : repS mi 0 = Str.empty := by
    unfold repS
    rw [if_pos (by decide)]
  unfold oMulS
  dsimp only
  rw [e, if_pos ⟨by decide, by decide, by simp, by decide⟩]
theorem app_empty (x : Str) : x ++ Str.empty = x := ext_tl (by rw [tl_append]; show tl x ++ [] = tl x; simp)
theorem empty_app (x : Str) : Str.empty ++ x = x := ext_tl (by rw [tl_append]; rfl)
theorem empty_len : Str.empty.length = 0 := rfl
theorem join_nil (s : Str) : Txt.join s [] = Str.empty := ext_tl (by rw [tl_join2]; rfl)
theorem law_stair_text_ok {rs : List (List Int)} {w : Nat} (h : RowsOk rs w) : F_law_stair_text [.lst (rs.map rowD)] = .ok (.str (stairT rs)) := by
  refine run_ok ?_
  unfold g_law_stair_text
  simp [rows_nil]
  rw [lcF_of (enc := rowD) (enc' := fun r => D.str (rowT r)) (fun _ => true) (fun r => r)]
  · rw [filter_yes]
    have hj := h.joins
    have hl := h.len
    unfold stairT at hl ⊢
    simp at hj ⊢
    simp [hj]
    by_cases hn : rs = []
    · subst hn
      simp [mulS_1, join_nil]
      rw [oAdd_s (by rw [empty_len, mi_len]; decide)]
      simp [empty_app]
    · simp [hn, mulS_0] at hl ⊢
      rw [oAdd_s (by rw [empty_len]; omega)]
      simp [app_empty]
  · intro r hr
    have h1 := h.l r hr
    have := h.hw
    refine ⟨_, rfl, rfl, fun _ => ?_⟩
    simp [(row_shown_ok (h.f r hr) (by omega)).2]
/-! ### ways -/
structure WayOk (ws : List Int) : Prop where
  b : ∀ x ∈ ws, 0 ≤ x ∧ x < 10 ^ 40
  n : ws.length ≤ 100000
theorem intS_nonneg {x : Int} (h : 0 ≤ x) : intS x = numS x.toNat := by
  unfold numS intS
  rw [Int.toNat_of_nonneg h]
theorem WayOk.joins {ws : List Int} (h : WayOk ws) : oJoin sp (.lst (ws.map fun x => D.str (intS x))) = .ok (.str (Txt.join sp (ws.map intS))) := by
  have hm : ∀ y ∈ ws.map intS, y.length ≤ 41 := fun y hy => by
    obtain ⟨x, hx, rfl⟩ := List.mem_map.mp hy
    rw [len_tl]
    exact int_len ⟨by have := h.b x hx; omega, (h.b x hx).2⟩
  have lsp : sp.length = 1 := by rw [len_tl, tl_sp]; rfl
  have e := oJoin_ok (a := sp) hm (by have := h.n; simp; rw [lsp]; omega)
  rw [List.map_map] at e
  exact e
theorem WayOk.len {ws : List Int} (h : WayOk ws) : (wayT ws).length ≤ 4200001 := by
  unfold wayT
  split
  · rw [mi_len]; decide
  · rw [len_tl, tl_join2, tl_sp]
    have := joinL_len (S := [32]) (m := 41) (ps := (ws.map intS).map tl) fun p hp => by
      rw [List.map_map] at hp
      obtain ⟨x, hx, rfl⟩ := List.mem_map.mp hp
      exact int_len ⟨by have := h.b x hx; omega, (h.b x hx).2⟩
    rw [List.length_map, List.length_map] at this
    have e : ([32] : List Nat).length = 1 := rfl
    rw [e] at this
    have := h.n
    omega
theorem ints_nil {ws : List Int} : oEq (.lst (ws.map .int)) (.lst []) = .ok (.bl (decide (ws = []))) := by
  rw [oEq_nil (n := 1) (cl_lst (n := 0) cl_ints)]
  cases ws <;> rfl
theorem strs_way {ws : List Int} (h : WayOk ws) {vs : List Nat} {ρ : Env} {i : Nat} (hi : ∀ d, dV i ((wipeR ρ vs).set i (some d)) = .ok d) : lcF vs (tN i) bYes (dCall oStr (dCons (dV i) dNil)) ρ (ws.map .int) = .ok (ws.map fun x => D.str (intS x)) := by
  rw [lcF_of (enc := D.int) (enc' := fun x : Int => D.str (intS x)) (fun _ => true) (fun x => x)]
  · rw [filter_yes]
    simp
  · intro x hx
    have := h.b x hx
    refine ⟨_, rfl, rfl, fun _ => ?_⟩
    simp [hi, oStr_int (x := x) (by omega) (by omega)]
theorem law_way_text_ok {ws : List Int} (h : WayOk ws) : F_law_way_text [.lst (ws.map .int)] = .ok (.str (wayT ws)) := by
  refine run_ok ?_
  unfold g_law_way_text
  simp [ints_nil]
  rw [strs_way h (fun _ => rfl)]
  have hj := h.joins
  have hl := h.len
  unfold wayT at hl ⊢
  simp at hj ⊢
  simp [hj]
  by_cases hn : ws = []
  · subst hn
    simp [mulS_1, join_nil]
    rw [oAdd_s (by rw [empty_len, mi_len]; decide)]
    simp [empty_app]
  · simp [hn, mulS_0] at hl ⊢
    rw [oAdd_s (by rw [empty_len]; omega)]
    simp [app_empty]
theorem show_way_ok {ws : List Int} (h : WayOk ws) : F_show_way [.lst (ws.map .int)] = .ok (.str (wayT ws)) := by
  refine run_ok ?_
  unfold g_show_way wayT
  simp [ints_nil]
  by_cases hn : ws = []
  · simp [hn]
  · simp [hn]
    rw [strs_way h (fun _ => rfl)]
    have hj := h.joins
    simp at hj ⊢
    simp [hj]
theorem joinL_sub {S : List Nat} {c : Nat} {p : List Nat} : ∀ {ps : List (List Nat)}, p ∈ ps → c ∈ p → c ∈ joinL S ps
  | [], h, _ => by cases h
  | [q], h, hc => by
    rw [List.mem_singleton.mp h] at hc
    exact hc
  | q :: q2 :: r, h, hc => by
    show c ∈ q ++ (S ++ joinL S (q2 :: r))
    rcases List.mem_cons.mp h with rfl | h
    · exact List.mem_append_left _ hc
    · exact List.mem_append_right _ (List.mem_append_right _ (joinL_sub h hc))
theorem WayOk.asc {ws : List Int} (h : WayOk ws) : Asc (wayT ws) := by
  unfold wayT
  split
  · exact asc_of (s := "-")
  · intro c hc
    rw [tl_join2, tl_sp] at hc
    rcases joinL_mem hc with hc | ⟨p, hp, hc⟩
    · rw [List.mem_singleton.mp hc]
      decide
    · rw [List.map_map] at hp
      obtain ⟨x, hx, rfl⟩ := List.mem_map.mp hp
      have := int_signs (x := x) c hc
      omega
theorem WayOk.ne {ws : List Int} (h : WayOk ws) (hn : ws ≠ []) : wayT ws ≠ mi := by
  intro z
  unfold wayT at z
  rw [if_neg hn] at z
  have z2 := congrArg tl z
  rw [tl_join2, tl_sp, tl_minus] at z2
  cases ws with
  | nil => exact hn rfl
  | cons a ws =>
    have ha := (h.b a List.mem_cons_self).1
    have hc := numL_ne a.toNat
    cases e : numL a.toNat with
    | nil => exact hc e
    | cons c l =>
      have hd := numL_digits a.toNat c (by rw [e]; exact List.mem_cons_self)
      have : c ∈ joinL [32] (((a :: ws).map intS).map tl) := joinL_sub (p := tl (intS a)) (by simp) (by rw [intS_nonneg ha, tl_numS, e]; exact List.mem_cons_self)
      rw [z2] at this
      have := List.mem_singleton.mp this
      omega
theorem WayOk.split {ws : List Int} (h : WayOk ws) (hn : ws ≠ []) : Txt.split (wayT ws) sp = ws.map intS := by
  unfold wayT
  rw [if_neg hn]
  refine split_join tl_sp sp_small (by simpa using hn) fun p hp => ?_
  obtain ⟨x, _, rfl⟩ := List.mem_map.mp hp
  intro z
  have := int_signs 32 z
  omega
theorem read_way_ok {ws : List Int} (h : WayOk ws) : F_read_way [.str (wayT ws)] = .ok (.lst (ws.map .int)) := by
  refine run_ok ?_
  unfold g_read_way
  have he := oEq_a h.asc (asc_of (s := "-"))
  by_cases hn : ws = []
  · subst hn
    have : wayT [] = mi := rfl
    rw [this] at he ⊢
    simp [he]
  · simp [he, h.ne hn]
    rw [oSplit_ok (by rw [tl_sp]; simp) (by have := h.len; omega), show Str.ofString " " = sp from rfl, h.split hn, List.map_map]
    simp
    rw [lcF_of (enc := D.str ∘ intS) (enc' := D.int) (fun _ => true) (fun x => x)]
    · rw [filter_yes]
      simp
    · intro x hx
      have hb := h.b x hx
      have := count_in_num (n := x.toNat) (by omega)
      rw [← intS_nonneg hb.1, Int.toNat_of_nonneg hb.1] at this
      refine ⟨_, rfl, rfl, fun _ => ?_⟩
      simp [this]
/-! ### stairs -/
theorem foldA_self : ∀ {xs found : List (List Int)}, (found ++ xs).Pairwise (fun a b => a < b ∧ cov a b = false) → xs.foldl stepA found = found ++ xs
  | [], found, _ => by simp
  | x :: xs, found, h => by
    have h1 := (List.pairwise_append.mp h).2.2
    have e : stepA found x = found ++ [x] := by
      unfold stepA
      rw [if_pos]
      rw [filter_isEmpty]
      simp
      exact fun a ha => (h1 a ha x List.mem_cons_self).2
    rw [List.foldl_cons, e, foldA_self (by simpa using h)]
    simp
theorem stairA_self {rs : List (List Int)} (h : rs.Pairwise fun a b => a < b ∧ cov a b = false) : stairA rs = rs := by
  unfold stairA
  have : sortU rs = rs := asc_ext sortU_asc (h.imp fun z => z.1) fun y => sortU_mem
  rw [this, foldA_self (by simpa using h)]
  simp
theorem stairA_twice (rs : List (List Int)) : stairA (stairA rs) = stairA rs := stairA_self (stairA_pw rs)
theorem is_stair_is {rs : List (List Int)} {w : Nat} (h : Wd w rs) (hw : 0 < w) (hw2 : w ≤ 1000) (hn : rs.length < 16777216) : F_is_stair [.lst (rs.map rowD)] = .ok (.bl (decide (rs = stairA rs))) := by
  refine run_ok ?_
  unfold g_is_stair
  simp [stair_of_ok h hw hw2 hn]
  rw [oEq_cl cl_rowsV cl_rowsV, deq_rws]
  simp
theorem loopQ_wp {i : Nat} {hh : D → Env → R Env} {g : Env → Out} {N : Env → Prop} {T : D → Prop} {X : Ex → Env → Prop} (ds : List D) (J : Nat → Env → Prop) (hJ : ∀ k ρ, J k ρ → dV i ρ = .ok (.lst ds)) : ∀ (n k : Nat) (ρ : Env), k + n = ds.length → J k ρ →
    (∀ k d ρ, ds[k]? = some d → J k ρ → Sat (hh d ρ) (fun ρ1 => (g ρ1).wp (J (k + 1)) T X) (fun _ => False)) → (∀ ρ, J ds.length ρ → N ρ) → (loopQ i hh g n k ρ).wp N T X
  | 0, k, ρ, hk, h0, _, hN => by
    unfold loopQ
    rw [hJ k ρ h0]
    have : ds.length = k := by omega
    dsimp only
    rw [if_pos this]
    exact hN ρ (this ▸ h0)
  | n + 1, k, ρ, hk, h0, hs, hN => by
    have hlt : k < ds.length := by omega
    have h1 := hs k ds[k] ρ (List.getElem?_eq_getElem hlt) h0
    unfold loopQ
    rw [hJ k ρ h0]
    dsimp only
    rw [if_pos (by omega), List.getElem?_eq_getElem hlt]
    dsimp only
    cases e : hh ds[k] ρ with
    | exc c => rw [e] at h1; exact h1.elim
    | bad => rw [e] at h1; exact h1.elim
    | ok ρ1 =>
      rw [e] at h1
      dsimp only
      rw [wp_seq]
      have h1 : (g ρ1).wp (J (k + 1)) T X := h1
      cases e2 : g ρ1 with
      | nx ρ2 =>
        rw [e2] at h1
        exact loopQ_wp ds J hJ n (k + 1) ρ2 (by omega) h1 hs hN
      | rt d => rw [e2] at h1; exact h1
      | xc e ρ => rw [e2] at h1; exact h1
      | bad => rw [e2] at h1; exact h1
theorem forP_wp {i : Nat} {hh : D → Env → R Env} {g : Env → Out} {ρ : Env} {N : Env → Prop} {T : D → Prop} {X : Ex → Env → Prop} (ds : List D) (J : Nat → Env → Prop) (hJ : ∀ k ρ, J k ρ → dV i ρ = .ok (.lst ds)) (h0 : J 0 ρ)
    (hs : ∀ k d ρ, ds[k]? = some d → J k ρ → Sat (hh d ρ) (fun ρ1 => (g ρ1).wp (J (k + 1)) T X) (fun _ => False)) (hN : ∀ ρ, J ds.length ρ → N ρ) : (oForP i hh g ρ).wp N T X := by
  unfold oForP
  rw [hJ 0 ρ h0]
  exact loopQ_wp ds J hJ ds.length 0 ρ (by omega) h0 hs hN
theorem RowsOk.ne {rs : List (List Int)} {w : Nat} (h : RowsOk rs w) (hn : rs ≠ []) : stairT rs ≠ mi := by
  intro z
  unfold stairT at z
  rw [if_neg hn] at z
  have z2 := congrArg tl z
  rw [tl_join2, tl_sp, tl_minus] at z2
  cases rs with
  | nil => exact hn rfl
  | cons r rs =>
    have hl := h.l r List.mem_cons_self
    have hw := h.hw
    match r, hl with
    | a :: b :: r, _ =>
      have h47 : (47 : Nat) ∈ tl (rowT (a :: b :: r)) := by
        unfold rowT
        rw [tl_join2, tl_sl]
        show 47 ∈ tl (intS a) ++ ([47] ++ _)
        simp
      have : 47 ∈ joinL [32] ((((a :: b :: r) :: rs).map rowT).map tl) := joinL_sub (p := tl (rowT (a :: b :: r))) (by simp) h47
      rw [z2] at this
      have := List.mem_singleton.mp this
      omega
    | [_], e => simp at e; omega
    | [], e => simp at e; omega
theorem RowsOk.wd {rs : List (List Int)} {w : Nat} (h : RowsOk rs w) : Wd w rs := h.l
theorem read_stair_ok {rs : List (List Int)} {w : Nat} (h : RowsOk rs w) (hs : stairA rs = rs) : F_read_stair [.str (stairT rs)] = .ok (.lst (rs.map rowD)) := by
  refine run_ok ?_
  unfold g_read_stair
  have he := oEq_a h.asc (asc_of (s := "-"))
  have hw := h.hw
  by_cases hn : rs = []
  · subst hn
    have : stairT [] = mi := rfl
    rw [this] at he ⊢
    simp [he]
  · simp [he, h.ne hn]
    rw [oSplit_ok (by rw [tl_sp]; simp) (by have := h.len; omega), show Str.ofString " " = sp from rfl, h.split hn, List.map_map]
    simp
    rw [lcF_of (enc := D.str ∘ rowT) (enc' := rowD) (fun _ => true) (fun r => r)]
    · rw [filter_yes]
      simp
      refine forP_wp (rs.map rowD) (fun k ρ => ∃ x2, ρ = [some (.str (stairT rs)), some (.lst (rs.map rowD)), x2, none]) (fun k ρ ⟨x2, e⟩ => by rw [e]; rfl) ⟨none, rfl⟩ ?_ ?_
      · rintro k d ρ hk ⟨x2, rfl⟩
        rw [List.getElem?_map] at hk
        obtain ⟨r, hr, rfl⟩ := Option.map_eq_some_iff.mp hk
        have hr2 := h.l r (List.mem_of_getElem? hr)
        obtain ⟨r0, l0, e0⟩ : ∃ r0 l0, rs = r0 :: l0 := by
          cases rs with
          | nil => exact absurd rfl hn
          | cons a l => exact ⟨a, l, rfl⟩
        have hr3 := h.l r0 (by rw [e0]; simp)
        have l1 : oLen [rowD r] = .ok (.int w) := by unfold rowD; simp [hr2]
        have l2 : oLen [rowD r0] = .ok (.int w) := by unfold rowD; simp [hr3]
        have g0 : getI (rs.map rowD) 0 = .ok (rowD r0) := by rw [e0]; exact getI_cons0
        simp [l1, g0, l2, sure_ok]
      · rintro ρ ⟨x2, rfl⟩
        have := h.n
        simp [is_stair_is h.wd (by omega) (by omega) (show rs.length < 16777216 by omega), hs, show flat (D.bl true) = true from rfl, sure_ok]
    · intro r hr
      refine ⟨_, rfl, rfl, fun _ => ?_⟩
      have := h.l r hr
      simp [row_in_ok (h.f r hr) (by omega)]
end DL

set_option Elab.async false
set_option linter.all false
set_option maxRecDepth 100000
set_option maxHeartbeats 4000000
set_option autoImplicit false
/-! P3_k72: stairs and ways as texts. -/
namespace DL
open PySem L2 TL
theorem mix2b : F_law_mix_v2 = F_law_mix := rfl
theorem law_whole_int {x : Int} : F_law_whole [.int x] = .ok (.bl true) := by
  refine run_ok ?_
  unfold g_law_whole
  simp
@[simp] theorem mExtT_1 {xs es : List D} : mExtT xs [.tup es] = if xs.length + es.length ≤ 16777216 then .ok (xs ++ es) else .bad := rfl
theorem oNe_self {n : Nat} {d : D} (h : Cl n d) (hn : n ≤ 64 := by decide) : oNe d d = .ok (.bl false) := by
  rw [oNe_cl h h hn hn, deq_self h]
  rfl
theorem cl_ws {ws : List Int} : Cl 2 (.lst (ws.map .int)) := cl_lst (n := 1) cl_ints
theorem same_ok {rs : List (List Int)} {w : Nat} {ws : List Int} (h : RowsOk rs w) (h2 : WayOk ws) : F_law_same_v2 [.lst [.lst (rs.map rowD), .lst (ws.map .int)], .lst (rs.map rowD), .lst (ws.map .int)] = .ok (.bl true) := by
  refine run_ok ?_
  unfold g_law_same_v2
  have hw := h.hw
  have hn := h.n
  have hn2 := h2.n
  simp [getI_cons0, getI_cons1, oNe_self (cl_rowsV (rs := rs)), oNe_self (cl_ws (ws := ws))]
  refine loop_foldI (J := fun n (_ : Unit) ρ => ∃ (ns : List Int) (x4 x5 : Option D), ns.length ≤ 100000 + 3 * n ∧ ρ = [some (.lst [.lst (rs.map rowD), .lst (ws.map .int)]), some (.lst (rs.map rowD)), some (.lst (ws.map .int)), some (.lst (ns.map .int)), x4, x5]) (fun s _ => s) _ 0 () _ ⟨ws, none, none, by omega, rfl⟩ ?_ ?_
  · rintro i ⟨⟩ r ρ hi hr ⟨ns, x4, x5, hl, rfl⟩
    have hr2 := h.l r hr
    have e : mExtT (ns.map D.int) [rowD r] = .ok ((ns ++ r).map D.int) := by
      unfold rowD
      rw [mExtT_1, if_pos (by simp; omega)]
      simp
    simp [e]
    refine ⟨ns ++ r, ?_⟩
    simp
    omega
  · rintro ρ ⟨ns, x4, x5, hl, rfl⟩
    simp
    rw [lcF_of (enc := D.int) (enc' := D.int) (fun _ => false) (fun x => x)]
    · simp
    · intro x hx
      refine ⟨_, rfl, ?_, fun z => by cases z⟩
      simp [law_whole_int]
theorem good_ok {rs : List (List Int)} {w : Nat} {ws : List Int} (h : RowsOk rs w) (hs : stairA rs = rs) (h2 : WayOk ws) : F_law_good_v2 [.lst (rs.map rowD), .lst (ws.map .int)] = .ok (.bl true) := by
  refine run_ok ?_
  unfold g_law_good_v2
  have hn := h.n
  have hn2 := h2.n
  have n1 : oNe (.lst [.str (stairT rs), .str (wayT ws)]) (.lst [.str (stairT rs), .str (wayT ws)]) = .ok (.bl false) := oNe_self (n := 2) (cl_lst (n := 1) fun d hd => by
    simp at hd
    rcases hd with rfl | rfl
    · exact cl_str h.asc
    · exact cl_str h2.asc)
  have n2 : oNe (.lst [.lst (rs.map rowD), .lst (ws.map .int)]) (.lst [.lst (rs.map rowD), .lst (ws.map .int)]) = .ok (.bl false) := oNe_self (n := 3) (cl_lst (n := 2) fun d hd => by
    simp at hd
    rcases hd with rfl | rfl
    · exact cl_rowsV
    · exact cl_ws)
  simp [getI_cons0, getI_cons1, law_stair_text_ok h, law_way_text_ok h2, show_stair_ok h, show_way_ok h2, n1, n2, itR1_ok (j := 2) (by decide) (by decide), upTo_map]
  refine loop_foldI (J := fun n (_ : Unit) ρ => ∃ (x5 x6 : Option D), ρ = [some (.lst (rs.map rowD)), some (.lst (ws.map .int)), some (.lst [.lst (rs.map rowD), .lst (ws.map .int)]), some (.lst [.str (stairT rs), .str (wayT ws)]), some (.lst [.str (stairT rs), .str (wayT ws)]), x5, x6]) (fun g s => g) _ 0 () _ ⟨none, none, rfl⟩ ?_ ?_
  · rintro i ⟨⟩ a ρ hi ha ⟨x5, x6, rfl⟩
    simp [getI_cons0, getI_cons1, read_stair_ok h hs, read_way_ok h2, same_ok h h2, show flat (D.bl true) = true from rfl, oMutN, show rs.length < 16777216 by omega, show ws.length < 16777216 by omega]
  · rintro ρ ⟨x5, x6, rfl⟩
    simp
/-! ### long ones -/
theorem lt_cons {a b : Int} {l m : List Int} (h : a < b) : a :: l < b :: m := List.cons_lt_cons_iff.mpr (.inl h)
theorem cov_false2 {a b : List Int} (k : Nat) (h : k < a.length) (h2 : b.getD k 0 < a.getD k 0) : cov a b = false := by
  rw [Bool.eq_false_iff]
  intro z
  have := List.all_eq_true.mp z k (List.mem_range.mpr h)
  have := of_decide_eq_true this
  omega
def longR : List (List Int) := (List.range 120).map fun (k : Nat) => [10 ^ 39 + (k : Int), 10 ^ 39 + 200 - (k : Int), 10 ^ 39]
def longR2 : List (List Int) := (List.range 300).map fun (k : Nat) => [(k : Int), 999 - (k : Int)]
theorem longR_ok : RowsOk longR 3 ∧ stairA longR = longR := by
  refine ⟨⟨.inr rfl, fun r hr => ?_, fun r hr x hx => ?_, by simp [longR]⟩, stairA_self ?_⟩
  · obtain ⟨k, _, rfl⟩ := List.mem_map.mp hr
    rfl
  · obtain ⟨k, hk, rfl⟩ := List.mem_map.mp hr
    have hk := List.mem_range.mp hk
    unfold Fig
    simp at hx
    omega
  · unfold longR
    rw [List.pairwise_map]
    refine List.pairwise_lt_range.imp fun {a b} hab => ⟨lt_cons (by omega), cov_false2 1 (by simp) ?_⟩
    simp
    omega
theorem longR2_ok : RowsOk longR2 2 ∧ stairA longR2 = longR2 := by
  refine ⟨⟨.inl rfl, fun r hr => ?_, fun r hr x hx => ?_, by simp [longR2]⟩, stairA_self ?_⟩
  · obtain ⟨k, _, rfl⟩ := List.mem_map.mp hr
    rfl
  · obtain ⟨k, hk, rfl⟩ := List.mem_map.mp hr
    have hk := List.mem_range.mp hk
    unfold Fig
    simp at hx
    omega
  · unfold longR2
    rw [List.pairwise_map]
    refine List.pairwise_lt_range.imp fun {a b} hab => ⟨lt_cons (by omega), cov_false2 1 (by simp) ?_⟩
    simp
    omega
def longW : List Int := (List.range 400).map fun (k : Nat) => (k : Int) * 7 % 40
theorem longW_ok : WayOk longW := by
  refine ⟨fun x hx => ?_, by simp [longW]⟩
  obtain ⟨k, _, rfl⟩ := List.mem_map.mp hx
  omega
theorem lc_l1 {ρ : Env} (h : ∀ d, dV 0 ((wipeR ρ [3]).set 3 (some d)) = .ok (.int (10 ^ 39))) (h3 : ∀ d, dV 3 ((wipeR ρ [3]).set 3 (some d)) = .ok d) : lcF [3] (tN 3) bYes (dTup (dCons (d2 oAdd (dV 0) (dV 3)) (dCons (d2 oSub (d2 oAdd (dV 0) (dC (.int 200))) (dV 3)) (dCons (dV 0) dNil)))) ρ (upTo 0 120) = .ok (longR.map rowD) := by
  rw [upTo_map, lcF_of (enc := fun i : Nat => D.int i) (enc' := rowD) (fun _ => true) (fun (k : Nat) => [10 ^ 39 + (k : Int), 10 ^ 39 + 200 - (k : Int), 10 ^ 39])]
  · rw [filter_yes]
    unfold longR
    rfl
  · intro k hk
    refine ⟨_, rfl, rfl, fun _ => ?_⟩
    simp only [dTup_eq, dCons_eq, d2_eq, h, h3, R.bind_ok, oAdd_i, oSub_i, dC_eq, dNil_eq, rowD, List.map_cons, List.map_nil]
theorem lc_l2 {ρ : Env} (h3 : ∀ d, dV 3 ((wipeR ρ [3]).set 3 (some d)) = .ok d) : lcF [3] (tN 3) bYes (d2 oMod (d2 oMul (dV 3) (dC (.int 7))) (dC (.int 40))) ρ (upTo 0 400) = .ok (longW.map .int) := by
  rw [upTo_map, lcF_of (enc := fun i : Nat => D.int i) (enc' := D.int) (fun _ => true) (fun (k : Nat) => (k : Int) * 7 % 40)]
  · rw [filter_yes]
    unfold longW
    rfl
  · intro k hk
    refine ⟨_, rfl, rfl, fun _ => ?_⟩
    have := List.mem_range.mp hk
    simp only [d2_eq, h3, R.bind_ok, dC_eq, oMul_ok (i := (k : Int)) (j := 7) ⟨by omega, by omega⟩ ⟨by omega, by omega⟩, oMod_i]
    rfl
theorem lc_l3 {ρ : Env} (h3 : ∀ d, dV 3 ((wipeR ρ [3]).set 3 (some d)) = .ok d) : lcF [3] (tN 3) bYes (dTup (dCons (dV 3) (dCons (d2 oSub (dC (.int 999)) (dV 3)) dNil))) ρ (upTo 0 300) = .ok (longR2.map rowD) := by
  rw [upTo_map, lcF_of (enc := fun i : Nat => D.int i) (enc' := rowD) (fun _ => true) (fun (k : Nat) => [(k : Int), 999 - (k : Int)])]
  · rw [filter_yes]
    unfold longR2
    rfl
  · intro k hk
    refine ⟨_, rfl, rfl, fun _ => ?_⟩
    simp only [dTup_eq, dCons_eq, d2_eq, h3, R.bind_ok, oSub_i, dC_eq, dNil_eq, rowD, List.map_cons, List.map_nil]
theorem rows_self {rs : List (List Int)} : oEq (.lst (rs.map rowD)) (.lst (rs.map rowD)) = .ok (.bl true) := by
  rw [oEq_cl cl_rowsV cl_rowsV, deq_self cl_rowsV]
theorem long_ok : F_law_long_right [] = .ok (.bl true) := by
  refine run_ok ?_
  unfold g_law_long_right
  have i1 : itR1 [.int 120] = .ok (upTo 0 120) := itR1_ok (j := 120) (by decide) (by decide)
  have i2 : itR1 [.int 400] = .ok (upTo 0 400) := itR1_ok (j := 400) (by decide) (by decide)
  have i3 : itR1 [.int 300] = .ok (upTo 0 300) := itR1_ok (j := 300) (by decide) (by decide)
  have l1 := fun ρ => lc_l1 (ρ := ρ)
  have l2 := fun ρ => lc_l2 (ρ := ρ)
  have l3 := fun ρ => lc_l3 (ρ := ρ)
  have gd := good_ok longR_ok.1 longR_ok.2 longW_ok
  have tx := law_stair_text_ok longR2_ok.1
  have rd := read_stair_ok longR2_ok.1 longR2_ok.2
  have se := rows_self (rs := longR2)
  have p39 := oPow_39
  have e39 : (10 : Int) ^ 39 = 1000000000000000000000000000000000000000 := rfl
  rw [e39] at l1
  generalize (1000000000000000000000000000000000000000 : Int) = big at *
  generalize itR1 = IT at *
  generalize F_law_good_v2 = FG at *
  generalize F_read_stair = FR at *
  generalize F_law_stair_text = FT at *
  generalize stairT longR2 = tt at *
  generalize longR.map rowD = R1 at *
  generalize longW.map D.int = W1 at *
  generalize longR2.map rowD = R2 at *
  generalize upTo 0 120 = u1 at *
  generalize upTo 0 400 = u2 at *
  generalize upTo 0 300 = u3 at *
  rw [show (List.map some ([] : List D) ++ List.replicate 4 none : Env) = [none, none, none, none] from rfl]
  simp only [oSeq_wp, oSet_eq, d2_eq, dC_eq, R.bind_ok]
  rw [p39]
  rw [thn_ok, wp_nx]
  rw [show ([none, none, none, none] : Env).set 0 (some (.int big)) = [some (.int big), none, none, none] from rfl]
  simp only [dLc_eq, iA_eq, dCons_eq, dNil_eq, dC_eq, R.bind_ok, i1]
  rw [l1 _ (fun _ => rfl) (fun _ => rfl)]
  dsimp only
  rw [thn_ok, wp_nx]
  rw [show ([some (.int big), none, none, none] : Env).set 1 (some (.lst R1)) = [some (.int big), some (.lst R1), none, none] from rfl]
  rw [oIf_eq, wp_then, bNot_eq, dB_eq, dCall_eq, dCons_eq, dCons_eq, dNil_eq, dLc_eq, iA_eq, dCons_eq, dNil_eq]
  rw [show ∀ ρ, dC (.int 400) ρ = .ok (.int 400) from fun _ => rfl, R.bind_ok, R.bind_ok, R.bind_ok, i2, R.bind_ok]
  rw [l2 _ (fun _ => rfl)]
  dsimp only
  rw [show dV 1 [some (.int big), some (.lst R1), none, none] = .ok (.lst R1) from rfl]
  rw [R.bind_ok, R.bind_ok, R.bind_ok, R.bind_ok, R.bind_ok, gd, R.bind_ok, asB_bl, R.bind_ok, sat_ok, if_neg (by decide), oNx_eq, wp_nx]
  rw [i3, R.bind_ok]
  rw [l3 _ (fun _ => rfl)]
  dsimp only
  rw [thn_ok, wp_nx]
  rw [show ([some (.int big), some (.lst R1), none, none] : Env).set 2 (some (.lst R2)) = [some (.int big), some (.lst R1), some (.lst R2), none] from rfl]
  rw [oRet_eq, wp_then, d2_eq, dCall_eq, dCons_eq, dNil_eq, dCall_eq, dCons_eq, dNil_eq]
  rw [show dV 2 [some (.int big), some (.lst R1), some (.lst R2), none] = .ok (.lst R2) from rfl]
  rw [R.bind_ok, R.bind_ok, R.bind_ok, tx, R.bind_ok, R.bind_ok, R.bind_ok, rd, R.bind_ok, R.bind_ok, se]
  exact rfl

/-! ### drawn ones -/
theorem len0 {α : Type} (p : α → Bool) (l : List α) : decide (((l.filter p).length : Int) = 0) = l.all fun a => !p a := by
  rw [← filter_isEmpty]
  cases l.filter p with
  | nil => rfl
  | cons a m =>
    simp
    omega
theorem covers2_ok {a b : List Int} (h : a.length ≤ b.length) (hl : a.length ≤ 1000) : F_law_covers_v2 [rowD a, rowD b] = .ok (.bl (cov a b)) := by
  refine run_ok ?_
  unfold g_law_covers_v2
  have e : oLen [rowD a] = .ok (.int a.length) := by unfold rowD; simp
  simp [e, itR1_ok (show (0 : Int) ≤ a.length by omega) (show (a.length : Int) ≤ 16777216 by omega), upTo_map]
  rw [lcF_of (enc := fun i : Nat => D.int i) (enc' := fun i : Nat => D.int i) (fun k => decide (b.getD k 0 < a.getD k 0)) (fun k => k)]
  · simp only [R.bind_ok, oLen_l, List.length_map, oEq_i, sat_ok, len0, cov]
    congr 2
    funext k
    simp only [← decide_not, Int.not_lt]
  · intro k hk
    have hk : k < a.length := List.mem_range.mp hk
    simp [wipeR, getI_row (r := a) (k := k) (by omega) (by omega), getI_row (r := b) (k := k) (by omega) (by omega), at0]
theorem law_stair_of_ok {rs : List (List Int)} {w : Nat} (h : Wd w rs) (hw : 0 < w) (hw2 : w ≤ 1000) (hn : rs.length < 64) : F_law_stair_of [.lst (rs.map rowD)] = .ok (.lst ((stairA rs).map rowD)) := by
  refine run_ok ?_
  unfold g_law_stair_of
  simp [oSortSet_ok h hw hn]
  refine loop_foldI (J := fun n found ρ => ∃ x2 x3, found.length ≤ n ∧ (∀ r ∈ found, r.length = w) ∧ ρ = [some (.lst (rs.map rowD)), some (.lst (found.map rowD)), x2, x3]) stepA _ 0 [] _ ⟨_, _, by simp, by simp, rfl⟩ ?_ ?_
  · rintro i found r ρ hi hr ⟨x2, x3, hf, hwf, rfl⟩
    have hrw : r.length = w := h r (sortU_mem.mp hr)
    simp [wipeR]
    rw [lcF_of (enc := rowD) (enc' := rowD) (fun o => cov o r) (fun o => o)]
    · simp only [R.bind_ok, oLen_l, List.length_map, oEq_i, sat_ok, len0, asB_bl]
      unfold stepA
      rw [filter_isEmpty]
      have hlen : found.length < 16777216 := by have := sortU_len rs; omega
      cases e : (found.all fun a => !cov a r) with
      | true =>
        simp [hlen]
        exact ⟨by omega, fun a ha => by rcases ha with ha | rfl <;> simp_all⟩
      | false =>
        simp
        exact ⟨by omega, hwf⟩
    · intro o ho
      have := hwf o ho
      simp [covers2_ok (a := o) (b := r) (by omega) (by omega)]
  · rintro ρ' ⟨x2, x3, _, _, rfl⟩
    simp [stairA]
theorem pick8 {k : Int} (h : 0 ≤ k) (h' : k < 8) : ∃ x : Int, getI [D.int 1, D.int 1, D.int 1, D.int 1000000000000000000000000000000, D.int 1, D.int 100000000000000000000000000000000000000, D.int 1, D.int 1] k = .ok (.int x) ∧ 1 ≤ x ∧ x ≤ 100000000000000000000000000000000000000 := by
  obtain ⟨n, rfl⟩ := Int.eq_ofNat_of_zero_le h
  have : n = 0 ∨ n = 1 ∨ n = 2 ∨ n = 3 ∨ n = 4 ∨ n = 5 ∨ n = 6 ∨ n = 7 := by omega
  rcases this with rfl | rfl | rfl | rfl | rfl | rfl | rfl | rfl
  all_goals exact ⟨_, getI_ok (by decide) rfl, by decide, by decide⟩
theorem drawn_ex {ms : List Int} {start : Int} (h0 : 0 ≤ start) : ∃ (rs : List (List Int)) (w : Nat), F_law_drawn_stair [.lst (ms.map .int), .int start] = .ok (.lst (rs.map rowD)) ∧ RowsOk rs w ∧ stairA rs = rs := by
  have z : ∃ d, F_law_drawn_stair [.lst (ms.map .int), .int start] = .ok d ∧ ∃ (rs : List (List Int)) (w : Nat), d = .lst (rs.map rowD) ∧ RowsOk rs w ∧ stairA rs = rs := by
    refine run_ex ?_
    unfold g_law_drawn_stair
    rw [mix2b]
    obtain ⟨m0, b0, c0⟩ := mix_ok (c := cellA ms start) (k := 0) (by decide) (by decide)
    generalize mixA (cellA ms start) 0 = q0 at *
    obtain ⟨great, eg, hg1, hg2⟩ := pick8 (k := q0 / 2 % 8) (by omega) (by omega)
    simp [F_cell_at (ns := ms) (k := start) h0, m0, eg, itR1_ok (j := q0 / 64 % 40) (by omega) (by omega), upTo_map]
    obtain ⟨w, hw, ew⟩ : ∃ w : Nat, (w = 2 ∨ w = 3) ∧ 2 + q0 % 2 = w := ⟨(2 + q0 % 2).toNat, by omega, by omega⟩
    rw [ew]
    refine loop_foldI (J := fun n (_ : Unit) ρ => ∃ (rs : List (List Int)) (x6 x7 x8 x9 : Option D), rs.length ≤ n ∧ (∀ r ∈ rs, r.length = w) ∧ (∀ r ∈ rs, ∀ x ∈ r, Fig x) ∧ ρ = [some (.lst (ms.map .int)), some (.int start), some (.int q0), some (.int w), some (.int great), some (.lst (rs.map rowD)), x6, x7, x8, x9]) (fun s _ => s) _ 0 () _ ⟨[], none, none, none, none, by simp, by simp, by simp, rfl⟩ ?_ ?_
    · rintro i ⟨⟩ k ρ hi hk ⟨rs, x6, x7, x8, x9, hl, hwd, hf, rfl⟩
      have hi : i < 40 := by simp at hi; omega
      have hkl := List.mem_range.mp hk
      obtain ⟨n1, b1, c1⟩ := mix_ok (c := cellA ms (start + 1 + (k : Int) / 8)) (k := (k : Int) % 8) (by omega) (by omega)
      simp [F_cell_at (ns := ms) (k := start + 1 + (k : Int) / 8) (by omega), n1]
      generalize mixA (cellA ms (start + 1 + (k : Int) / 8)) ((k : Int) % 8) = q1 at *
      obtain ⟨ps, hps, lps, mps⟩ : ∃ ps : List Int, cutD [D.int 1, D.int 41, D.int 1700] none (some (w : Int)) = ps.map D.int ∧ ps.length = w ∧ ∀ x ∈ ps, x = 1 ∨ x = 41 ∨ x = 1700 := by
        rcases hw with rfl | rfl
        · exact ⟨[1, 41], rfl, rfl, by simp⟩
        · exact ⟨[1, 41, 1700], rfl, rfl, by simp⟩
      rw [hps, lcF_of (enc := D.int) (enc' := D.int) (fun _ => true) (fun x => q1 / x % 40 * great - q0 / 16 % 4 * 9)]
      · rw [filter_yes]
        generalize hr : ps.map (fun x => q1 / x % 40 * great - q0 / 16 % 4 * 9) = r at *
        have hrl : r.length = w := by rw [← hr]; simp [lps]
        have hrf : ∀ x ∈ r, -27 ≤ x ∧ x ≤ 39 * 100000000000000000000000000000000000000 := fun x hx => by
          rw [← hr] at hx
          obtain ⟨y, hy, rfl⟩ := List.mem_map.mp hx
          have y1 : 0 ≤ q1 / y % 40 ∧ q1 / y % 40 ≤ 39 := by omega
          have y4 := Int.mul_nonneg y1.1 (show 0 ≤ great by omega)
          have y5 := Int.mul_le_mul y1.2 hg2 (show 0 ≤ great by omega) (by decide)
          omega
        have hrs : rs.length < 16777216 := by omega
        have o60 := oMul_ok (i := 60) (j := great) ⟨by decide, by decide⟩ ⟨by omega, by omega⟩
        have up : ∀ r' : List Int, r'.length = w → (∀ x ∈ r', Fig x) → (∃ (rs2 : List (List Int)), rs2.length ≤ i + 1 ∧ (∀ r ∈ rs2, r.length = w) ∧ (∀ r ∈ rs2, ∀ x ∈ r, Fig x) ∧ rs2 = rs ++ [r']) := fun r' h1 h2 => by
          refine ⟨rs ++ [r'], by simp; omega, fun r hr => ?_, fun r hr => ?_, rfl⟩
          · rcases List.mem_append.mp hr with hr | hr
            · exact hwd r hr
            · rw [List.mem_singleton.mp hr]; exact h1
          · rcases List.mem_append.mp hr with hr | hr
            · exact hf r hr
            · rw [List.mem_singleton.mp hr]; exact h2
        match r, hrl, hrf with
        | a :: b :: r, hrl, hrf =>
          have ha := hrf a (by simp)
          have hb := hrf b (by simp)
          by_cases hk2 : (k : Int) % 2 = 1
          · obtain ⟨rs2, u1, u2, u3, u4⟩ := up (a :: (60 * great - a) :: r) hrl fun x hx => by
              unfold Fig
              rcases List.mem_cons.mp hx with rfl | hx
              · omega
              · rcases List.mem_cons.mp hx with rfl | hx
                · omega
                · have := hrf x (by simp [hx])
                  omega
            simp [hk2, o60, getI_cons0, hrs, show (1 : Int) < (r.length : Int) + 1 + 1 by omega]
            exact ⟨rs2, by omega, u2, u3, by rw [u4]; simp [rowD]⟩
          · obtain ⟨rs2, u1, u2, u3, u4⟩ := up (a :: b :: r) hrl fun x hx => by
              have := hrf x hx
              unfold Fig
              omega
            simp [hk2, hrs]
            exact ⟨rs2, by omega, u2, u3, by rw [u4]; simp [rowD]⟩
        | [_], e, _ => simp at e; omega
        | [], e, _ => simp at e; omega
      · intro x hx
        have hx3 := mps x hx
        refine ⟨_, rfl, rfl, fun _ => ?_⟩
        have e1 := oDiv_ok (i := q1) (j := x) (by omega) ⟨by omega, by omega⟩
        have e2 := oMul_ok (i := q1 / x % 40) (j := great) ⟨by omega, by omega⟩ ⟨by omega, by omega⟩
        have e3 := oMul_ok (i := q0 / 16 % 4) (j := 9) ⟨by omega, by omega⟩ ⟨by decide, by decide⟩
        simp [e1, e2, e3]
    · rintro ρ ⟨rs, x6, x7, x8, x9, hl, hwd, hf, rfl⟩
      have hn : rs.length < 64 := by simp at hl; omega
      have hwd2 : Wd w rs := hwd
      simp [law_stair_of_ok hwd2 (by omega) (by omega) hn]
      refine ⟨stairA rs, rfl, ⟨w, ⟨hw, stairA_wd hwd2, fun r hr => hf r (stairA_mem hr), ?_⟩⟩, stairA_twice rs⟩
      have := stairA_len rs
      omega
  obtain ⟨d, e, rs, w, rfl, h⟩ := z
  exact ⟨rs, w, e, h⟩
theorem pure_k72 (ns : List Int) (hn : ns.length ≤ 63) : F_law_k72 [.lst (ns.map .int)] = .ok (.bl true) := by
  refine run_ok ?_
  unfold g_law_k72
  rw [mix2b]
  obtain ⟨ms, hl, e1⟩ := cut_ex ns
  have lg := long_ok
  generalize F_law_long_right = LR at *
  clear hn hl
  as_aux_lemma =>
  simp [e1, lg]
  refine wp_mid (I := fun ρ => ∃ (r1 r2 : List (List Int)) (w1 w2 : Nat) (y1 y2 : List Int) (x2 x3 x4 x7 : Option D), RowsOk r1 w1 ∧ stairA r1 = r1 ∧ WayOk y1 ∧ RowsOk r2 w2 ∧ stairA r2 = r2 ∧ WayOk y2 ∧ ρ = [some (.lst (ms.map .int)), some (.lst [.tup [.lst (r1.map rowD), .lst (y1.map .int)], .tup [.lst (r2.map rowD), .lst (y2.map .int)]]), x2, x3, x4, none, none, x7]) ?_ ?_
  · rw [show [D.int 0, D.int 20] = [(0 : Int), 20].map D.int from rfl]
    refine loop_foldI (J := fun n (_ : Unit) ρ => ∃ (ws : List (List (List Int) × Nat × List Int)) (x2 x3 x4 x7 : Option D), ws.length = n ∧ (∀ t ∈ ws, RowsOk t.1 t.2.1 ∧ stairA t.1 = t.1 ∧ WayOk t.2.2) ∧ ρ = [some (.lst (ms.map .int)), some (.lst (ws.map fun t => .tup [.lst (t.1.map rowD), .lst (t.2.2.map .int)])), x2, x3, x4, none, none, x7]) (fun s _ => s) _ 0 () _ ⟨[], none, none, none, none, rfl, by simp, rfl⟩ ?_ ?_
    · rintro i ⟨⟩ a ρ hi ha ⟨ws, x2, x3, x4, x7, hl2, hw, rfl⟩
      have ha : 0 ≤ a := by
        simp at ha
        omega
      obtain ⟨m0, b0, c0⟩ := mix_ok (c := cellA ms (a + 8)) (k := 0) (by decide) (by decide)
      generalize mixA (cellA ms (a + 8)) 0 = q0 at *
      obtain ⟨rs, w, ed, R1, R2⟩ := drawn_ex (ms := ms) (start := a) ha
      have hi : ws.length < 16777216 := by
        simp at hi
        omega
      simp [F_cell_at (ns := ms) (k := a + 8) (by omega), m0, itR1_ok (j := q0 % 61) (by omega) (by omega), upTo_map]
      rw [lcF_of (enc := fun i : Nat => D.int i) (enc' := D.int) (fun _ => true) (fun k => mixA q0 k % 40)]
      · rw [filter_yes]
        have W : WayOk ((List.range (q0 % 61).toNat).map fun k : Nat => mixA q0 k % 40) := ⟨fun x hx => by
          obtain ⟨k, hk, rfl⟩ := List.mem_map.mp hx
          omega, by simp; omega⟩
        generalize (List.range (q0 % 61).toNat).map (fun k : Nat => mixA q0 k % 40) = ys at *
        simp [ed, hi]
        refine ⟨ws ++ [(rs, w, ys)], by simp; omega, fun x y z ht => ?_, by simp⟩
        rcases List.mem_append.mp ht with ht | ht
        · exact hw (x, y, z) ht
        · cases List.mem_singleton.mp ht
          exact ⟨R1, R2, W⟩
      · intro k hk
        have := List.mem_range.mp hk
        obtain ⟨n0, b0, c0⟩ := mix_ok (c := q0) (k := (k : Int)) (by omega) (by omega)
        refine ⟨_, rfl, rfl, fun _ => ?_⟩
        simp [n0]
    · rintro ρ ⟨ws, x2, x3, x4, x7, hl2, hw, rfl⟩
      simp at hl2
      match ws, hl2, hw with
      | [t, u], _, hw =>
        have h1 := hw t (by simp)
        have h2 := hw u (by simp)
        exact ⟨t.1, u.1, t.2.1, u.2.1, t.2.2, u.2.2, x2, x3, x4, x7, h1.1, h1.2.1, h1.2.2, h2.1, h2.2.1, h2.2.2, rfl⟩
  rintro ρ ⟨r1, r2, w1, w2, y1, y2, x2, x3, x4, x7, A1, A2, A3, B1, B2, B3, rfl⟩
  simp [getI_cons0, getI_cons1, law_stair_text_ok A1, law_way_text_ok A3, read_stair_ok A1 A2, read_way_ok A3]
  rw [show [D.tup [.lst (r2.map rowD), .lst (y2.map .int)], D.tup [.lst (r1.map rowD), .lst (y1.map .int)]] = [(r2, w2, y2), (r1, w1, y1)].map (fun t : List (List Int) × Nat × List Int => D.tup [.lst (t.1.map rowD), .lst (t.2.2.map .int)]) from rfl]
  refine loop_foldI (J := fun n (_ : Unit) ρ => ∃ (x2 x3 x4 x6 x7 : Option D), ρ = [some (.lst (ms.map .int)), some (.lst [.tup [.lst (r1.map rowD), .lst (y1.map .int)], .tup [.lst (r2.map rowD), .lst (y2.map .int)]]), x2, x3, x4, some (.lst [.lst (r1.map rowD), .lst (y1.map .int)]), x6, x7]) (fun s _ => s) _ 0 () _ ⟨_, _, _, _, _, rfl⟩ ?_ ?_
  · rintro i ⟨⟩ t ρ hi ht ⟨x2, x3, x4, x6, x7, rfl⟩
    have W : RowsOk t.1 t.2.1 ∧ stairA t.1 = t.1 ∧ WayOk t.2.2 := by
      simp at ht
      rcases ht with rfl | rfl
      · exact ⟨B1, B2, B3⟩
      · exact ⟨A1, A2, A3⟩
    simp [good_ok W.1 W.2.1 W.2.2, getI_cons0, getI_cons1, same_ok A1 A3]
  · rintro ρ ⟨x2, x3, x4, x6, x7, rfl⟩
    simp
end DL

set_option Elab.async false
set_option linter.all false
set_option maxRecDepth 100000
set_option maxHeartbeats 4000000
namespace DL
open PySem PySem.Spec PyProof.Rows L2
def topS (i : Nat) : Stmt := PySem.Challenge.pw_pricestair_k72_stairs_and_ways_as_texts.main.body.getD i (.Pass ⟨0, 0, 0, 0⟩)
structure Cn (mg : Str → Option Value) : Prop where
  g_FIGURES : ConS mg "FIGURES" (PySem.Str.ofString "0123456789")
  g_LONGEST : ConI mg "LONGEST" 40
section
variable {P : Program} {wd : World} {K : PySem.W.Frag} {mg : Str → Option Value} {base : Heap} {ad : Adr} {CS : Addr} {f : Addr} {fd : FuncData}
abbrev s_covers : Stmt := topS 4
theorem sc_covers : FnScope ["one", "other", "side"] ["one", "other"] (defScope s_covers) := ⟨rfl, rfl, rfl, by decide +kernel, rfl, by decide +kernel, by decide +kernel⟩
theorem ok_covers (B : Bt mg) (F : L2.Fun K "covers" "covers" s_covers f fd) (hm : mg "covers" = some (.ref f)) (hb : Binds K fd ["one", "other"] []) : Cal P wd K mg base ad 1 "covers" 2 .fz F_covers :=
  have nd := sc_covers.nd
  cal_mk (G' := []) 1 [] F hm hb sc_covers rfl rfl (by first | exact .inl rfl | exact .inr ⟨rfl, rfl⟩) fun cdv A outer s H E hr tk po => by
  have hu := hr.units
  have hu5 := units5 hr
  exact (sds_ret (de_callBu (dcu_all rfl) nox_all boot_all (dua_cons (du_of (de_lc [("side", 2)] rfl nd (by kernel_rfl) (dj_of (di_range1 (da_cons (de_callBu dcu_len nox_len boot_len (dua_cons (du_of (de_var 0)) dua_nil) B.len) da_nil) rfl B.range)) (fun _ _ _ _ _ => (dg_name 2 nd)) (fun _ _ _ _ _ => dts_nil) (fun _ _ _ _ _ => (de_cmp dop_le (de_ix (de_var 0) (de_var 2)) (de_ix (de_var 1) (de_var 2)) (nomark _) no_cmp)))) dua_nil) B.all))
abbrev s_stair_of : Stmt := topS 5
theorem sc_stair_of : FnScope ["rows", "found", "row", "one"] ["rows"] (defScope s_stair_of) := ⟨rfl, rfl, rfl, by decide +kernel, rfl, by decide +kernel, by decide +kernel⟩
theorem ok_stair_of (B : Bt mg) (c_covers : Cal P wd K mg base ad 1 "covers" 2 .fz F_covers) (F : L2.Fun K "stair_of" "stair_of" s_stair_of f fd) (hm : mg "stair_of" = some (.ref f)) (hb : Binds K fd ["rows"] []) : Cal P wd K mg base ad 2 "stair_of" 1 (.own .fz) F_stair_of :=
  have nd := sc_stair_of.nd
  cal_mk (G' := []) 3 [(1, .own .fz)] F hm hb sc_stair_of rfl rfl (by first | exact .inl rfl | exact .inr ⟨rfl, rfl⟩) fun cdv A outer s H E hr tk po => by
  have hu := hr.units
  have hu5 := units5 hr
  exact (sds_cons (sd_set 1 (de_lst da_nil cnt0) nd)
    (sds_cons (sd_for po rfl (di_seq (de_fz (de_sorted hu (dk_of (de_var 0)) B.sorted))) (dg_name 2 nd)
    (sds_one (sd_if (dt_not (dt_val (de_callBu (dcu_any rfl) nox_any boot_any (dua_cons (du_of (de_lc [("one", 3)] rfl nd (by kernel_rfl) (dj_own 1) (fun _ _ _ _ _ => (dg_name 3 nd)) (fun _ _ _ _ _ => dts_nil) (fun _ _ _ _ _ => (de_call c_covers hr (by decide) tk0 (da_cons (de_var 3) (da_cons (de_var 2) da_nil)) (hn := (cntS (cntS cnt0))))))) dua_nil) B.any)))
    (sds_one (sd_mut 1 dmt_append PySem.F.slot_list_append PySem.F.type_list_append (da_cons (de_var 2) da_nil)))
    sds_nil)))
    (sds_retO 1)))
abbrev s_is_stair : Stmt := topS 6
theorem sc_is_stair : FnScope ["rows"] ["rows"] (defScope s_is_stair) := ⟨rfl, rfl, rfl, by decide +kernel, rfl, by decide +kernel, by decide +kernel⟩
theorem ok_is_stair (B : Bt mg) (c_stair_of : Cal P wd K mg base ad 2 "stair_of" 1 (.own .fz) F_stair_of) (F : L2.Fun K "is_stair" "is_stair" s_is_stair f fd) (hm : mg "is_stair" = some (.ref f)) (hb : Binds K fd ["rows"] []) : Cal P wd K mg base ad 3 "is_stair" 1 .fz F_is_stair :=
  have nd := sc_is_stair.nd
  cal_mk (G' := []) 0 [] F hm hb sc_is_stair rfl rfl (by first | exact .inl rfl | exact .inr ⟨rfl, rfl⟩) fun cdv A outer s H E hr tk po => by
  have hu := hr.units
  have hu5 := units5 hr
  exact (sds_ret (de_cmpU (dou_eq hu) (du_of (de_var 0)) (du_of (de_call c_stair_of hr (by decide) tk (da_cons (de_var 0) da_nil) (hn := (cntS cnt0)))) (nomark _) no_eq))
abbrev s_sure : Stmt := topS 10
theorem sc_sure : FnScope ["good"] ["good"] (defScope s_sure) := ⟨rfl, rfl, rfl, by decide +kernel, rfl, by decide +kernel, by decide +kernel⟩
theorem ok_sure (B : Bt mg) (x_NoText : XC K mg ad .text "NoText") (F : L2.Fun K "sure" "sure" s_sure f fd) (hm : mg "sure" = some (.ref f)) (hb : Binds K fd ["good"] []) : Cal P wd K mg base ad 1 "sure" 1 .fz F_sure :=
  have nd := sc_sure.nd
  cal_mk (G' := []) 0 [] F hm hb sc_sure rfl rfl (by first | exact .inl rfl | exact .inr ⟨rfl, rfl⟩) fun cdv A outer s H E hr tk po => by
  have hu := hr.units
  have hu5 := units5 hr
  exact (sds_one (sd_if (dt_not (dt_val (de_var 0)))
    (sds_raise x_NoText tk)
    sds_nil))
abbrev s_count_in : Stmt := topS 11
theorem sc_count_in : FnScope ["word", "sign"] ["word"] (defScope s_count_in) := ⟨rfl, rfl, rfl, by decide +kernel, rfl, by decide +kernel, by decide +kernel⟩
theorem ok_count_in (B : Bt mg) (T : Cn mg) (c_sure : Cal P wd K mg base ad 1 "sure" 1 .fz F_sure) (F : L2.Fun K "count_in" "count_in" s_count_in f fd) (hm : mg "count_in" = some (.ref f)) (hb : Binds K fd ["word"] []) : Cal P wd K mg base ad 2 "count_in" 1 .fz F_count_in :=
  have nd := sc_count_in.nd
  cal_mk (G' := []) 1 [] F hm hb sc_count_in rfl rfl (by first | exact .inl rfl | exact .inr ⟨rfl, rfl⟩) fun cdv A outer s H E hr tk po => by
  have hu := hr.units
  have hu5 := units5 hr
  exact (sds_cons (sd_drop (de_call c_sure hr (by decide) tk (da_cons (de_chain dop_lt dop_le de_int (de_callBu dcu_len nox_len boot_len (dua_cons (du_of (de_var 0)) dua_nil) B.len) (de_con (con_i T.g_LONGEST)) no_cmp no_cmp) da_nil) (hn := (cntS cnt0))))
    (sds_cons (sd_for po rfl (di_str (de_var 0)) (dg_name 1 nd)
    (sds_one (sd_drop (de_call c_sure hr (by decide) tk (da_cons (de_cmp (dop_inS) (de_var 1) (de_con (con_s T.g_FIGURES)) (by with_unfolding_all rfl) no_inS) da_nil) (hn := (cntS cnt0))))))
    (sds_cons (sd_drop (de_call c_sure hr (by decide) tk (da_cons (de_or (de_cmpU (dou_ne hu) (du_of (de_ix (de_var 0) de_int)) (du_of de_str) (nomark _) no_ne) (de_one (de_cmpU (dou_eq hu) (du_of (de_var 0)) (du_of de_str) (nomark _) no_eq))) da_nil) (hn := (cntS cnt0))))
    (sds_ret (de_callTu dcu_int nox_int boot_int (dua_cons (du_of (de_var 0)) dua_nil) B.int)))))
abbrev s_number_in : Stmt := topS 12
theorem sc_number_in : FnScope ["word"] ["word"] (defScope s_number_in) := ⟨rfl, rfl, rfl, by decide +kernel, rfl, by decide +kernel, by decide +kernel⟩
theorem ok_number_in (B : Bt mg) (c_count_in : Cal P wd K mg base ad 2 "count_in" 1 .fz F_count_in) (c_sure : Cal P wd K mg base ad 1 "sure" 1 .fz F_sure) (F : L2.Fun K "number_in" "number_in" s_number_in f fd) (hm : mg "number_in" = some (.ref f)) (hb : Binds K fd ["word"] []) : Cal P wd K mg base ad 3 "number_in" 1 .fz F_number_in :=
  have nd := sc_number_in.nd
  cal_mk (G' := []) 0 [] F hm hb sc_number_in rfl rfl (by first | exact .inl rfl | exact .inr ⟨rfl, rfl⟩) fun cdv A outer s H E hr tk po => by
  have hu := hr.units
  have hu5 := units5 hr
  exact (sds_cons (sd_if (dt_cmpU (dou_ne hu) (du_of (de_slA (de_var 0) dp_no (dp_so de_int))) (du_of de_str) (nomark _) no_ne)
    (sds_ret (de_call c_count_in hr (by decide) tk (da_cons (de_var 0) da_nil) (hn := (cntS cnt0))))
    sds_nil)
    (sds_cons (sd_drop (de_call c_sure hr (by decide) tk (da_cons (de_cmpU (dou_ne hu) (du_of (de_var 0)) (du_of de_str) (nomark _) no_ne) da_nil) (hn := (cntS cnt0))))
    (sds_ret (de_op dop_sub de_int (de_call c_count_in hr (by decide) tk (da_cons (de_slA (de_var 0) (dp_so de_int) dp_no) da_nil) (hn := (cntS cnt0))) no_sub))))
abbrev s_row_shown : Stmt := topS 13
theorem sc_row_shown : FnScope ["row", "price"] ["row"] (defScope s_row_shown) := ⟨rfl, rfl, rfl, by decide +kernel, rfl, by decide +kernel, by decide +kernel⟩
theorem ok_row_shown (B : Bt mg) (F : L2.Fun K "row_shown" "row_shown" s_row_shown f fd) (hm : mg "row_shown" = some (.ref f)) (hb : Binds K fd ["row"] []) : Cal P wd K mg base ad 1 "row_shown" 1 .fz F_row_shown :=
  have nd := sc_row_shown.nd
  cal_mk (G' := []) 1 [] F hm hb sc_row_shown rfl rfl (by first | exact .inl rfl | exact .inr ⟨rfl, rfl⟩) fun cdv A outer s H E hr tk po => by
  have hu := hr.units
  have hu5 := units5 hr
  exact (sds_ret (de_join de_str (du_of (de_lc [("price", 1)] rfl nd (by kernel_rfl) (dj_of (di_seq (de_var 0))) (fun _ _ _ _ _ => (dg_name 1 nd)) (fun _ _ _ _ _ => dts_nil) (fun _ _ _ _ _ => (de_callTu dcu_str nox_str boot_str (dua_cons (du_of (de_var 1)) dua_nil) B.str))))))
abbrev s_row_in : Stmt := topS 14
theorem sc_row_in : FnScope ["word", "parts", "part"] ["word"] (defScope s_row_in) := ⟨rfl, rfl, rfl, by decide +kernel, rfl, by decide +kernel, by decide +kernel⟩
theorem ok_row_in (B : Bt mg) (c_number_in : Cal P wd K mg base ad 3 "number_in" 1 .fz F_number_in) (c_sure : Cal P wd K mg base ad 1 "sure" 1 .fz F_sure) (F : L2.Fun K "row_in" "row_in" s_row_in f fd) (hm : mg "row_in" = some (.ref f)) (hb : Binds K fd ["word"] []) : Cal P wd K mg base ad 4 "row_in" 1 .fz F_row_in :=
  have nd := sc_row_in.nd
  cal_mk (G' := []) 2 [] F hm hb sc_row_in rfl rfl (by first | exact .inl rfl | exact .inr ⟨rfl, rfl⟩) fun cdv A outer s H E hr tk po => by
  have hu := hr.units
  have hu5 := units5 hr
  exact (sds_cons (sd_set 1 (de_fz (de_split (de_var 0) de_str)) nd)
    (sds_cons (sd_drop (de_call c_sure hr (by decide) tk (da_cons (de_or (de_cmpU (dou_eq hu) (du_of (de_callBu dcu_len nox_len boot_len (dua_cons (du_of (de_var 1)) dua_nil) B.len)) (du_of de_int) (nomark _) no_eq) (de_one (de_cmpU (dou_eq hu) (du_of (de_callBu dcu_len nox_len boot_len (dua_cons (du_of (de_var 1)) dua_nil) B.len)) (du_of de_int) (nomark _) no_eq))) da_nil) (hn := (cntS cnt0))))
    (sds_ret (de_tupleL (dk_of (de_lc [("part", 2)] rfl nd (by kernel_rfl) (dj_of (di_seq (de_var 1))) (fun _ _ _ _ _ => (dg_name 2 nd)) (fun _ _ _ _ _ => dts_nil) (fun _ _ _ _ _ => (de_call c_number_in hr (by decide) tk0 (da_cons (de_var 2) da_nil) (hn := (cntS cnt0)))))) B.tuple))))
abbrev s_show_stair : Stmt := topS 15
theorem sc_show_stair : FnScope ["stair", "row"] ["stair"] (defScope s_show_stair) := ⟨rfl, rfl, rfl, by decide +kernel, rfl, by decide +kernel, by decide +kernel⟩
theorem ok_show_stair (B : Bt mg) (c_row_shown : Cal P wd K mg base ad 1 "row_shown" 1 .fz F_row_shown) (F : L2.Fun K "show_stair" "show_stair" s_show_stair f fd) (hm : mg "show_stair" = some (.ref f)) (hb : Binds K fd ["stair"] []) : Cal P wd K mg base ad 2 "show_stair" 1 .fz F_show_stair :=
  have nd := sc_show_stair.nd
  cal_mk (G' := []) 1 [] F hm hb sc_show_stair rfl rfl (by first | exact .inl rfl | exact .inr ⟨rfl, rfl⟩) fun cdv A outer s H E hr tk po => by
  have hu := hr.units
  have hu5 := units5 hr
  exact (sds_cons (sd_if (dt_cmpU (dou_eq hu) (du_of (de_var 0)) (du_of (de_lst da_nil cnt0)) (nomark _) no_eq)
    (sds_ret de_str)
    sds_nil)
    (sds_ret (de_join de_str (du_of (de_lc [("row", 1)] rfl nd (by kernel_rfl) (dj_of (di_seq (de_var 0))) (fun _ _ _ _ _ => (dg_name 1 nd)) (fun _ _ _ _ _ => dts_nil) (fun _ _ _ _ _ => (de_call c_row_shown hr (by decide) tk0 (da_cons (de_var 1) da_nil) (hn := (cntS cnt0)))))))))
abbrev s_read_stair : Stmt := topS 16
theorem sc_read_stair : FnScope ["text", "rows", "row", "word"] ["text"] (defScope s_read_stair) := ⟨rfl, rfl, rfl, by decide +kernel, rfl, by decide +kernel, by decide +kernel⟩
theorem ok_read_stair (B : Bt mg) (c_is_stair : Cal P wd K mg base ad 3 "is_stair" 1 .fz F_is_stair) (c_row_in : Cal P wd K mg base ad 4 "row_in" 1 .fz F_row_in) (c_sure : Cal P wd K mg base ad 1 "sure" 1 .fz F_sure) (F : L2.Fun K "read_stair" "read_stair" s_read_stair f fd) (hm : mg "read_stair" = some (.ref f)) (hb : Binds K fd ["text"] []) : Cal P wd K mg base ad 5 "read_stair" 1 (.own .fz) F_read_stair :=
  have nd := sc_read_stair.nd
  cal_mk (G' := []) 3 [(1, .own .fz)] F hm hb sc_read_stair rfl rfl (by first | exact .inl rfl | exact .inr ⟨rfl, rfl⟩) fun cdv A outer s H E hr tk po => by
  have hu := hr.units
  have hu5 := units5 hr
  exact (sds_cons (sd_if (dt_cmpU (dou_eq hu) (du_of (de_var 0)) (du_of de_str) (nomark _) no_eq)
    (sds_ret (de_lst da_nil cnt0))
    sds_nil)
    (sds_cons (sd_setLc 1 [("word", 3)] rfl nd (by kernel_rfl) (dj_of (di_seq (de_fz (de_split (de_var 0) de_str)))) (fun _ _ _ _ _ => (dg_name 3 nd)) (fun _ _ _ _ _ => dts_nil) (fun _ _ _ _ _ => (de_call c_row_in hr (by decide) tk0 (da_cons (de_var 3) da_nil) (hn := (cntS cnt0)))) (sw_true rfl rfl rfl (by decide +kernel)))
    (sds_cons (sd_forP 1 po rfl (fun _ => (dg_name 2 nd)) fun _ =>
    (sds_one (sd_drop (de_up (de_call c_sure hr (by decide) tk (da_cons (de_cmpU (dou_eq hu) (du_of (de_callBu dcu_len nox_len boot_len (dua_cons (du_of (de_var 2)) dua_nil) B.len)) (du_of (de_callBu dcu_len nox_len boot_len (dua_cons (du_of (de_ixK (dk_own 1) de_int)) dua_nil) B.len)) (nomark _) no_eq) da_nil) (hn := (cntS cnt0)))))))
    (sds_cons (sd_drop (de_call c_sure hr (by decide) tk (da_cons (de_callL c_is_stair hr (by decide) tk (dua_cons (du_var 1) dua_nil) (hn := (cntS cnt0))) da_nil) (hn := (cntS cnt0))))
    (sds_retO 1)))))
abbrev s_show_way : Stmt := topS 17
theorem sc_show_way : FnScope ["way", "step"] ["way"] (defScope s_show_way) := ⟨rfl, rfl, rfl, by decide +kernel, rfl, by decide +kernel, by decide +kernel⟩
theorem ok_show_way (B : Bt mg) (F : L2.Fun K "show_way" "show_way" s_show_way f fd) (hm : mg "show_way" = some (.ref f)) (hb : Binds K fd ["way"] []) : Cal P wd K mg base ad 1 "show_way" 1 .fz F_show_way :=
  have nd := sc_show_way.nd
  cal_mk (G' := []) 1 [] F hm hb sc_show_way rfl rfl (by first | exact .inl rfl | exact .inr ⟨rfl, rfl⟩) fun cdv A outer s H E hr tk po => by
  have hu := hr.units
  have hu5 := units5 hr
  exact (sds_cons (sd_if (dt_cmpU (dou_eq hu) (du_of (de_var 0)) (du_of (de_lst da_nil cnt0)) (nomark _) no_eq)
    (sds_ret de_str)
    sds_nil)
    (sds_ret (de_join de_str (du_of (de_lc [("step", 1)] rfl nd (by kernel_rfl) (dj_of (di_seq (de_var 0))) (fun _ _ _ _ _ => (dg_name 1 nd)) (fun _ _ _ _ _ => dts_nil) (fun _ _ _ _ _ => (de_callTu dcu_str nox_str boot_str (dua_cons (du_of (de_var 1)) dua_nil) B.str)))))))
abbrev s_read_way : Stmt := topS 18
theorem sc_read_way : FnScope ["text", "word"] ["text"] (defScope s_read_way) := ⟨rfl, rfl, rfl, by decide +kernel, rfl, by decide +kernel, by decide +kernel⟩
theorem ok_read_way (B : Bt mg) (c_count_in : Cal P wd K mg base ad 2 "count_in" 1 .fz F_count_in) (F : L2.Fun K "read_way" "read_way" s_read_way f fd) (hm : mg "read_way" = some (.ref f)) (hb : Binds K fd ["text"] []) : Cal P wd K mg base ad 3 "read_way" 1 (.own .fz) F_read_way :=
  have nd := sc_read_way.nd
  cal_mk (G' := []) 1 [] F hm hb sc_read_way rfl rfl (by first | exact .inl rfl | exact .inr ⟨rfl, rfl⟩) fun cdv A outer s H E hr tk po => by
  have hu := hr.units
  have hu5 := units5 hr
  exact (sds_cons (sd_if (dt_cmpU (dou_eq hu) (du_of (de_var 0)) (du_of de_str) (nomark _) no_eq)
    (sds_ret (de_lst da_nil cnt0))
    sds_nil)
    (sds_ret (de_lc [("word", 1)] rfl nd (by kernel_rfl) (dj_of (di_seq (de_fz (de_split (de_var 0) de_str)))) (fun _ _ _ _ _ => (dg_name 1 nd)) (fun _ _ _ _ _ => dts_nil) (fun _ _ _ _ _ => (de_call c_count_in hr (by decide) tk0 (da_cons (de_var 1) da_nil) (hn := (cntS cnt0)))))))
abbrev s__law_cell_at : Stmt := topS 20
theorem sc__law_cell_at : FnScope ["_law_script", "_law_k"] ["_law_script", "_law_k"] (defScope s__law_cell_at) := ⟨rfl, rfl, rfl, by decide +kernel, rfl, by decide +kernel, by decide +kernel⟩
theorem ok__law_cell_at (B : Bt mg) (F : L2.Fun K "_law_cell_at" "_law_cell_at" s__law_cell_at f fd) (hm : mg "_law_cell_at" = some (.ref f)) (hb : Binds K fd ["_law_script", "_law_k"] []) : Cal P wd K mg base ad 1 "_law_cell_at" 2 .fz F_law_cell_at :=
  have nd := sc__law_cell_at.nd
  cal_mk (G' := []) 0 [] F hm hb sc__law_cell_at rfl rfl (by first | exact .inl rfl | exact .inr ⟨rfl, rfl⟩) fun cdv A outer s H E hr tk po => by
  have hu := hr.units
  have hu5 := units5 hr
  exact (sds_cons (sd_if (dt_cmp dop_lt (de_var 1) (de_callBu dcu_len nox_len boot_len (dua_cons (du_of (de_var 0)) dua_nil) B.len) (nomark _) no_cmp)
    (sds_ret (de_ix (de_var 0) (de_var 1)))
    sds_nil)
    (sds_ret de_int))
abbrev s__law_mix : Stmt := topS 21
theorem sc__law_mix : FnScope ["_law_cell", "_law_k", "_law_time", "_law_number"] ["_law_cell", "_law_k"] (defScope s__law_mix) := ⟨rfl, rfl, rfl, by decide +kernel, rfl, by decide +kernel, by decide +kernel⟩
theorem ok__law_mix (B : Bt mg) (F : L2.Fun K "_law_mix" "_law_mix" s__law_mix f fd) (hm : mg "_law_mix" = some (.ref f)) (hb : Binds K fd ["_law_cell", "_law_k"] []) : Cal P wd K mg base ad 1 "_law_mix" 2 .fz F_law_mix_v2 :=
  have nd := sc__law_mix.nd
  cal_mk (G' := []) 2 [] F hm hb sc__law_mix rfl rfl (by first | exact .inl rfl | exact .inr ⟨rfl, rfl⟩) fun cdv A outer s H E hr tk po => by
  have hu := hr.units
  have hu5 := units5 hr
  exact (sds_cons (sd_if (dt_cmp dop_ge (de_var 0) (de_op dop_pow de_int de_int no_pow) (nomark _) no_cmp)
    (sds_cons (sd_for po rfl (di_range1 (da_cons (de_var 1) da_nil) rfl B.range) (dg_name 2 nd)
    (sds_one (sd_set 0 (de_op dop_div (de_var 0) (de_op dop_pow de_int de_int no_pow) no_div) nd)))
    (sds_ret (de_op dop_mod (de_var 0) (de_op dop_pow de_int de_int no_pow) no_mod)))
    sds_nil)
    (sds_cons (sd_set 3 (de_op dop_mod (de_op dop_mul (de_op dop_add (de_op dop_add (de_op dop_mod (de_var 0) de_int no_mod) (de_op dop_mul (de_op dop_mul (de_var 1) (de_var 1) no_mul) de_int no_mul) no_add) (de_var 1) no_add) de_int no_mul) de_int no_mod) nd)
    (sds_cons (sd_set 3 (de_op dop_mod (de_op dop_mul (de_var 3) (de_var 3) no_mul) de_int no_mod) nd)
    (sds_ret (de_op dop_div (de_op dop_mod (de_op dop_mul (de_var 3) (de_op dop_add (de_var 3) de_int no_add) no_mul) de_int no_mod) de_int no_div)))))
abbrev s__law_whole : Stmt := topS 22
theorem sc__law_whole : FnScope ["_law_found"] ["_law_found"] (defScope s__law_whole) := ⟨rfl, rfl, rfl, by decide +kernel, rfl, by decide +kernel, by decide +kernel⟩
theorem ok__law_whole (B : Bt mg) (F : L2.Fun K "_law_whole" "_law_whole" s__law_whole f fd) (hm : mg "_law_whole" = some (.ref f)) (hb : Binds K fd ["_law_found"] []) : Cal P wd K mg base ad 1 "_law_whole" 1 .fz F_law_whole :=
  have nd := sc__law_whole.nd
  cal_mk (G' := []) 0 [] F hm hb sc__law_whole rfl rfl (by first | exact .inl rfl | exact .inr ⟨rfl, rfl⟩) fun cdv A outer s H E hr tk po => by
  have hu := hr.units
  have hu5 := units5 hr
  exact (sds_ret (de_and (de_isi .int (du_of (de_var 0)) B.isinstance B.int boot_int) (de_one (de_not (de_isi .bool (du_of (de_var 0)) B.isinstance B.bool boot_bool)))))
abbrev s__law_covers : Stmt := topS 23
theorem sc__law_covers : FnScope ["_law_one", "_law_other", "_law_k"] ["_law_one", "_law_other"] (defScope s__law_covers) := ⟨rfl, rfl, rfl, by decide +kernel, rfl, by decide +kernel, by decide +kernel⟩
theorem ok__law_covers (B : Bt mg) (F : L2.Fun K "_law_covers" "_law_covers" s__law_covers f fd) (hm : mg "_law_covers" = some (.ref f)) (hb : Binds K fd ["_law_one", "_law_other"] []) : Cal P wd K mg base ad 1 "_law_covers" 2 .fz F_law_covers_v2 :=
  have nd := sc__law_covers.nd
  cal_mk (G' := []) 1 [] F hm hb sc__law_covers rfl rfl (by first | exact .inl rfl | exact .inr ⟨rfl, rfl⟩) fun cdv A outer s H E hr tk po => by
  have hu := hr.units
  have hu5 := units5 hr
  exact (sds_ret (de_cmpU (dou_eq hu) (du_of (de_callBu dcu_len nox_len boot_len (dua_cons (du_of (de_lc [("_law_k", 2)] rfl nd (by kernel_rfl) (dj_of (di_range1 (da_cons (de_callBu dcu_len nox_len boot_len (dua_cons (du_of (de_var 0)) dua_nil) B.len) da_nil) rfl B.range)) (fun _ _ _ _ _ => (dg_name 2 nd)) (fun _ _ _ _ _ => (dts_one (dt_cmp dop_gt (de_ix (de_var 0) (de_var 2)) (de_ix (de_var 1) (de_var 2)) (nomark _) no_cmp))) (fun _ _ _ _ _ => (de_var 2)))) dua_nil) B.len)) (du_of de_int) (nomark _) no_eq))
abbrev s__law_stair_of : Stmt := topS 24
theorem sc__law_stair_of : FnScope ["_law_rows", "_law_found", "_law_row", "_law_one"] ["_law_rows"] (defScope s__law_stair_of) := ⟨rfl, rfl, rfl, by decide +kernel, rfl, by decide +kernel, by decide +kernel⟩
theorem ok__law_stair_of (B : Bt mg) (c__law_covers : Cal P wd K mg base ad 1 "_law_covers" 2 .fz F_law_covers_v2) (F : L2.Fun K "_law_stair_of" "_law_stair_of" s__law_stair_of f fd) (hm : mg "_law_stair_of" = some (.ref f)) (hb : Binds K fd ["_law_rows"] []) : Cal P wd K mg base ad 2 "_law_stair_of" 1 (.own .fz) F_law_stair_of :=
  have nd := sc__law_stair_of.nd
  cal_mk (G' := []) 3 [(1, .own .fz)] F hm hb sc__law_stair_of rfl rfl (by first | exact .inl rfl | exact .inr ⟨rfl, rfl⟩) fun cdv A outer s H E hr tk po => by
  have hu := hr.units
  have hu5 := units5 hr
  exact (sds_cons (sd_set 1 (de_lst da_nil cnt0) nd)
    (sds_cons (sd_for po rfl (di_seq (de_fz (de_sortSet rfl hu (dk_of (de_var 0)) B.sorted B.set))) (dg_name 2 nd)
    (sds_one (sd_if (dt_cmpU (dou_eq hu) (du_of (de_callBu dcu_len nox_len boot_len (dua_cons (du_of (de_lc [("_law_one", 3)] rfl nd (by kernel_rfl) (dj_own 1) (fun _ _ _ _ _ => (dg_name 3 nd)) (fun _ _ _ _ _ => (dts_one (dt_val (de_call c__law_covers hr (by decide) tk0 (da_cons (de_var 3) (da_cons (de_var 2) da_nil)) (hn := (cntS (cntS cnt0))))))) (fun _ _ _ _ _ => (de_var 3)))) dua_nil) B.len)) (du_of de_int) (nomark _) no_eq)
    (sds_one (sd_mut 1 dmt_append PySem.F.slot_list_append PySem.F.type_list_append (da_cons (de_var 2) da_nil)))
    sds_nil)))
    (sds_retO 1)))
abbrev s__law_drawn_stair : Stmt := topS 25
theorem sc__law_drawn_stair : FnScope ["_law_script", "_law_start", "_law_head", "_law_width", "_law_great", "_law_rows", "_law_k", "_law_number", "_law_row", "_law_part"] ["_law_script", "_law_start"] (defScope s__law_drawn_stair) := ⟨rfl, rfl, rfl, by decide +kernel, rfl, by decide +kernel, by decide +kernel⟩
theorem ok__law_drawn_stair (B : Bt mg) (c__law_cell_at : Cal P wd K mg base ad 1 "_law_cell_at" 2 .fz F_law_cell_at) (c__law_mix : Cal P wd K mg base ad 1 "_law_mix" 2 .fz F_law_mix_v2) (c__law_stair_of : Cal P wd K mg base ad 2 "_law_stair_of" 1 (.own .fz) F_law_stair_of) (F : L2.Fun K "_law_drawn_stair" "_law_drawn_stair" s__law_drawn_stair f fd) (hm : mg "_law_drawn_stair" = some (.ref f)) (hb : Binds K fd ["_law_script", "_law_start"] []) : Cal P wd K mg base ad 3 "_law_drawn_stair" 2 (.own .fz) F_law_drawn_stair :=
  have nd := sc__law_drawn_stair.nd
  cal_mk (G' := []) 8 [(5, .own .fz), (8, .own .fz)] F hm hb sc__law_drawn_stair rfl rfl (by first | exact .inl rfl | exact .inr ⟨rfl, rfl⟩) fun cdv A outer s H E hr tk po => by
  have hu := hr.units
  have hu5 := units5 hr
  exact (sds_cons (sd_set 2 (de_call c__law_mix hr (by decide) tk (da_cons (de_call c__law_cell_at hr (by decide) tk (da_cons (de_var 0) (da_cons (de_var 1) da_nil)) (hn := (cntS (cntS cnt0)))) (da_cons de_int da_nil)) (hn := (cntS (cntS cnt0)))) nd)
    (sds_cons (sd_set 3 (de_op dop_add de_int (de_op dop_mod (de_var 2) de_int no_mod) no_add) nd)
    (sds_cons (sd_set 4 (de_ix (de_fz (de_lst (da_cons de_int (da_cons de_int (da_cons de_int (da_cons (de_op dop_pow de_int de_int no_pow) (da_cons de_int (da_cons (de_op dop_pow de_int de_int no_pow) (da_cons de_int (da_cons de_int da_nil)))))))) (cntS (cntS (cntS (cntS (cntS (cntS (cntS (cntS cnt0)))))))))) (de_op dop_mod (de_op dop_div (de_var 2) de_int no_div) de_int no_mod)) nd)
    (sds_cons (sd_set 5 (de_lst da_nil cnt0) nd)
    (sds_cons (sd_for po rfl (di_range1 (da_cons (de_op dop_mod (de_op dop_div (de_var 2) de_int no_div) de_int no_mod) da_nil) rfl B.range) (dg_name 6 nd)
    (sds_cons (sd_set 7 (de_call c__law_mix hr (by decide) tk (da_cons (de_call c__law_cell_at hr (by decide) tk (da_cons (de_var 0) (da_cons (de_op dop_add (de_op dop_add (de_var 1) de_int no_add) (de_op dop_div (de_var 6) de_int no_div) no_add) da_nil)) (hn := (cntS (cntS cnt0)))) (da_cons (de_op dop_mod (de_var 6) de_int no_mod) da_nil)) (hn := (cntS (cntS cnt0)))) nd)
    (sds_cons (sd_setLc 8 [("_law_part", 9)] rfl nd (by kernel_rfl) (dj_of (di_seq (de_slA (de_fz (de_lst (da_cons de_int (da_cons de_int (da_cons de_int da_nil))) (cntS (cntS (cntS cnt0))))) dp_no (dp_so (de_var 3))))) (fun _ _ _ _ _ => (dg_name 9 nd)) (fun _ _ _ _ _ => dts_nil) (fun _ _ _ _ _ => (de_op dop_sub (de_op dop_mul (de_op dop_mod (de_op dop_div (de_var 7) (de_var 9) no_div) de_int no_mod) (de_var 4) no_mul) (de_op dop_mul (de_op dop_mod (de_op dop_div (de_var 2) de_int no_div) de_int no_mod) de_int no_mul) no_sub)) (sw_true rfl rfl rfl (by decide +kernel)))
    (sds_cons (sd_if (dt_cmpU (dou_eq hu) (du_of (de_op dop_mod (de_var 6) de_int no_mod)) (du_of de_int) (nomark _) no_eq)
    (sds_one (sd_setItem 8 (de_op dop_sub (de_op dop_mul de_int (de_var 4) no_mul) (de_ixK (dk_own 8) de_int) no_sub) de_int))
    sds_nil)
    (sds_one (sd_mut 5 dmt_append PySem.F.slot_list_append PySem.F.type_list_append (da_cons (de_tupleL (dk_own 8) B.tuple) da_nil)))))))
    (sds_frz 5 (sds_ret (de_call c__law_stair_of hr (by decide) tk (da_cons (de_var 5) da_nil) (hn := (cntS cnt0))))))))))
abbrev s__law_row_text : Stmt := topS 26
theorem sc__law_row_text : FnScope ["_law_row", "_law_price"] ["_law_row"] (defScope s__law_row_text) := ⟨rfl, rfl, rfl, by decide +kernel, rfl, by decide +kernel, by decide +kernel⟩
theorem ok__law_row_text (B : Bt mg) (F : L2.Fun K "_law_row_text" "_law_row_text" s__law_row_text f fd) (hm : mg "_law_row_text" = some (.ref f)) (hb : Binds K fd ["_law_row"] []) : Cal P wd K mg base ad 1 "_law_row_text" 1 .fz F_law_row_text :=
  have nd := sc__law_row_text.nd
  cal_mk (G' := []) 1 [] F hm hb sc__law_row_text rfl rfl (by first | exact .inl rfl | exact .inr ⟨rfl, rfl⟩) fun cdv A outer s H E hr tk po => by
  have hu := hr.units
  have hu5 := units5 hr
  exact (sds_ret (de_join de_str (du_of (de_lc [("_law_price", 1)] rfl nd (by kernel_rfl) (dj_of (di_seq (de_var 0))) (fun _ _ _ _ _ => (dg_name 1 nd)) (fun _ _ _ _ _ => dts_nil) (fun _ _ _ _ _ => (de_callTu dcu_str nox_str boot_str (dua_cons (du_of (de_var 1)) dua_nil) B.str))))))
abbrev s__law_stair_text : Stmt := topS 27
theorem sc__law_stair_text : FnScope ["_law_stair", "_law_row"] ["_law_stair"] (defScope s__law_stair_text) := ⟨rfl, rfl, rfl, by decide +kernel, rfl, by decide +kernel, by decide +kernel⟩
theorem ok__law_stair_text (B : Bt mg) (c__law_row_text : Cal P wd K mg base ad 1 "_law_row_text" 1 .fz F_law_row_text) (F : L2.Fun K "_law_stair_text" "_law_stair_text" s__law_stair_text f fd) (hm : mg "_law_stair_text" = some (.ref f)) (hb : Binds K fd ["_law_stair"] []) : Cal P wd K mg base ad 2 "_law_stair_text" 1 .fz F_law_stair_text :=
  have nd := sc__law_stair_text.nd
  cal_mk (G' := []) 1 [] F hm hb sc__law_stair_text rfl rfl (by first | exact .inl rfl | exact .inr ⟨rfl, rfl⟩) fun cdv A outer s H E hr tk po => by
  have hu := hr.units
  have hu5 := units5 hr
  exact (sds_ret (de_op dop_add (de_join de_str (du_of (de_lc [("_law_row", 1)] rfl nd (by kernel_rfl) (dj_of (di_seq (de_var 0))) (fun _ _ _ _ _ => (dg_name 1 nd)) (fun _ _ _ _ _ => dts_nil) (fun _ _ _ _ _ => (de_call c__law_row_text hr (by decide) tk0 (da_cons (de_var 1) da_nil) (hn := (cntS cnt0))))))) (de_op dop_mulS de_str (de_callTu dcu_int nox_int boot_int (dua_cons (du_of (de_cmpU (dou_eq hu) (du_of (de_var 0)) (du_of (de_lst da_nil cnt0)) (nomark _) no_eq)) dua_nil) B.int) no_mulS) no_add))
abbrev s__law_way_text : Stmt := topS 28
theorem sc__law_way_text : FnScope ["_law_way", "_law_step"] ["_law_way"] (defScope s__law_way_text) := ⟨rfl, rfl, rfl, by decide +kernel, rfl, by decide +kernel, by decide +kernel⟩
theorem ok__law_way_text (B : Bt mg) (F : L2.Fun K "_law_way_text" "_law_way_text" s__law_way_text f fd) (hm : mg "_law_way_text" = some (.ref f)) (hb : Binds K fd ["_law_way"] []) : Cal P wd K mg base ad 1 "_law_way_text" 1 .fz F_law_way_text :=
  have nd := sc__law_way_text.nd
  cal_mk (G' := []) 1 [] F hm hb sc__law_way_text rfl rfl (by first | exact .inl rfl | exact .inr ⟨rfl, rfl⟩) fun cdv A outer s H E hr tk po => by
  have hu := hr.units
  have hu5 := units5 hr
  exact (sds_ret (de_op dop_add (de_join de_str (du_of (de_lc [("_law_step", 1)] rfl nd (by kernel_rfl) (dj_of (di_seq (de_var 0))) (fun _ _ _ _ _ => (dg_name 1 nd)) (fun _ _ _ _ _ => dts_nil) (fun _ _ _ _ _ => (de_callTu dcu_str nox_str boot_str (dua_cons (du_of (de_var 1)) dua_nil) B.str))))) (de_op dop_mulS de_str (de_callTu dcu_int nox_int boot_int (dua_cons (du_of (de_cmpU (dou_eq hu) (du_of (de_var 0)) (du_of (de_lst da_nil cnt0)) (nomark _) no_eq)) dua_nil) B.int) no_mulS) no_add))
abbrev s__law_same : Stmt := topS 29
theorem sc__law_same : FnScope ["_law_found", "_law_stair", "_law_way", "_law_numbers", "_law_row", "_law_number"] ["_law_found", "_law_stair", "_law_way"] (defScope s__law_same) := ⟨rfl, rfl, rfl, by decide +kernel, rfl, by decide +kernel, by decide +kernel⟩
theorem ok__law_same (B : Bt mg) (c__law_whole : Cal P wd K mg base ad 1 "_law_whole" 1 .fz F_law_whole) (F : L2.Fun K "_law_same" "_law_same" s__law_same f fd) (hm : mg "_law_same" = some (.ref f)) (hb : Binds K fd ["_law_found", "_law_stair", "_law_way"] []) : Cal P wd K mg base ad 2 "_law_same" 3 .fz F_law_same_v2 :=
  have nd := sc__law_same.nd
  cal_mk (G' := []) 3 [(3, .own .fz)] F hm hb sc__law_same rfl rfl (by first | exact .inl rfl | exact .inr ⟨rfl, rfl⟩) fun cdv A outer s H E hr tk po => by
  have hu := hr.units
  have hu5 := units5 hr
  exact (sds_cons (sd_if (dw_dt (dw_or (dt_cmpU (dou_ne hu) (du_of (de_ix (de_var 0) de_int)) (du_of (de_var 1)) (nomark _) no_ne) (dw_or (dt_cmpU (dou_ne hu) (du_of (de_ix (de_var 0) de_int)) (du_of (de_var 2)) (nomark _) no_ne) (dw_or (dt_not (dt_val (de_isi .list (du_of (de_ix (de_var 0) de_int)) B.isinstance B.list boot_list))) (dw_or1 (dt_not (dt_val (de_isi .list (du_of (de_ix (de_var 0) de_int)) B.isinstance B.list boot_list))))))))
    (sds_ret de_bl)
    sds_nil)
    (sds_cons (sd_set 3 (de_listA (de_ix (de_var 0) de_int) B.list) nd)
    (sds_cons (sd_for po rfl (di_seq (de_ix (de_var 0) de_int)) (dg_name 4 nd)
    (sds_cons (sd_if (dt_not (dt_val (de_isi .tuple (du_of (de_var 4)) B.isinstance B.tuple boot_tuple)))
    (sds_ret de_bl)
    sds_nil)
    (sds_one (sd_mut 3 dmt_extT PySem.F.slot_list_extend PySem.F.type_list_extend (da_cons (de_var 4) da_nil)))))
    (sds_ret (de_cmpU (dou_eq hu) (du_of (de_callBu dcu_len nox_len boot_len (dua_cons (du_of (de_lc [("_law_number", 5)] rfl nd (by kernel_rfl) (dj_own 3) (fun _ _ _ _ _ => (dg_name 5 nd)) (fun _ _ _ _ _ => (dts_one (dt_not (dt_val (de_call c__law_whole hr (by decide) tk0 (da_cons (de_var 5) da_nil) (hn := (cntS cnt0))))))) (fun _ _ _ _ _ => (de_var 5)))) dua_nil) B.len)) (du_of de_int) (nomark _) no_eq)))))
abbrev s__law_good : Stmt := topS 30
theorem sc__law_good : FnScope ["_law_stair", "_law_way", "_law_handed", "_law_texts", "_law_found", "_law_time", "_law_again"] ["_law_stair", "_law_way"] (defScope s__law_good) := ⟨rfl, rfl, rfl, by decide +kernel, rfl, by decide +kernel, by decide +kernel⟩
theorem ok__law_good (B : Bt mg) (c__law_same : Cal P wd K mg base ad 2 "_law_same" 3 .fz F_law_same_v2) (c__law_stair_text : Cal P wd K mg base ad 2 "_law_stair_text" 1 .fz F_law_stair_text) (c__law_way_text : Cal P wd K mg base ad 1 "_law_way_text" 1 .fz F_law_way_text) (c_read_stair : Cal P wd K mg base ad 5 "read_stair" 1 (.own .fz) F_read_stair) (c_read_way : Cal P wd K mg base ad 3 "read_way" 1 (.own .fz) F_read_way) (c_show_stair : Cal P wd K mg base ad 2 "show_stair" 1 .fz F_show_stair) (c_show_way : Cal P wd K mg base ad 1 "show_way" 1 .fz F_show_way) (F : L2.Fun K "_law_good" "_law_good" s__law_good f fd) (hm : mg "_law_good" = some (.ref f)) (hb : Binds K fd ["_law_stair", "_law_way"] []) : Cal P wd K mg base ad 6 "_law_good" 2 .fz F_law_good_v2 :=
  have nd := sc__law_good.nd
  cal_mk (G' := []) 5 [(6, .own (.own .fz))] F hm hb sc__law_good rfl rfl (by first | exact .inl rfl | exact .inr ⟨rfl, rfl⟩) fun cdv A outer s H E hr tk po => by
  have hu := hr.units
  have hu5 := units5 hr
  exact (sds_cons (sd_set 2 (de_fz (de_lst (da_cons (de_fz (de_listA (de_var 0) B.list)) (da_cons (de_fz (de_listA (de_var 1) B.list)) da_nil)) (cntS (cntS cnt0)))) nd)
    (sds_cons (sd_set 3 (de_fz (de_lst (da_cons (de_call c__law_stair_text hr (by decide) tk (da_cons (de_var 0) da_nil) (hn := (cntS cnt0))) (da_cons (de_call c__law_way_text hr (by decide) tk (da_cons (de_var 1) da_nil) (hn := (cntS cnt0))) da_nil)) (cntS (cntS cnt0)))) nd)
    (sds_cons (sd_set 4 (de_fz (de_lst (da_cons (de_call c_show_stair hr (by decide) tk (da_cons (de_ix (de_var 2) de_int) da_nil) (hn := (cntS cnt0))) (da_cons (de_call c_show_way hr (by decide) tk (da_cons (de_ix (de_var 2) de_int) da_nil) (hn := (cntS cnt0))) da_nil)) (cntS (cntS cnt0)))) nd)
    (sds_cons (sd_if (dw_dt (dw_or (dt_not (dt_val (de_isi .str (du_of (de_ix (de_var 4) de_int)) B.isinstance B.str boot_str))) (dw_or (dt_not (dt_val (de_isi .str (du_of (de_ix (de_var 4) de_int)) B.isinstance B.str boot_str))) (dw_or (dt_cmpU (dou_ne hu) (du_of (de_var 4)) (du_of (de_var 3)) (nomark _) no_ne) (dw_or1 (dt_cmpU (dou_ne hu) (du_of (de_var 2)) (du_of (de_lst (da_cons (de_var 0) (da_cons (de_var 1) da_nil)) (cntS (cntS cnt0)))) (nomark _) no_ne))))))
    (sds_ret de_bl)
    sds_nil)
    (sds_cons (sd_for po rfl (di_range1 (da_cons de_int da_nil) rfl B.range) (dg_name 5 nd)
    (sds_cons (sd_set 6 (de_lstO (das_cons (de_call c_read_stair hr (by decide) tk (da_cons (de_ix (de_var 3) de_int) da_nil) (hn := (cntS cnt0))) (das_cons (de_call c_read_way hr (by decide) tk (da_cons (de_ix (de_var 3) de_int) da_nil) (hn := (cntS cnt0))) das_nil)) (cntS (cntS cnt0))) nd)
    (sds_cons (sd_if (dt_not (dt_val (de_callL c__law_same hr (by decide) tk (dua_cons (du_var 6) (dua_cons (du_of (de_var 0)) (dua_cons (du_of (de_var 1)) dua_nil))) (hn := (cntS (cntS (cntS cnt0)))))))
    (sds_ret de_bl)
    sds_nil)
    (sds_cons (sd_mutN 6 0 dmt_append PySem.F.slot_list_append PySem.F.type_list_append (da_cons (de_tup (da_cons de_int (da_cons de_int da_nil)) (cntS (cntS cnt0))) da_nil))
    (sds_one (sd_mutN 6 1 dmt_append PySem.F.slot_list_append PySem.F.type_list_append (da_cons de_int da_nil)))))))
    (sds_ret de_bl))))))
abbrev s__law_cut : Stmt := topS 31
theorem sc__law_cut : FnScope ["_law_script", "_law_most", "_law_cell"] ["_law_script"] (defScope s__law_cut) := ⟨rfl, rfl, rfl, by decide +kernel, rfl, by decide +kernel, by decide +kernel⟩
theorem ok__law_cut (B : Bt mg) (F : L2.Fun K "_law_cut" "_law_cut" s__law_cut f fd) (hm : mg "_law_cut" = some (.ref f)) (hb : Binds K fd ["_law_script"] []) : Cal P wd K mg base ad 1 "_law_cut" 1 (.own .fz) F_law_cut :=
  have nd := sc__law_cut.nd
  cal_mk (G' := []) 2 [] F hm hb sc__law_cut rfl rfl (by first | exact .inl rfl | exact .inr ⟨rfl, rfl⟩) fun cdv A outer s H E hr tk po => by
  have hu := hr.units
  have hu5 := units5 hr
  exact (sds_cons (sd_set 1 (de_op dop_pow (de_op dop_pow de_int de_int no_pow) de_int no_pow) nd)
    (sds_ret (de_lc [("_law_cell", 2)] rfl nd (by kernel_rfl) (dj_of (di_seq (de_var 0))) (fun _ _ _ _ _ => (dg_name 2 nd)) (fun _ _ _ _ _ => dts_nil) (fun _ _ _ _ _ => (de_ix (de_fz (de_lst (da_cons (de_var 2) (da_cons (de_op dop_add (de_var 1) (de_op dop_mod (de_var 2) (de_var 1) no_mod) no_add) da_nil)) (cntS (cntS cnt0)))) (de_callTu dcu_int nox_int boot_int (dua_cons (du_of (de_cmp dop_ge (de_var 2) (de_var 1) (nomark _) no_cmp)) dua_nil) B.int))))))
abbrev s__law_long_right : Stmt := topS 32
theorem sc__law_long_right : FnScope ["_law_great", "_law_stair", "_law_rows", "_law_k"] [] (defScope s__law_long_right) := ⟨rfl, rfl, rfl, by decide +kernel, rfl, by decide +kernel, by decide +kernel⟩
theorem ok__law_long_right (B : Bt mg) (c__law_good : Cal P wd K mg base ad 6 "_law_good" 2 .fz F_law_good_v2) (c__law_stair_text : Cal P wd K mg base ad 2 "_law_stair_text" 1 .fz F_law_stair_text) (c_read_stair : Cal P wd K mg base ad 5 "read_stair" 1 (.own .fz) F_read_stair) (F : L2.Fun K "_law_long_right" "_law_long_right" s__law_long_right f fd) (hm : mg "_law_long_right" = some (.ref f)) (hb : Binds K fd [] []) : Cal P wd K mg base ad 7 "_law_long_right" 0 .fz F_law_long_right :=
  have nd := sc__law_long_right.nd
  cal_mk (G' := []) 4 [] F hm hb sc__law_long_right rfl rfl (by first | exact .inl rfl | exact .inr ⟨rfl, rfl⟩) fun cdv A outer s H E hr tk po => by
  have hu := hr.units
  have hu5 := units5 hr
  exact (sds_cons (sd_set 0 (de_op dop_pow de_int de_int no_pow) nd)
    (sds_cons (sd_setLcF 1 [("_law_k", 3)] rfl nd (by kernel_rfl) (dj_of (di_range1 (da_cons de_int da_nil) rfl B.range)) (fun _ _ _ _ _ => (dg_name 3 nd)) (fun _ _ _ _ _ => dts_nil) (fun _ _ _ _ _ => (de_tup (da_cons (de_op dop_add (de_var 0) (de_var 3) no_add) (da_cons (de_op dop_sub (de_op dop_add (de_var 0) de_int no_add) (de_var 3) no_sub) (da_cons (de_var 0) da_nil))) (cntS (cntS (cntS cnt0))))) (sw_true rfl rfl rfl (by decide +kernel)))
    (sds_cons (sd_if (dt_not (dt_val (de_call c__law_good hr (by decide) tk (da_cons (de_var 1) (da_cons (de_fz (de_lc [("_law_k", 3)] rfl nd (by kernel_rfl) (dj_of (di_range1 (da_cons de_int da_nil) rfl B.range)) (fun _ _ _ _ _ => (dg_name 3 nd)) (fun _ _ _ _ _ => dts_nil) (fun _ _ _ _ _ => (de_op dop_mod (de_op dop_mul (de_var 3) de_int no_mul) de_int no_mod)))) da_nil)) (hn := (cntS (cntS cnt0))))))
    (sds_ret de_bl)
    sds_nil)
    (sds_cons (sd_setLcF 2 [("_law_k", 3)] rfl nd (by kernel_rfl) (dj_of (di_range1 (da_cons de_int da_nil) rfl B.range)) (fun _ _ _ _ _ => (dg_name 3 nd)) (fun _ _ _ _ _ => dts_nil) (fun _ _ _ _ _ => (de_tup (da_cons (de_var 3) (da_cons (de_op dop_sub de_int (de_var 3) no_sub) da_nil)) (cntS (cntS cnt0)))) (sw_true rfl rfl rfl (by decide +kernel)))
    (sds_ret (de_cmpU (dou_eq hu) (du_of (de_call c_read_stair hr (by decide) tk (da_cons (de_call c__law_stair_text hr (by decide) tk (da_cons (de_var 2) da_nil) (hn := (cntS cnt0))) da_nil) (hn := (cntS cnt0)))) (du_of (de_var 2)) (nomark _) no_eq))))))
abbrev s_law : Stmt := topS 33
theorem sc_law : FnScope ["_law_script", "_law_some", "_law_start", "_law_number", "_law_way", "_law_first", "_law_stair", "_law_k"] ["_law_script"] (defScope s_law) := ⟨rfl, rfl, rfl, by decide +kernel, rfl, by decide +kernel, by decide +kernel⟩
theorem ok_law (B : Bt mg) (c__law_cell_at : Cal P wd K mg base ad 1 "_law_cell_at" 2 .fz F_law_cell_at) (c__law_cut : Cal P wd K mg base ad 1 "_law_cut" 1 (.own .fz) F_law_cut) (c__law_drawn_stair : Cal P wd K mg base ad 3 "_law_drawn_stair" 2 (.own .fz) F_law_drawn_stair) (c__law_good : Cal P wd K mg base ad 6 "_law_good" 2 .fz F_law_good_v2) (c__law_long_right : Cal P wd K mg base ad 7 "_law_long_right" 0 .fz F_law_long_right) (c__law_mix : Cal P wd K mg base ad 1 "_law_mix" 2 .fz F_law_mix_v2) (c__law_same : Cal P wd K mg base ad 2 "_law_same" 3 .fz F_law_same_v2) (c__law_stair_text : Cal P wd K mg base ad 2 "_law_stair_text" 1 .fz F_law_stair_text) (c__law_way_text : Cal P wd K mg base ad 1 "_law_way_text" 1 .fz F_law_way_text) (c_read_stair : Cal P wd K mg base ad 5 "read_stair" 1 (.own .fz) F_read_stair) (c_read_way : Cal P wd K mg base ad 3 "read_way" 1 (.own .fz) F_read_way) (F : L2.Fun K "law" "law" s_law f fd) : FnOk P wd K mg base (L2.CX P wd) 8 f fd ["_law_script"] (spD K ad 1 .fz F_law_k72) :=
  have nd := sc_law.nd
  fn_mk (G' := []) 7 [(1, .own .fz)] F sc_law rfl rfl (by first | exact .inl rfl | exact .inr ⟨rfl, rfl⟩) fun cdv A outer s H E hr tk po => by
  have hu := hr.units
  have hu5 := units5 hr
  exact (sds_cons (sd_set 0 (de_fz (de_call c__law_cut hr (by decide) tk (da_cons (de_var 0) da_nil) (hn := (cntS cnt0)))) nd)
    (sds_cons (sd_if (dt_not (dt_val (de_call0 c__law_long_right hr (by decide) tk)))
    (sds_ret de_bl)
    sds_nil)
    (sds_cons (sd_set 1 (de_lst da_nil cnt0) nd)
    (sds_cons (sd_for po rfl (di_seq (de_fz (de_lst (da_cons de_int (da_cons de_int da_nil)) (cntS (cntS cnt0))))) (dg_name 2 nd)
    (sds_cons (sd_set 3 (de_call c__law_mix hr (by decide) tk (da_cons (de_call c__law_cell_at hr (by decide) tk (da_cons (de_var 0) (da_cons (de_op dop_add (de_var 2) de_int no_add) da_nil)) (hn := (cntS (cntS cnt0)))) (da_cons de_int da_nil)) (hn := (cntS (cntS cnt0)))) nd)
    (sds_cons (sd_setLcF 4 [("_law_k", 7)] rfl nd (by kernel_rfl) (dj_of (di_range1 (da_cons (de_op dop_mod (de_var 3) de_int no_mod) da_nil) rfl B.range)) (fun _ _ _ _ _ => (dg_name 7 nd)) (fun _ _ _ _ _ => dts_nil) (fun _ _ _ _ _ => (de_op dop_mod (de_call c__law_mix hr (by decide) tk0 (da_cons (de_var 3) (da_cons (de_var 7) da_nil)) (hn := (cntS (cntS cnt0)))) de_int no_mod)) (sw_true rfl rfl rfl (by decide +kernel)))
    (sds_one (sd_mut 1 dmt_append PySem.F.slot_list_append PySem.F.type_list_append (da_cons (de_tup (da_cons (de_fz (de_call c__law_drawn_stair hr (by decide) tk (da_cons (de_var 0) (da_cons (de_var 2) da_nil)) (hn := (cntS (cntS cnt0))))) (da_cons (de_var 4) da_nil)) (cntS (cntS cnt0))) da_nil))))))
    (sds_cons (sd_set 5 (de_fz (de_lst (da_cons (de_fz (de_call c_read_stair hr (by decide) tk (da_cons (de_call c__law_stair_text hr (by decide) tk (da_cons (de_ix (de_ixK (dk_own 1) de_int) de_int) da_nil) (hn := (cntS cnt0))) da_nil) (hn := (cntS cnt0)))) (da_cons (de_fz (de_call c_read_way hr (by decide) tk (da_cons (de_call c__law_way_text hr (by decide) tk (da_cons (de_ix (de_ixK (dk_own 1) de_int) de_int) da_nil) (hn := (cntS cnt0))) da_nil) (hn := (cntS cnt0)))) da_nil)) (cntS (cntS cnt0)))) nd)
    (sds_cons (sd_for po rfl (di_seq (de_fz (de_lst (da_cons (de_ixK (dk_own 1) de_int) (da_cons (de_ixK (dk_own 1) de_int) da_nil)) (cntS (cntS cnt0))))) (dg_tup rfl (cnt_cons (cnt_cons cnt_nil)) (dgs_cons (dg_name 6 nd) (dgs_cons (dg_name 4 nd) dgs_nil)))
    (sds_one (sd_if (dw_dt (dw_or (dt_not (dt_val (de_call c__law_good hr (by decide) tk (da_cons (de_var 6) (da_cons (de_var 4) da_nil)) (hn := (cntS (cntS cnt0)))))) (dw_or1 (dt_not (dt_val (de_call c__law_same hr (by decide) tk (da_cons (de_var 5) (da_cons (de_ix (de_ixK (dk_own 1) de_int) de_int) (da_cons (de_ix (de_ixK (dk_own 1) de_int) de_int) da_nil))) (hn := (cntS (cntS (cntS cnt0))))))))))
    (sds_ret de_bl)
    sds_nil)))
    (sds_ret de_bl)))))))
end
theorem all_mk {P : Program} {w : World} {K : PySem.W.Frag} {h : Heap} {mg : Str → Option Value} {fa f0 f1 f2 f3 f4 f5 f6 f7 f8 f9 f10 f11 f12 f13 f14 f15 f16 f17 f18 f19 f20 f21 f22 f23 f24 f25 C_NoText : Addr} (X : K.In h) (G : h.Ns mainGlobals mg) (hfa : mg "law" = some (.ref fa))
    {od0 an0 od1 an1 od2 an2 od3 an3 od4 an4 od5 an5 od6 an6 od7 an7 od8 an8 od9 an9 od10 an10 od11 an11 od12 an12 od13 an13 od14 an14 od15 an15 od16 an16 od17 an17 od18 an18 od19 an19 od20 an20 od21 an21 od22 an22 od23 an23 od24 an24 od25 an25 : Option Addr} {sl0 sl1 sl2 sl3 sl4 sl5 sl6 sl7 sl8 sl9 sl10 sl11 sl12 sl13 sl14 sl15 sl16 sl17 sl18 sl19 sl20 sl21 sl22 sl23 sl24 sl25 : Array (Option Value)} {oc0 kV0 dc0 pm0 cd0 ct0 oc1 kV1 dc1 pm1 cd1 ct1 oc2 kV2 dc2 pm2 cd2 ct2 oc3 kV3 dc3 pm3 cd3 ct3 oc4 kV4 dc4 pm4 cd4 ct4 oc5 kV5 dc5 pm5 cd5 ct5 oc6 kV6 dc6 pm6 cd6 ct6 oc7 kV7 dc7 pm7 cd7 ct7 oc8 kV8 dc8 pm8 cd8 ct8 oc9 kV9 dc9 pm9 cd9 ct9 oc10 kV10 dc10 pm10 cd10 ct10 oc11 kV11 dc11 pm11 cd11 ct11 oc12 kV12 dc12 pm12 cd12 ct12 oc13 kV13 dc13 pm13 cd13 ct13 oc14 kV14 dc14 pm14 cd14 ct14 oc15 kV15 dc15 pm15 cd15 ct15 oc16 kV16 dc16 pm16 cd16 ct16 oc17 kV17 dc17 pm17 cd17 ct17 oc18 kV18 dc18 pm18 cd18 ct18 oc19 kV19 dc19 pm19 cd19 ct19 oc20 kV20 dc20 pm20 cd20 ct20 oc21 kV21 dc21 pm21 cd21 ct21 oc22 kV22 dc22 pm22 cd22 ct22 oc23 kV23 dc23 pm23 cd23 ct23 oc24 kV24 dc24 pm24 cd24 ct24 oc25 kV25 dc25 pm25 cd25 ct25 : Value}
    {t_FIGURES t_LONGEST : Tok}
    (a0 : PySem.W.nsIn K mainGlobals "covers" = some (some (.ref f0)))
    (l0 : K.lookup f0 = some ⟨oc0, od0, .func (PySem.W.fnOf "covers" "covers" (defArgs s_covers) (defBody s_covers) (defScope s_covers) .none kV0 dc0 pm0 an0 cd0 ct0), sl0⟩)
    (c0 : PySem.W.codeIn K cd0 "covers" = true)
    (k0 : PySem.W.keepIn K (.ref f0) = true)
    (a1 : PySem.W.nsIn K mainGlobals "stair_of" = some (some (.ref f1)))
    (l1 : K.lookup f1 = some ⟨oc1, od1, .func (PySem.W.fnOf "stair_of" "stair_of" (defArgs s_stair_of) (defBody s_stair_of) (defScope s_stair_of) .none kV1 dc1 pm1 an1 cd1 ct1), sl1⟩)
    (c1 : PySem.W.codeIn K cd1 "stair_of" = true)
    (k1 : PySem.W.keepIn K (.ref f1) = true)
    (a2 : PySem.W.nsIn K mainGlobals "is_stair" = some (some (.ref f2)))
    (l2 : K.lookup f2 = some ⟨oc2, od2, .func (PySem.W.fnOf "is_stair" "is_stair" (defArgs s_is_stair) (defBody s_is_stair) (defScope s_is_stair) .none kV2 dc2 pm2 an2 cd2 ct2), sl2⟩)
    (c2 : PySem.W.codeIn K cd2 "is_stair" = true)
    (k2 : PySem.W.keepIn K (.ref f2) = true)
    (a3 : PySem.W.nsIn K mainGlobals "sure" = some (some (.ref f3)))
    (l3 : K.lookup f3 = some ⟨oc3, od3, .func (PySem.W.fnOf "sure" "sure" (defArgs s_sure) (defBody s_sure) (defScope s_sure) .none kV3 dc3 pm3 an3 cd3 ct3), sl3⟩)
    (c3 : PySem.W.codeIn K cd3 "sure" = true)
    (k3 : PySem.W.keepIn K (.ref f3) = true)
    (a4 : PySem.W.nsIn K mainGlobals "count_in" = some (some (.ref f4)))
    (l4 : K.lookup f4 = some ⟨oc4, od4, .func (PySem.W.fnOf "count_in" "count_in" (defArgs s_count_in) (defBody s_count_in) (defScope s_count_in) .none kV4 dc4 pm4 an4 cd4 ct4), sl4⟩)
    (c4 : PySem.W.codeIn K cd4 "count_in" = true)
    (k4 : PySem.W.keepIn K (.ref f4) = true)
    (a5 : PySem.W.nsIn K mainGlobals "number_in" = some (some (.ref f5)))
    (l5 : K.lookup f5 = some ⟨oc5, od5, .func (PySem.W.fnOf "number_in" "number_in" (defArgs s_number_in) (defBody s_number_in) (defScope s_number_in) .none kV5 dc5 pm5 an5 cd5 ct5), sl5⟩)
    (c5 : PySem.W.codeIn K cd5 "number_in" = true)
    (k5 : PySem.W.keepIn K (.ref f5) = true)
    (a6 : PySem.W.nsIn K mainGlobals "row_shown" = some (some (.ref f6)))
    (l6 : K.lookup f6 = some ⟨oc6, od6, .func (PySem.W.fnOf "row_shown" "row_shown" (defArgs s_row_shown) (defBody s_row_shown) (defScope s_row_shown) .none kV6 dc6 pm6 an6 cd6 ct6), sl6⟩)
    (c6 : PySem.W.codeIn K cd6 "row_shown" = true)
    (k6 : PySem.W.keepIn K (.ref f6) = true)
    (a7 : PySem.W.nsIn K mainGlobals "row_in" = some (some (.ref f7)))
    (l7 : K.lookup f7 = some ⟨oc7, od7, .func (PySem.W.fnOf "row_in" "row_in" (defArgs s_row_in) (defBody s_row_in) (defScope s_row_in) .none kV7 dc7 pm7 an7 cd7 ct7), sl7⟩)
    (c7 : PySem.W.codeIn K cd7 "row_in" = true)
    (k7 : PySem.W.keepIn K (.ref f7) = true)
    (a8 : PySem.W.nsIn K mainGlobals "show_stair" = some (some (.ref f8)))
    (l8 : K.lookup f8 = some ⟨oc8, od8, .func (PySem.W.fnOf "show_stair" "show_stair" (defArgs s_show_stair) (defBody s_show_stair) (defScope s_show_stair) .none kV8 dc8 pm8 an8 cd8 ct8), sl8⟩)
    (c8 : PySem.W.codeIn K cd8 "show_stair" = true)
    (k8 : PySem.W.keepIn K (.ref f8) = true)
    (a9 : PySem.W.nsIn K mainGlobals "read_stair" = some (some (.ref f9)))
    (l9 : K.lookup f9 = some ⟨oc9, od9, .func (PySem.W.fnOf "read_stair" "read_stair" (defArgs s_read_stair) (defBody s_read_stair) (defScope s_read_stair) .none kV9 dc9 pm9 an9 cd9 ct9), sl9⟩)
    (c9 : PySem.W.codeIn K cd9 "read_stair" = true)
    (k9 : PySem.W.keepIn K (.ref f9) = true)
    (a10 : PySem.W.nsIn K mainGlobals "show_way" = some (some (.ref f10)))
    (l10 : K.lookup f10 = some ⟨oc10, od10, .func (PySem.W.fnOf "show_way" "show_way" (defArgs s_show_way) (defBody s_show_way) (defScope s_show_way) .none kV10 dc10 pm10 an10 cd10 ct10), sl10⟩)
    (c10 : PySem.W.codeIn K cd10 "show_way" = true)
    (k10 : PySem.W.keepIn K (.ref f10) = true)
    (a11 : PySem.W.nsIn K mainGlobals "read_way" = some (some (.ref f11)))
    (l11 : K.lookup f11 = some ⟨oc11, od11, .func (PySem.W.fnOf "read_way" "read_way" (defArgs s_read_way) (defBody s_read_way) (defScope s_read_way) .none kV11 dc11 pm11 an11 cd11 ct11), sl11⟩)
    (c11 : PySem.W.codeIn K cd11 "read_way" = true)
    (k11 : PySem.W.keepIn K (.ref f11) = true)
    (a12 : PySem.W.nsIn K mainGlobals "_law_cell_at" = some (some (.ref f12)))
    (l12 : K.lookup f12 = some ⟨oc12, od12, .func (PySem.W.fnOf "_law_cell_at" "_law_cell_at" (defArgs s__law_cell_at) (defBody s__law_cell_at) (defScope s__law_cell_at) .none kV12 dc12 pm12 an12 cd12 ct12), sl12⟩)
    (c12 : PySem.W.codeIn K cd12 "_law_cell_at" = true)
    (k12 : PySem.W.keepIn K (.ref f12) = true)
    (a13 : PySem.W.nsIn K mainGlobals "_law_mix" = some (some (.ref f13)))
    (l13 : K.lookup f13 = some ⟨oc13, od13, .func (PySem.W.fnOf "_law_mix" "_law_mix" (defArgs s__law_mix) (defBody s__law_mix) (defScope s__law_mix) .none kV13 dc13 pm13 an13 cd13 ct13), sl13⟩)
    (c13 : PySem.W.codeIn K cd13 "_law_mix" = true)
    (k13 : PySem.W.keepIn K (.ref f13) = true)
    (a14 : PySem.W.nsIn K mainGlobals "_law_whole" = some (some (.ref f14)))
    (l14 : K.lookup f14 = some ⟨oc14, od14, .func (PySem.W.fnOf "_law_whole" "_law_whole" (defArgs s__law_whole) (defBody s__law_whole) (defScope s__law_whole) .none kV14 dc14 pm14 an14 cd14 ct14), sl14⟩)
    (c14 : PySem.W.codeIn K cd14 "_law_whole" = true)
    (k14 : PySem.W.keepIn K (.ref f14) = true)
    (a15 : PySem.W.nsIn K mainGlobals "_law_covers" = some (some (.ref f15)))
    (l15 : K.lookup f15 = some ⟨oc15, od15, .func (PySem.W.fnOf "_law_covers" "_law_covers" (defArgs s__law_covers) (defBody s__law_covers) (defScope s__law_covers) .none kV15 dc15 pm15 an15 cd15 ct15), sl15⟩)
    (c15 : PySem.W.codeIn K cd15 "_law_covers" = true)
    (k15 : PySem.W.keepIn K (.ref f15) = true)
    (a16 : PySem.W.nsIn K mainGlobals "_law_stair_of" = some (some (.ref f16)))
    (l16 : K.lookup f16 = some ⟨oc16, od16, .func (PySem.W.fnOf "_law_stair_of" "_law_stair_of" (defArgs s__law_stair_of) (defBody s__law_stair_of) (defScope s__law_stair_of) .none kV16 dc16 pm16 an16 cd16 ct16), sl16⟩)
    (c16 : PySem.W.codeIn K cd16 "_law_stair_of" = true)
    (k16 : PySem.W.keepIn K (.ref f16) = true)
    (a17 : PySem.W.nsIn K mainGlobals "_law_drawn_stair" = some (some (.ref f17)))
    (l17 : K.lookup f17 = some ⟨oc17, od17, .func (PySem.W.fnOf "_law_drawn_stair" "_law_drawn_stair" (defArgs s__law_drawn_stair) (defBody s__law_drawn_stair) (defScope s__law_drawn_stair) .none kV17 dc17 pm17 an17 cd17 ct17), sl17⟩)
    (c17 : PySem.W.codeIn K cd17 "_law_drawn_stair" = true)
    (k17 : PySem.W.keepIn K (.ref f17) = true)
    (a18 : PySem.W.nsIn K mainGlobals "_law_row_text" = some (some (.ref f18)))
    (l18 : K.lookup f18 = some ⟨oc18, od18, .func (PySem.W.fnOf "_law_row_text" "_law_row_text" (defArgs s__law_row_text) (defBody s__law_row_text) (defScope s__law_row_text) .none kV18 dc18 pm18 an18 cd18 ct18), sl18⟩)
    (c18 : PySem.W.codeIn K cd18 "_law_row_text" = true)
    (k18 : PySem.W.keepIn K (.ref f18) = true)
    (a19 : PySem.W.nsIn K mainGlobals "_law_stair_text" = some (some (.ref f19)))
    (l19 : K.lookup f19 = some ⟨oc19, od19, .func (PySem.W.fnOf "_law_stair_text" "_law_stair_text" (defArgs s__law_stair_text) (defBody s__law_stair_text) (defScope s__law_stair_text) .none kV19 dc19 pm19 an19 cd19 ct19), sl19⟩)
    (c19 : PySem.W.codeIn K cd19 "_law_stair_text" = true)
    (k19 : PySem.W.keepIn K (.ref f19) = true)
    (a20 : PySem.W.nsIn K mainGlobals "_law_way_text" = some (some (.ref f20)))
    (l20 : K.lookup f20 = some ⟨oc20, od20, .func (PySem.W.fnOf "_law_way_text" "_law_way_text" (defArgs s__law_way_text) (defBody s__law_way_text) (defScope s__law_way_text) .none kV20 dc20 pm20 an20 cd20 ct20), sl20⟩)
    (c20 : PySem.W.codeIn K cd20 "_law_way_text" = true)
    (k20 : PySem.W.keepIn K (.ref f20) = true)
    (a21 : PySem.W.nsIn K mainGlobals "_law_same" = some (some (.ref f21)))
    (l21 : K.lookup f21 = some ⟨oc21, od21, .func (PySem.W.fnOf "_law_same" "_law_same" (defArgs s__law_same) (defBody s__law_same) (defScope s__law_same) .none kV21 dc21 pm21 an21 cd21 ct21), sl21⟩)
    (c21 : PySem.W.codeIn K cd21 "_law_same" = true)
    (k21 : PySem.W.keepIn K (.ref f21) = true)
    (a22 : PySem.W.nsIn K mainGlobals "_law_good" = some (some (.ref f22)))
    (l22 : K.lookup f22 = some ⟨oc22, od22, .func (PySem.W.fnOf "_law_good" "_law_good" (defArgs s__law_good) (defBody s__law_good) (defScope s__law_good) .none kV22 dc22 pm22 an22 cd22 ct22), sl22⟩)
    (c22 : PySem.W.codeIn K cd22 "_law_good" = true)
    (k22 : PySem.W.keepIn K (.ref f22) = true)
    (a23 : PySem.W.nsIn K mainGlobals "_law_cut" = some (some (.ref f23)))
    (l23 : K.lookup f23 = some ⟨oc23, od23, .func (PySem.W.fnOf "_law_cut" "_law_cut" (defArgs s__law_cut) (defBody s__law_cut) (defScope s__law_cut) .none kV23 dc23 pm23 an23 cd23 ct23), sl23⟩)
    (c23 : PySem.W.codeIn K cd23 "_law_cut" = true)
    (k23 : PySem.W.keepIn K (.ref f23) = true)
    (a24 : PySem.W.nsIn K mainGlobals "_law_long_right" = some (some (.ref f24)))
    (l24 : K.lookup f24 = some ⟨oc24, od24, .func (PySem.W.fnOf "_law_long_right" "_law_long_right" (defArgs s__law_long_right) (defBody s__law_long_right) (defScope s__law_long_right) .none kV24 dc24 pm24 an24 cd24 ct24), sl24⟩)
    (c24 : PySem.W.codeIn K cd24 "_law_long_right" = true)
    (k24 : PySem.W.keepIn K (.ref f24) = true)
    (a25 : PySem.W.nsIn K mainGlobals "law" = some (some (.ref f25)))
    (l25 : K.lookup f25 = some ⟨oc25, od25, .func (PySem.W.fnOf "law" "law" (defArgs s_law) (defBody s_law) (defScope s_law) .none kV25 dc25 pm25 an25 cd25 ct25), sl25⟩)
    (c25 : PySem.W.codeIn K cd25 "law" = true)
    (k25 : PySem.W.keepIn K (.ref f25) = true)
    (xg_NoText : PySem.W.nsIn K mainGlobals "NoText" = some (some (.ref C_NoText)))
    (xq_NoText : PySem.W.excIn K C_NoText [.type "ValueError", .type "Exception", .type "BaseException", .type "object"] "ValueError.__new__" = true)
    (xk_NoText : PySem.W.keepIn K (.ref C_NoText) = true)
    (xb_NoText : PySem.W.subIn K (.ref C_NoText) (.type "BaseException") = some true)
    (xt_NoText : PySem.W.typeIn K (.ref C_NoText) = some (.type "type"))
    (n_FIGURES : PySem.W.nsIn K mainGlobals "FIGURES" = some (some (.str (PySem.Str.ofString "0123456789") t_FIGURES)))
    (n_LONGEST : PySem.W.nsIn K mainGlobals "LONGEST" = some (some (.int 40 t_LONGEST)))
    (z_len : PySem.W.nsIn K mainGlobals "len" = some none)
    (z_range : PySem.W.nsIn K mainGlobals "range" = some none)
    (z_tuple : PySem.W.nsIn K mainGlobals "tuple" = some none)
    (z_list : PySem.W.nsIn K mainGlobals "list" = some none)
    (z_max : PySem.W.nsIn K mainGlobals "max" = some none)
    (z_min : PySem.W.nsIn K mainGlobals "min" = some none)
    (z_sum : PySem.W.nsIn K mainGlobals "sum" = some none)
    (z_all : PySem.W.nsIn K mainGlobals "all" = some none)
    (z_any : PySem.W.nsIn K mainGlobals "any" = some none)
    (z_abs : PySem.W.nsIn K mainGlobals "abs" = some none)
    (z_int : PySem.W.nsIn K mainGlobals "int" = some none)
    (z_str : PySem.W.nsIn K mainGlobals "str" = some none)
    (z_sorted : PySem.W.nsIn K mainGlobals "sorted" = some none)
    (z_set : PySem.W.nsIn K mainGlobals "set" = some none)
    (z_enumerate : PySem.W.nsIn K mainGlobals "enumerate" = some none)
    (z_zip : PySem.W.nsIn K mainGlobals "zip" = some none)
    (z_isinstance : PySem.W.nsIn K mainGlobals "isinstance" = some none)
    (z_bool : PySem.W.nsIn K mainGlobals "bool" = some none)
    : ∃ fd : FuncData, (∀ (s : Shared) (v : Value), BindsTo s fd ⟨[v], []⟩ [("_law_script", v)]) ∧ ∀ base : Heap, K.In base → base.Ns mainGlobals mg → FnOk P w K mg base (L2.CX P w) 8 fa fd ["_law_script"] (spW K F_law_k72) := by
  have e := hfa.symm.trans (PySem.W.mg_of X G a25)
  cases e
  have B : Bt mg := ⟨PySem.W.mg_none_of X G z_len, PySem.W.mg_none_of X G z_range, PySem.W.mg_none_of X G z_tuple, PySem.W.mg_none_of X G z_list, PySem.W.mg_none_of X G z_max, PySem.W.mg_none_of X G z_min, PySem.W.mg_none_of X G z_sum, PySem.W.mg_none_of X G z_all, PySem.W.mg_none_of X G z_any, PySem.W.mg_none_of X G z_abs, PySem.W.mg_none_of X G z_int, PySem.W.mg_none_of X G z_str, PySem.W.mg_none_of X G z_sorted, PySem.W.mg_none_of X G z_set, PySem.W.mg_none_of X G z_enumerate, PySem.W.mg_none_of X G z_zip, PySem.W.mg_none_of X G z_isinstance, PySem.W.mg_none_of X G z_bool⟩
  obtain ⟨ad, had⟩ : ∃ ad : Adr, ad = (fun c => match c with | .text => C_NoText | _ => fa) := ⟨_, rfl⟩
  have ad_NoText : ad .text = C_NoText := by rw [had]
  have x_NoText : XC K mg ad .text "NoText" := ⟨by rw [ad_NoText]; exact PySem.W.mg_of X G xg_NoText, ⟨_, _, _, _, PySem.F.excBase_ValueError, by rw [ad_NoText]; exact xq_NoText⟩, by rw [ad_NoText]; exact xk_NoText, by rw [ad_NoText]; exact xb_NoText, by rw [ad_NoText]; exact xt_NoText⟩
  have T : Cn mg := ⟨⟨_, PySem.W.mg_of X G n_FIGURES⟩, ⟨_, PySem.W.mg_of X G n_LONGEST⟩⟩
  have F0 := fun_mk (st := s_covers) l0 c0 k0
  have F1 := fun_mk (st := s_stair_of) l1 c1 k1
  have F2 := fun_mk (st := s_is_stair) l2 c2 k2
  have F3 := fun_mk (st := s_sure) l3 c3 k3
  have F4 := fun_mk (st := s_count_in) l4 c4 k4
  have F5 := fun_mk (st := s_number_in) l5 c5 k5
  have F6 := fun_mk (st := s_row_shown) l6 c6 k6
  have F7 := fun_mk (st := s_row_in) l7 c7 k7
  have F8 := fun_mk (st := s_show_stair) l8 c8 k8
  have F9 := fun_mk (st := s_read_stair) l9 c9 k9
  have F10 := fun_mk (st := s_show_way) l10 c10 k10
  have F11 := fun_mk (st := s_read_way) l11 c11 k11
  have F12 := fun_mk (st := s__law_cell_at) l12 c12 k12
  have F13 := fun_mk (st := s__law_mix) l13 c13 k13
  have F14 := fun_mk (st := s__law_whole) l14 c14 k14
  have F15 := fun_mk (st := s__law_covers) l15 c15 k15
  have F16 := fun_mk (st := s__law_stair_of) l16 c16 k16
  have F17 := fun_mk (st := s__law_drawn_stair) l17 c17 k17
  have F18 := fun_mk (st := s__law_row_text) l18 c18 k18
  have F19 := fun_mk (st := s__law_stair_text) l19 c19 k19
  have F20 := fun_mk (st := s__law_way_text) l20 c20 k20
  have F21 := fun_mk (st := s__law_same) l21 c21 k21
  have F22 := fun_mk (st := s__law_good) l22 c22 k22
  have F23 := fun_mk (st := s__law_cut) l23 c23 k23
  have F24 := fun_mk (st := s__law_long_right) l24 c24 k24
  have F25 := fun_mk (st := s_law) l25 c25 k25
  refine ⟨PySem.W.fnOf "law" "law" (defArgs s_law) (defBody s_law) (defScope s_law) .none kV25 dc25 pm25 an25 cd25 ct25, fun s v => .of_eq rfl, fun base _ _ => spW_ok ad ?_⟩
  have c0_ := ok_covers (P := P) (wd := w) (base := base) (ad := ad) B F0 (PySem.W.mg_of X G a0) (F0.binds (ps := ["one", "other"]) fun _ _ _ _ _ _ us hl => match us, hl with | [_, _], _ => rfl)
  have c1_ := ok_stair_of (P := P) (wd := w) (base := base) (ad := ad) B c0_ F1 (PySem.W.mg_of X G a1) (F1.binds (ps := ["rows"]) fun _ _ _ _ _ _ us hl => match us, hl with | [_], _ => rfl)
  have c2_ := ok_is_stair (P := P) (wd := w) (base := base) (ad := ad) B c1_ F2 (PySem.W.mg_of X G a2) (F2.binds (ps := ["rows"]) fun _ _ _ _ _ _ us hl => match us, hl with | [_], _ => rfl)
  have c3_ := ok_sure (P := P) (wd := w) (base := base) (ad := ad) B x_NoText F3 (PySem.W.mg_of X G a3) (F3.binds (ps := ["good"]) fun _ _ _ _ _ _ us hl => match us, hl with | [_], _ => rfl)
  have c4_ := ok_count_in (P := P) (wd := w) (base := base) (ad := ad) B T c3_ F4 (PySem.W.mg_of X G a4) (F4.binds (ps := ["word"]) fun _ _ _ _ _ _ us hl => match us, hl with | [_], _ => rfl)
  have c5_ := ok_number_in (P := P) (wd := w) (base := base) (ad := ad) B c4_ c3_ F5 (PySem.W.mg_of X G a5) (F5.binds (ps := ["word"]) fun _ _ _ _ _ _ us hl => match us, hl with | [_], _ => rfl)
  have c6_ := ok_row_shown (P := P) (wd := w) (base := base) (ad := ad) B F6 (PySem.W.mg_of X G a6) (F6.binds (ps := ["row"]) fun _ _ _ _ _ _ us hl => match us, hl with | [_], _ => rfl)
  have c7_ := ok_row_in (P := P) (wd := w) (base := base) (ad := ad) B c5_ c3_ F7 (PySem.W.mg_of X G a7) (F7.binds (ps := ["word"]) fun _ _ _ _ _ _ us hl => match us, hl with | [_], _ => rfl)
  have c8_ := ok_show_stair (P := P) (wd := w) (base := base) (ad := ad) B c6_ F8 (PySem.W.mg_of X G a8) (F8.binds (ps := ["stair"]) fun _ _ _ _ _ _ us hl => match us, hl with | [_], _ => rfl)
  have c9_ := ok_read_stair (P := P) (wd := w) (base := base) (ad := ad) B c2_ c7_ c3_ F9 (PySem.W.mg_of X G a9) (F9.binds (ps := ["text"]) fun _ _ _ _ _ _ us hl => match us, hl with | [_], _ => rfl)
  have c10_ := ok_show_way (P := P) (wd := w) (base := base) (ad := ad) B F10 (PySem.W.mg_of X G a10) (F10.binds (ps := ["way"]) fun _ _ _ _ _ _ us hl => match us, hl with | [_], _ => rfl)
  have c11_ := ok_read_way (P := P) (wd := w) (base := base) (ad := ad) B c4_ F11 (PySem.W.mg_of X G a11) (F11.binds (ps := ["text"]) fun _ _ _ _ _ _ us hl => match us, hl with | [_], _ => rfl)
  have c12_ := ok__law_cell_at (P := P) (wd := w) (base := base) (ad := ad) B F12 (PySem.W.mg_of X G a12) (F12.binds (ps := ["_law_script", "_law_k"]) fun _ _ _ _ _ _ us hl => match us, hl with | [_, _], _ => rfl)
  have c13_ := ok__law_mix (P := P) (wd := w) (base := base) (ad := ad) B F13 (PySem.W.mg_of X G a13) (F13.binds (ps := ["_law_cell", "_law_k"]) fun _ _ _ _ _ _ us hl => match us, hl with | [_, _], _ => rfl)
  have c14_ := ok__law_whole (P := P) (wd := w) (base := base) (ad := ad) B F14 (PySem.W.mg_of X G a14) (F14.binds (ps := ["_law_found"]) fun _ _ _ _ _ _ us hl => match us, hl with | [_], _ => rfl)
  have c15_ := ok__law_covers (P := P) (wd := w) (base := base) (ad := ad) B F15 (PySem.W.mg_of X G a15) (F15.binds (ps := ["_law_one", "_law_other"]) fun _ _ _ _ _ _ us hl => match us, hl with | [_, _], _ => rfl)
  have c16_ := ok__law_stair_of (P := P) (wd := w) (base := base) (ad := ad) B c15_ F16 (PySem.W.mg_of X G a16) (F16.binds (ps := ["_law_rows"]) fun _ _ _ _ _ _ us hl => match us, hl with | [_], _ => rfl)
  have c17_ := ok__law_drawn_stair (P := P) (wd := w) (base := base) (ad := ad) B c12_ c13_ c16_ F17 (PySem.W.mg_of X G a17) (F17.binds (ps := ["_law_script", "_law_start"]) fun _ _ _ _ _ _ us hl => match us, hl with | [_, _], _ => rfl)
  have c18_ := ok__law_row_text (P := P) (wd := w) (base := base) (ad := ad) B F18 (PySem.W.mg_of X G a18) (F18.binds (ps := ["_law_row"]) fun _ _ _ _ _ _ us hl => match us, hl with | [_], _ => rfl)
  have c19_ := ok__law_stair_text (P := P) (wd := w) (base := base) (ad := ad) B c18_ F19 (PySem.W.mg_of X G a19) (F19.binds (ps := ["_law_stair"]) fun _ _ _ _ _ _ us hl => match us, hl with | [_], _ => rfl)
  have c20_ := ok__law_way_text (P := P) (wd := w) (base := base) (ad := ad) B F20 (PySem.W.mg_of X G a20) (F20.binds (ps := ["_law_way"]) fun _ _ _ _ _ _ us hl => match us, hl with | [_], _ => rfl)
  have c21_ := ok__law_same (P := P) (wd := w) (base := base) (ad := ad) B c14_ F21 (PySem.W.mg_of X G a21) (F21.binds (ps := ["_law_found", "_law_stair", "_law_way"]) fun _ _ _ _ _ _ us hl => match us, hl with | [_, _, _], _ => rfl)
  have c22_ := ok__law_good (P := P) (wd := w) (base := base) (ad := ad) B c21_ c19_ c20_ c9_ c11_ c8_ c10_ F22 (PySem.W.mg_of X G a22) (F22.binds (ps := ["_law_stair", "_law_way"]) fun _ _ _ _ _ _ us hl => match us, hl with | [_, _], _ => rfl)
  have c23_ := ok__law_cut (P := P) (wd := w) (base := base) (ad := ad) B F23 (PySem.W.mg_of X G a23) (F23.binds (ps := ["_law_script"]) fun _ _ _ _ _ _ us hl => match us, hl with | [_], _ => rfl)
  have c24_ := ok__law_long_right (P := P) (wd := w) (base := base) (ad := ad) B c22_ c19_ c9_ F24 (PySem.W.mg_of X G a24) (F24.binds (ps := []) fun _ _ _ _ _ _ us hl => match us, hl with | [], _ => rfl)
  exact ok_law B c12_ c23_ c17_ c22_ c24_ c13_ c21_ c19_ c20_ c9_ c11_ F25
end DL

open PySem PySem.W PyProof.Rows in
set_option maxRecDepth 100000 in
set_option maxHeartbeats 0 in
theorem PySem.Challenge.cw_pricestair_k72_stairs_and_ways_as_texts_holds : PySem.Challenge.rw_pricestair_k72_stairs_and_ways_as_texts.Holds := by
  w_on; o_law; k_head; (case hw => w_witness2)
  k_fill
  refine DL.walkD (l := PySem.Challenge.rw_pricestair_k72_stairs_and_ways_as_texts) (n := 63) (k := 8) (x := "_law_script") (F := DL.F_law_k72) rfl (by decide) rfl ⟨rfl, by decide, by decide⟩ (fun w h Y => PySem.W.kIn_of Y) DL.pure_k72 ?F
  case F =>
    intro w mg fa h KX G hmg
    refine' DL.all_mk KX G hmg ?a0 ?l0 ?c0 ?k0 ?a1 ?l1 ?c1 ?k1 ?a2 ?l2 ?c2 ?k2 ?a3 ?l3 ?c3 ?k3 ?a4 ?l4 ?c4 ?k4 ?a5 ?l5 ?c5 ?k5 ?a6 ?l6 ?c6 ?k6 ?a7 ?l7 ?c7 ?k7 ?a8 ?l8 ?c8 ?k8 ?a9 ?l9 ?c9 ?k9 ?a10 ?l10 ?c10 ?k10 ?a11 ?l11 ?c11 ?k11 ?a12 ?l12 ?c12 ?k12 ?a13 ?l13 ?c13 ?k13 ?a14 ?l14 ?c14 ?k14 ?a15 ?l15 ?c15 ?k15 ?a16 ?l16 ?c16 ?k16 ?a17 ?l17 ?c17 ?k17 ?a18 ?l18 ?c18 ?k18 ?a19 ?l19 ?c19 ?k19 ?a20 ?l20 ?c20 ?k20 ?a21 ?l21 ?c21 ?k21 ?a22 ?l22 ?c22 ?k22 ?a23 ?l23 ?c23 ?k23 ?a24 ?l24 ?c24 ?k24 ?a25 ?l25 ?c25 ?k25 ?xg_NoText ?xq_NoText ?xk_NoText ?xb_NoText ?xt_NoText ?n_FIGURES ?n_LONGEST ?z_len ?z_range ?z_tuple ?z_list ?z_max ?z_min ?z_sum ?z_all ?z_any ?z_abs ?z_int ?z_str ?z_sorted ?z_set ?z_enumerate ?z_zip ?z_isinstance ?z_bool
    (case a0 => k_is)
    (case l0 => k_is)
    (case c0 => k_is)
    (case k0 => k_is)
    (case a1 => k_is)
    (case l1 => k_is)
    (case c1 => k_is)
    (case k1 => k_is)
    (case a2 => k_is)
    (case l2 => k_is)
    (case c2 => k_is)
    (case k2 => k_is)
    (case a3 => k_is)
    (case l3 => k_is)
    (case c3 => k_is)
    (case k3 => k_is)
    (case a4 => k_is)
    (case l4 => k_is)
    (case c4 => k_is)
    (case k4 => k_is)
    (case a5 => k_is)
    (case l5 => k_is)
    (case c5 => k_is)
    (case k5 => k_is)
    (case a6 => k_is)
    (case l6 => k_is)
    (case c6 => k_is)
    (case k6 => k_is)
    (case a7 => k_is)
    (case l7 => k_is)
    (case c7 => k_is)
    (case k7 => k_is)
    (case a8 => k_is)
    (case l8 => k_is)
    (case c8 => k_is)
    (case k8 => k_is)
    (case a9 => k_is)
    (case l9 => k_is)
    (case c9 => k_is)
    (case k9 => k_is)
    (case a10 => k_is)
    (case l10 => k_is)
    (case c10 => k_is)
    (case k10 => k_is)
    (case a11 => k_is)
    (case l11 => k_is)
    (case c11 => k_is)
    (case k11 => k_is)
    (case a12 => k_is)
    (case l12 => k_is)
    (case c12 => k_is)
    (case k12 => k_is)
    (case a13 => k_is)
    (case l13 => k_is)
    (case c13 => k_is)
    (case k13 => k_is)
    (case a14 => k_is)
    (case l14 => k_is)
    (case c14 => k_is)
    (case k14 => k_is)
    (case a15 => k_is)
    (case l15 => k_is)
    (case c15 => k_is)
    (case k15 => k_is)
    (case a16 => k_is)
    (case l16 => k_is)
    (case c16 => k_is)
    (case k16 => k_is)
    (case a17 => k_is)
    (case l17 => k_is)
    (case c17 => k_is)
    (case k17 => k_is)
    (case a18 => k_is)
    (case l18 => k_is)
    (case c18 => k_is)
    (case k18 => k_is)
    (case a19 => k_is)
    (case l19 => k_is)
    (case c19 => k_is)
    (case k19 => k_is)
    (case a20 => k_is)
    (case l20 => k_is)
    (case c20 => k_is)
    (case k20 => k_is)
    (case a21 => k_is)
    (case l21 => k_is)
    (case c21 => k_is)
    (case k21 => k_is)
    (case a22 => k_is)
    (case l22 => k_is)
    (case c22 => k_is)
    (case k22 => k_is)
    (case a23 => k_is)
    (case l23 => k_is)
    (case c23 => k_is)
    (case k23 => k_is)
    (case a24 => k_is)
    (case l24 => k_is)
    (case c24 => k_is)
    (case k24 => k_is)
    (case a25 => k_is)
    (case l25 => k_is)
    (case c25 => k_is)
    (case k25 => k_is)
    (case xg_NoText => k_is)
    (case xq_NoText => k_exc)
    (case xk_NoText => k_is)
    (case xb_NoText => k_is)
    (case xt_NoText => k_is)
    (case n_FIGURES => k_is)
    (case n_LONGEST => k_is)
    (case z_len => k_is)
    (case z_range => k_is)
    (case z_tuple => k_is)
    (case z_list => k_is)
    (case z_max => k_is)
    (case z_min => k_is)
    (case z_sum => k_is)
    (case z_all => k_is)
    (case z_any => k_is)
    (case z_abs => k_is)
    (case z_int => k_is)
    (case z_str => k_is)
    (case z_sorted => k_is)
    (case z_set => k_is)
    (case z_enumerate => k_is)
    (case z_zip => k_is)
    (case z_isinstance => k_is)
    (case z_bool => k_is)
#print axioms PySem.Challenge.cw_pricestair_k72_stairs_and_ways_as_texts_holds
