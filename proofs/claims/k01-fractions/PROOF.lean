import PyProof.Rows.All
import Wide.All
import OpenK.AllK
import Wide.FinOn
import HandS.ForMost
import HandS.ForExc
import HandS.Wide
import HandS.IsInst
import HandS.TupAny
import HandS.Style
import HandS.Deep
import HandS.Conv
import HandS.Star
import HandS.Text
import PySem.Challenge.RW_waysapart_k01_whole_fractions_in_lowest
set_option Elab.async false
set_option linter.all false
set_option maxRecDepth 100000
set_option maxHeartbeats 4000000
/-! Pd1: data D, what stands for it in the heap, environments of slots, and what an expression's reading does on them. -/
namespace Pd
open PySem PySem.Spec L2
abbrev St := L2.St

/-- data of a run, without addresses -/
inductive D where
  | non | bl (b : Bool) | int (i : Int) | str (x : Str)
  | tup (xs : List D) | lst (xs : List D) | frl (xs : List D) | frt (xs : List D)
  | dk (kvs : List (Key × D)) | dt (kvs : List (List Key × D))
  | ins (c : Str) (fs : List (Str × D))
  deriving Inhabited

/-! ### heaps: what stands, locked or not -/
def un : HO → HO
  | .frz _ (.dK ks) => .dK ks
  | .frz _ (.dT ks) => .dT ks
  | o => o
def Ext (F F' : Hp) : Prop := ∀ a o, F a = some o → ∃ o', F' a = some o' ∧ un o' = un o
theorem Ext.refl (F : Hp) : Ext F F := fun _ o h => ⟨o, h, rfl⟩
theorem Ext.trans {F F1 F2 : Hp} (x : Ext F F1) (y : Ext F1 F2) : Ext F F2 := fun a o h => by
  obtain ⟨o1, h1, e1⟩ := x a o h
  obtain ⟨o2, h2, e2⟩ := y a o1 h1
  exact ⟨o2, h2, e2.trans e1⟩
theorem Ext.of {F F' : Hp} (h : ∀ a o, F a = some o → F' a = some o) : Ext F F' := fun a o e => ⟨o, h a o e, rfl⟩
theorem un_dK {o : HO} {ks : List (Key × V)} (h : un o = .dK ks) : o = .dK ks ∨ ∃ ob, o = .frz ob (.dK ks) := by
  cases o with
  | frz ob x =>
    cases x with
    | dK k2 => exact .inr ⟨ob, by rw [show k2 = ks from HO.dK.inj h]⟩
    | dT k2 => exact nomatch (show HO.dT k2 = HO.dK ks from h)
    | _ => exact nomatch h
  | dK k2 => exact .inl h
  | _ => exact nomatch h
theorem un_dT {o : HO} {ks : List (List Key × V)} (h : un o = .dT ks) : o = .dT ks ∨ ∃ ob, o = .frz ob (.dT ks) := by
  cases o with
  | frz ob x =>
    cases x with
    | dT k2 => exact .inr ⟨ob, by rw [show k2 = ks from HO.dT.inj h]⟩
    | dK k2 => exact nomatch (show HO.dK k2 = HO.dT ks from h)
    | _ => exact nomatch h
  | dT k2 => exact .inl h
  | _ => exact nomatch h
/-- what is no dict stays the very same -/
def hard : HO → Prop
  | .dK _ => False
  | .dT _ => False
  | .frz _ (.dK _) => False
  | .frz _ (.dT _) => False
  | _ => True
theorem un_hard {o o' : HO} (h : un o' = un o) (hh : hard o) : o' = o := by
  have h1 : un o = o := by
    cases o with
    | frz ob x => cases x <;> first | rfl | exact absurd hh id
    | _ => rfl
  rw [h1] at h
  cases o' with
  | frz ob x =>
    cases x with
    | dK ks =>
      have : o = .dK ks := h.symm
      subst this
      exact absurd hh id
    | dT ks =>
      have : o = .dT ks := h.symm
      subst this
      exact absurd hh id
    | _ => exact h
  | _ => exact h
theorem Ext.hard {F F' : Hp} {a : Addr} {o : HO} (x : Ext F F') (h : F a = some o) (hh : hard o) : F' a = some o := by
  obtain ⟨o', h2, e2⟩ := x a o h
  rw [un_hard e2 hh] at h2
  exact h2
/-- a dict, locked or not -/
def RdK (H : Hp) (a : Addr) (ks : List (Key × V)) : Prop := ∃ o, H a = some o ∧ un o = .dK ks
def RdT (H : Hp) (a : Addr) (ks : List (List Key × V)) : Prop := ∃ o, H a = some o ∧ un o = .dT ks
theorem RdK.ext {F F' : Hp} {a : Addr} {ks : List (Key × V)} (x : Ext F F') (h : RdK F a ks) : RdK F' a ks := by
  obtain ⟨o, h1, e1⟩ := h
  obtain ⟨o', h2, e2⟩ := x a o h1
  exact ⟨o', h2, e2.trans e1⟩
theorem RdT.ext {F F' : Hp} {a : Addr} {ks : List (List Key × V)} (x : Ext F F') (h : RdT F a ks) : RdT F' a ks := by
  obtain ⟨o, h1, e1⟩ := h
  obtain ⟨o', h2, e2⟩ := x a o h1
  exact ⟨o', h2, e2.trans e1⟩
theorem Rd.seqExt {F F' : Hp} {a : Addr} {u : HO} (hu : ∀ ob, Pd.hard (.frz ob u)) (hu2 : Pd.hard u) (x : Ext F F') (h : Rd F a u) : Rd F' a u := by
  rcases h with h | ⟨ob, h⟩
  · exact .inl (x.hard h hu2)
  · exact .inr ⟨ob, x.hard h (hu ob)⟩
theorem sqL_ext {K : PySem.W.Frag} {F F' : Hp} {a : Addr} {xs : List V} (x : Ext F F') (h : SqL K F a xs) : SqL K F' a xs := by
  rcases h with h | h
  · exact .inl (Rd.seqExt (fun _ => trivial) trivial x h)
  · exact .inr h
theorem sqT_ext {K : PySem.W.Frag} {F F' : Hp} {a : Addr} {xs : List V} (x : Ext F F') (h : SqT K F a xs) : SqT K F' a xs := by
  rcases h with h | h
  · exact .inl (Rd.seqExt (fun _ => trivial) trivial x h)
  · exact .inr h

/-! ### what stands for data -/
mutual
inductive Rp (K : PySem.W.Frag) (cm : Str → Option Addr) (H : Hp) : D → V → Prop
  | non : Rp K cm H .non .non
  | bl (b : Bool) : Rp K cm H (.bl b) (.bl b)
  | int (i : Int) : Rp K cm H (.int i) (.int i)
  | str (x : Str) : Rp K cm H (.str x) (.str x)
  | tup {a : Addr} {xs : List V} {ds : List D} : H a = some (.tup xs) → Rps K cm H ds xs → Rp K cm H (.tup ds) (.ref a)
  | frt {a : Addr} {xs : List V} {ds : List D} : SqT K H a xs → Rps K cm H ds xs → Rp K cm H (.frt ds) (.ref a)
  | lst {a : Addr} {xs : List V} {ds : List D} : H a = some (.lst xs) → Rps K cm H ds xs → Rp K cm H (.lst ds) (.ref a)
  | frl {a : Addr} {xs : List V} {ds : List D} : SqL K H a xs → Rps K cm H ds xs → Rp K cm H (.frl ds) (.ref a)
  | dk {a : Addr} {ks : List (Key × V)} {kvs : List (Key × D)} : RdK H a ks → ks.map (·.1) = kvs.map (·.1) → Rps K cm H (kvs.map (·.2)) (ks.map (·.2)) → Rp K cm H (.dk kvs) (.ref a)
  | dt {a : Addr} {ks : List (List Key × V)} {kvs : List (List Key × D)} : RdT H a ks → ks.map (·.1) = kvs.map (·.1) → Rps K cm H (kvs.map (·.2)) (ks.map (·.2)) → Rp K cm H (.dt kvs) (.ref a)
  | ins {a C dx : Addr} {c : Str} {vs : List (Str × V)} {fs : List (Str × D)} : cm c = some C → H a = some (.ins C dx vs) → vs.map (·.1) = fs.map (·.1) → Rps K cm H (fs.map (·.2)) (vs.map (·.2)) → Rp K cm H (.ins c fs) (.ref a)
inductive Rps (K : PySem.W.Frag) (cm : Str → Option Addr) (H : Hp) : List D → List V → Prop
  | nil : Rps K cm H [] []
  | cons {d : D} {v : V} {ds : List D} {vs : List V} : Rp K cm H d v → Rps K cm H ds vs → Rps K cm H (d :: ds) (v :: vs)
end
section
variable {K : PySem.W.Frag} {cm : Str → Option Addr} {F F' H : Hp}
mutual
theorem Rp.ext (x : Ext F F') : ∀ {d : D} {v : V}, Rp K cm F d v → Rp K cm F' d v
  | _, _, .non => .non
  | _, _, .bl b => .bl b
  | _, _, .int i => .int i
  | _, _, .str i => .str i
  | _, _, .tup h r => .tup (x.hard h trivial) (Rps.ext x r)
  | _, _, .frt h r => .frt (sqT_ext x h) (Rps.ext x r)
  | _, _, .lst h r => .lst (x.hard h trivial) (Rps.ext x r)
  | _, _, .frl h r => .frl (sqL_ext x h) (Rps.ext x r)
  | _, _, .dk h e r => .dk (h.ext x) e (Rps.ext x r)
  | _, _, .dt h e r => .dt (h.ext x) e (Rps.ext x r)
  | _, _, .ins c h e r => .ins c (x.hard h trivial) e (Rps.ext x r)
theorem Rps.ext (x : Ext F F') : ∀ {ds : List D} {vs : List V}, Rps K cm F ds vs → Rps K cm F' ds vs
  | _, _, .nil => .nil
  | _, _, .cons h r => .cons (Rp.ext x h) (Rps.ext x r)
end
theorem Rps.length : ∀ {ds : List D} {vs : List V}, Rps K cm F ds vs → ds.length = vs.length
  | _, _, .nil => rfl
  | _, _, .cons _ r => by simp [Rps.length r]
theorem Rps.append : ∀ {ds es : List D} {vs ws : List V}, Rps K cm F ds vs → Rps K cm F es ws → Rps K cm F (ds ++ es) (vs ++ ws)
  | _, _, _, _, .nil, s => s
  | _, _, _, _, .cons h r, s => .cons h (Rps.append r s)
theorem Rps.get : ∀ {ds : List D} {vs : List V} {i : Nat} {v : V}, Rps K cm F ds vs → vs[i]? = some v → ∃ d, ds[i]? = some d ∧ Rp K cm F d v
  | _, _, _, _, .nil, h => by simp at h
  | _, _, 0, _, .cons h _, e => by simp at e; subst e; exact ⟨_, rfl, h⟩
  | _, _, i + 1, _, .cons _ r, e => by
    obtain ⟨d, h1, h2⟩ := Rps.get (i := i) r (by simpa using e)
    exact ⟨d, by simpa using h1, h2⟩
theorem Rps.getD : ∀ {ds : List D} {vs : List V} {i : Nat} {d : D}, Rps K cm F ds vs → ds[i]? = some d → ∃ v, vs[i]? = some v ∧ Rp K cm F d v
  | _, _, _, _, .nil, h => by simp at h
  | _, _, 0, _, .cons h _, e => by simp at e; subst e; exact ⟨_, rfl, h⟩
  | _, _, i + 1, _, .cons _ r, e => by
    obtain ⟨d, h1, h2⟩ := Rps.getD (i := i) r (by simpa using e)
    exact ⟨d, by simpa using h1, h2⟩
theorem Rps.drop : ∀ {ds : List D} {vs : List V} (n : Nat), Rps K cm F ds vs → Rps K cm F (ds.drop n) (vs.drop n)
  | _, _, 0, r => r
  | _, _, _ + 1, .nil => .nil
  | _, _, n + 1, .cons _ t => Rps.drop n t
theorem Rps.take : ∀ {ds : List D} {vs : List V} (n : Nat), Rps K cm F ds vs → Rps K cm F (ds.take n) (vs.take n)
  | _, _, 0, _ => .nil
  | _, _, _ + 1, .nil => .nil
  | _, _, n + 1, .cons r t => .cons r (Rps.take n t)
theorem Rps.set {d : D} {v : V} (h : Rp K cm F d v) : ∀ {ds : List D} {vs : List V} (i : Nat), Rps K cm F ds vs → Rps K cm F (ds.set i d) (vs.set i v)
  | _, _, _, .nil => .nil
  | _, _, 0, .cons _ t => .cons h t
  | _, _, i + 1, .cons q t => .cons q (Rps.set h i t)
end

/-! ### slots -/
inductive Sl where
  | no | val (d : D) | own (d : D) | par (d : D)
  deriving Inhabited
abbrev Env := List Sl

section
variable (K : PySem.W.Frag) (cm : Str → Option Addr)
/-- the object at a, changed by its owner alone; what it holds stands in F -/
def OwnAt (F H : Hp) (a : Addr) : D → Prop
  | .lst ds => ∃ xs, H a = some (.lst xs) ∧ Rps K cm F ds xs
  | .dk kvs => ∃ ks, H a = some (.dK ks) ∧ ks.map (·.1) = kvs.map (·.1) ∧ Rps K cm F (kvs.map (·.2)) (ks.map (·.2))
  | .dt kvs => ∃ ks, H a = some (.dT ks) ∧ ks.map (·.1) = kvs.map (·.1) ∧ Rps K cm F (kvs.map (·.2)) (ks.map (·.2))
  | .ins c fs => ∃ C dx vs, cm c = some C ∧ H a = some (.ins C dx vs) ∧ vs.map (·.1) = fs.map (·.1) ∧ Rps K cm F (fs.map (·.2)) (vs.map (·.2))
  | _ => False
/-- the ground of a def: its arguments, those that it may change, the heaps at its entry -/
structure Gd where
  vs : List V
  pa : Addr → Prop
  fr : Addr → Prop
  F0 : Hp
  H0 : Hp
def OwnR (F H : Hp) (a : Addr) (d : D) : Prop := F a = none ∧ OwnAt K cm F H a d
def Free (G : Gd) (a : Addr) : Prop := G.H0 a = none ∨ G.fr a
def SlR (G : Gd) (F H : Hp) (σ : St) (i : Nat) : Sl → Prop
  | .no => True
  | .val d => ∃ v, σ[i]? = some (some v) ∧ Rp K cm F d v
  | .own d => ∃ a, σ[i]? = some (some (.ref a)) ∧ Free G a ∧ OwnR K cm F H a d
  | .par d => ∃ a, σ[i]? = some (some (.ref a)) ∧ (G.vs[i]? = some (.ref a) ∧ G.pa a) ∧ OwnR K cm F H a d
def owns : Sl → Bool
  | .own _ => true
  | .par _ => true
  | _ => false
structure ER (G : Gd) (F H : Hp) (σ : St) (ρ : Env) : Prop where
  sub : Same F H
  f0 : Ext G.F0 F
  h0 : ∀ b o, G.H0 b = some o → ¬ G.pa b → ¬ G.fr b → H b = some o
  live : ∀ b, G.H0 b ≠ none → H b ≠ none
  nf : ∀ b, G.H0 b ≠ none → G.F0 b = none → ¬ G.fr b → F b = none
  slot : ∀ (i : Nat) (s : Sl), ρ[i]? = some s → SlR K cm G F H σ i s
  inj : ∀ (i j : Nat) (s t : Sl), ρ[i]? = some s → ρ[j]? = some t → owns s = true → owns t = true → σ[i]? = σ[j]? → i = j
  len : ρ.length = σ.length
/-- heaps grow by new objects alone; of the old ones none goes into F -/
structure Grow (F H F' H' : Hp) : Prop where
  f : Same F F'
  h : Same H H'
  sub : Same F' H'
  nf : ∀ b, H b ≠ none → F b = none → F' b = none
end
section
variable {K : PySem.W.Frag} {cm : Str → Option Addr} {G : Gd} {F H F' H' : Hp} {σ : St} {ρ : Env} {a : Addr} {d : D}
theorem Grow.refl (s : Same F H) : Grow F H F H := ⟨Same.refl _, Same.refl _, s, fun _ _ h => h⟩
theorem Grow.trans {F1 H1 F2 H2 : Hp} (x : Grow F H F1 H1) (y : Grow F1 H1 F2 H2) : Grow F H F2 H2 :=
  ⟨x.f.trans y.f, x.h.trans y.h, y.sub, fun b hb hf => y.nf b (by
    cases e : H b with
    | none => exact absurd e hb
    | some o => rw [x.h b o e]; simp) (x.nf b hb hf)⟩
/-- a new object, frozen at once -/
theorem Grow.new {p : Addr} {o : HO} (s : Same F H) (h : H p = none) : Grow F H (upd F p o) (upd H p o) := by
  have hf : F p = none := s.free h
  refine ⟨fun b u e => ?_, fun b u e => ?_, fun b u e => ?_, fun b hb hf' => ?_⟩
  · rw [upd_ne (ne_of_none e hf)]; exact e
  · rw [upd_ne (ne_of_none e h)]; exact e
  · by_cases c : b = p
    · subst c; rw [upd_same] at e ⊢; exact e
    · rw [upd_ne c] at e ⊢; exact s b u e
  · by_cases c : b = p
    · subst c; exact absurd h hb
    · rw [upd_ne c]; exact hf'
/-- a new object that is not frozen -/
theorem Grow.newH {p : Addr} {o : HO} (s : Same F H) (h : H p = none) : Grow F H F (upd H p o) := by
  refine ⟨Same.refl _, fun b u e => ?_, fun b u e => ?_, fun b hb hf' => hf'⟩
  · rw [upd_ne (ne_of_none e h)]; exact e
  · rw [upd_ne (ne_of_none (s b u e) h)]; exact s b u e
theorem Same.extF (x : Same F F') : Ext F F' := Ext.of x
theorem OwnAt.some (h : OwnAt K cm F H a d) : ∃ o, H a = some o := by
  cases d with
  | lst ds => obtain ⟨xs, h, _⟩ := h; exact ⟨_, h⟩
  | dk ds => obtain ⟨xs, h, _⟩ := h; exact ⟨_, h⟩
  | dt ds => obtain ⟨xs, h, _⟩ := h; exact ⟨_, h⟩
  | ins c fs => obtain ⟨C, dx, vs, _, h, _⟩ := h; exact ⟨_, h⟩
  | _ => exact False.elim h
theorem OwnAt.mono (x : Ext F F') (e : H' a = H a) (h : OwnAt K cm F H a d) : OwnAt K cm F' H' a d := by
  cases d with
  | lst ds => obtain ⟨xs, h, r⟩ := h; exact ⟨xs, e.trans h, r.ext x⟩
  | dk ds => obtain ⟨xs, h, q, r⟩ := h; exact ⟨xs, e.trans h, q, r.ext x⟩
  | dt ds => obtain ⟨xs, h, q, r⟩ := h; exact ⟨xs, e.trans h, q, r.ext x⟩
  | ins c fs => obtain ⟨C, dx, vs, c, h, q, r⟩ := h; exact ⟨C, dx, vs, c, e.trans h, q, r.ext x⟩
  | _ => exact False.elim h
theorem OwnR.some (h : OwnR K cm F H a d) : ∃ o, H a = some o := h.2.some
theorem OwnR.mono (x : Ext F F') (e : H' a = H a) (hf : F' a = none) (h : OwnR K cm F H a d) : OwnR K cm F' H' a d := ⟨hf, h.2.mono x e⟩
theorem OwnR.grow (g : Grow F H F' H') (h : OwnR K cm F H a d) : OwnR K cm F' H' a d := by
  obtain ⟨o, ho⟩ := h.some
  exact h.mono (Ext.of g.f) ((g.h a o ho).trans ho.symm) (g.nf a (by rw [ho]; simp) h.1)
theorem SlR.grow {i : Nat} {s : Sl} (g : Grow F H F' H') (h : SlR K cm G F H σ i s) : SlR K cm G F' H' σ i s := by
  cases s with
  | no => trivial
  | val d => obtain ⟨v, e, r⟩ := h; exact ⟨v, e, r.ext (Ext.of g.f)⟩
  | own d => obtain ⟨b, e, q, r⟩ := h; exact ⟨b, e, q, r.grow g⟩
  | par d => obtain ⟨b, e, q, r⟩ := h; exact ⟨b, e, q, r.grow g⟩
theorem ER.grow (er : ER K cm G F H σ ρ) (g : Grow F H F' H') : ER K cm G F' H' σ ρ where
  sub := g.sub
  f0 := er.f0.trans (Ext.of g.f)
  h0 := fun b o e n m => g.h b o (er.h0 b o e n m)
  live := fun b e => by
    cases q : H b with
    | none => exact absurd q (er.live b e)
    | some o => rw [g.h b o q]; simp
  nf := fun b e n m => g.nf b (er.live b e) (er.nf b e n m)
  slot := fun i s e => (er.slot i s e).grow g
  inj := er.inj
  len := er.len
end

/-! ### results -/
structure Exn where
  c : Str
  fs : List (Str × D)
inductive R (α : Type) where
  | ok (a : α) | exc (x : Exn)
abbrev M (α : Type) := Env → Option (R α × Env)
namespace M
def ret {α : Type} (a : α) : M α := fun ρ => some (.ok a, ρ)
def fail {α : Type} : M α := fun _ => none
def raise {α : Type} (x : Exn) : M α := fun ρ => some (.exc x, ρ)
def bind {α β : Type} (m : M α) (k : α → M β) : M β := fun ρ => match m ρ with
  | none => none
  | some (.ok a, ρ') => k a ρ'
  | some (.exc x, ρ') => some (.exc x, ρ')
def lift {α : Type} (o : Option α) : M α := fun ρ => match o with
  | none => none
  | some a => some (.ok a, ρ)
end M
section
variable (K : PySem.W.Frag) (cm : Str → Option Addr)
/-- an exception: its class, its own dict -/
def XR (F : Hp) (x : Exn) (cv : Value) (dx : Option Addr) : Prop := (∃ C, cm x.c = some C ∧ cv = .ref C) ∧
  ((dx = none ∧ x.fs = []) ∨ ∃ d vs, dx = some d ∧ F d = some (.xd vs) ∧ vs.map (·.1) = x.fs.map (·.1) ∧ Rps K cm F (x.fs.map (·.2)) (vs.map (·.2)))
/-- what is wanted behind -/
def Post (G : Gd) (W : WX) (σ : St) (F : Hp) {α β : Type} (rel : Gd → Hp → Hp → St → Env → α → β → Prop) (Q : β → Hp → Prop) (r : R α) (ρ' : Env) : Prop :=
  ∀ F' H', ER K cm G F' H' σ ρ' → Ext F F' → match r with
    | .ok a => ∀ b, rel G F' H' σ ρ' a b → Q b H'
    | .exc x => ∀ cv dx, XR K cm F' x cv dx → W cv dx σ H'
end
abbrev Rel (α β : Type) := Gd → Hp → Hp → St → Env → α → β → Prop
/-- a reading does f on the slots, under P at its start -/
def JdP (X : Cx) (cm : Str → Option Addr) (W : WX) {α β : Type} (P : Gd → Hp → Hp → St → Env → Prop) (rel : Rel α β) (t : St → Hp → (β → Hp → Prop) → Prop) (f : M α) : Prop :=
  ∀ (G : Gd) (F H : Hp) (σ : St) (ρ : Env) (r : R α) (ρ' : Env), ER X.K cm G F H σ ρ → P G F H σ ρ → f ρ = some (r, ρ') → ∀ Q : β → Hp → Prop, Post X.K cm G W σ F rel Q r ρ' → t σ H Q
abbrev Jd (X : Cx) (cm : Str → Option Addr) (W : WX) {α β : Type} (rel : Rel α β) (t : St → Hp → (β → Hp → Prop) → Prop) (f : M α) : Prop := JdP X cm W (fun _ _ _ _ _ => True) rel t f

/-- a value -/
def rV (K : PySem.W.Frag) (cm : Str → Option Addr) : Rel D V := fun _ F _ _ _ d v => Rp K cm F d v
def rB : Rel Bool Bool := fun _ _ _ _ _ a b => a = b
/-- an operand: a value, or the name of a thing that its slot owns -/
inductive Op where
  | v (d : D) | s (i : Nat)
def rO (K : PySem.W.Frag) (cm : Str → Option Addr) : Rel Op V := fun _ F _ σ _ o v => match o with
  | .v d => Rp K cm F d v
  | .s i => σ[i]? = some (some v)
def ownOf : Sl → Option D
  | .own d => some d
  | .par d => some d
  | _ => none
/-- what an operand is worth -/
def res (ρ : Env) : Op → Option D
  | .v d => some d
  | .s i => (ρ[i]?).bind ownOf
/-- a value that may be read, frozen or owned -/
def Rv (K : PySem.W.Frag) (cm : Str → Option Addr) (F H : Hp) (d : D) (v : V) : Prop := Rp K cm F d v ∨ ∃ a, v = .ref a ∧ F a = none ∧ OwnAt K cm F H a d
/-- a new object, not frozen, that no slot owns -/
def rF (K : PySem.W.Frag) (cm : Str → Option Addr) : Rel D V := fun G F H σ ρ d v => ∃ a, v = .ref a ∧ Free G a ∧ OwnR K cm F H a d ∧ ∀ (i : Nat) (s : Sl), ρ[i]? = some s → owns s = true → σ[i]? ≠ some (some (V.ref a))

theorem rO_res {K : PySem.W.Frag} {cm : Str → Option Addr} {G : Gd} {F H F' H' : Hp} {σ : St} {ρ ρ' : Env} {o : Op} {v : V} {d : D} (h : rO K cm G F H σ ρ o v) (x : Ext F F') (er : ER K cm G F' H' σ ρ') (e : res ρ' o = some d) : Rv K cm F' H' d v := by
  cases o with
  | v d' =>
    have : d' = d := Option.some.inj e
    subst this
    exact .inl (Rp.ext x h)
  | s i =>
    have hv : σ[i]? = some (some v) := h
    have e' : (ρ'[i]?).bind ownOf = some d := e
    cases q : ρ'[i]? with
    | none => rw [q] at e'; cases e'
    | some s =>
      rw [q] at e'
      have e2 : ownOf s = some d := e'
      have hs := er.slot i s q
      cases s with
      | no => cases e2
      | val _ => cases e2
      | own d' =>
        have : d' = d := Option.some.inj e2
        subst this
        obtain ⟨a, e1, _, r⟩ := hs
        rw [hv] at e1
        have ev : v = .ref a := Option.some.inj (Option.some.inj e1)
        exact .inr ⟨a, ev, r.1, r.2⟩
      | par d' =>
        have : d' = d := Option.some.inj e2
        subst this
        obtain ⟨a, e1, _, r⟩ := hs
        rw [hv] at e1
        have ev : v = .ref a := Option.some.inj (Option.some.inj e1)
        exact .inr ⟨a, ev, r.1, r.2⟩

/-! ### judgements -/
section
variable (X : Cx) (cm : Str → Option Addr) (W : WX)
def PD (e : Expr) (f : M D) : Prop := ∃ t : TE, PE X e t ∧ Jd X cm W (rV X.K cm) t f
def PO (e : Expr) (f : M Op) : Prop := ∃ t : TE, PE X e t ∧ Jd X cm W (rO X.K cm) t f
def PF (e : Expr) (f : M D) : Prop := ∃ t : TE, PE X e t ∧ Jd X cm W (rF X.K cm) t f
def PB (e : Expr) (f : M Bool) : Prop := ∃ t : TT, PT X e t ∧ Jd X cm W rB t f
end

section
variable {X : Cx} {cm : Str → Option Addr} {W : WX} {α β γ δ : Type}
/-- one reading behind another one -/
theorem JdP.bind {P : Gd → Hp → Hp → St → Env → Prop} {rel1 : Rel α β} {rel2 : Rel γ δ} {t1 : St → Hp → (β → Hp → Prop) → Prop} {t2 : β → St → Hp → (δ → Hp → Prop) → Prop} {f : M α} {k : α → M γ}
    (j1 : JdP X cm W P rel1 t1 f) (j2 : ∀ (a : α) (b : β) (F0 : Hp), JdP X cm W (fun G F H σ ρ => rel1 G F H σ ρ a b) rel2 (t2 b) (k a)) :
    JdP X cm W P rel2 (fun σ H Q => t1 σ H fun b H1 => t2 b σ H1 Q) (M.bind f k) := by
  intro G F H σ ρ r ρ' er hp hf Q hQ
  unfold M.bind at hf
  cases e : f ρ with
  | none => rw [e] at hf; cases hf
  | some p =>
    obtain ⟨ra, ρ1⟩ := p
    rw [e] at hf
    refine j1 G F H σ ρ ra ρ1 er hp e _ ?_
    intro F1 H1 er1 x1
    cases ra with
    | exc x =>
      cases hf
      exact hQ F1 H1 er1 x1
    | ok a =>
      intro b hb
      refine j2 a b F1 G F1 H1 σ ρ1 r ρ' er1 hb hf Q ?_
      intro F2 H2 er2 x2
      exact hQ F2 H2 er2 (x1.trans x2)
end
end Pd

/-! Pd2: expressions: names, constants, operators, comparisons, tests, arguments, displays, subscripts, built-in calls. -/
namespace Pd
open PySem PySem.Spec L2

def Stable (P : Gd → Hp → Hp → St → Env → Prop) : Prop := ∀ G F H F' H' σ ρ ρ', P G F H σ ρ → Ext F F' → P G F' H' σ ρ'
section
variable {X : Cx} {cm : Str → Option Addr} {W : WX} {α β γ δ : Type}
theorem JdP.weak {P P' : Gd → Hp → Hp → St → Env → Prop} {rel : Rel α β} {t : St → Hp → (β → Hp → Prop) → Prop} {f : M α} (j : JdP X cm W P rel t f) (h : ∀ G F H σ ρ, P' G F H σ ρ → P G F H σ ρ) : JdP X cm W P' rel t f :=
  fun G F H σ ρ r ρ' er hp hf Q hQ => j G F H σ ρ r ρ' er (h _ _ _ _ _ hp) hf Q hQ
theorem JdP.bindS {P : Gd → Hp → Hp → St → Env → Prop} {rel1 : Rel α β} {rel2 : Rel γ δ} {t1 : St → Hp → (β → Hp → Prop) → Prop} {t2 : β → St → Hp → (δ → Hp → Prop) → Prop} {f : M α} {k : α → M γ}
    (st : Stable P) (j1 : JdP X cm W P rel1 t1 f) (j2 : ∀ (a : α) (b : β), JdP X cm W (fun G F H σ ρ => P G F H σ ρ ∧ rel1 G F H σ ρ a b) rel2 (t2 b) (k a)) :
    JdP X cm W P rel2 (fun σ H Q => t1 σ H fun b H1 => t2 b σ H1 Q) (M.bind f k) := by
  intro G F H σ ρ r ρ' er hp hf Q hQ
  unfold M.bind at hf
  cases e : f ρ with
  | none => rw [e] at hf; cases hf
  | some p =>
    obtain ⟨ra, ρ1⟩ := p
    rw [e] at hf
    refine j1 G F H σ ρ ra ρ1 er hp e _ ?_
    intro F1 H1 er1 x1
    cases ra with
    | exc x =>
      cases hf
      exact hQ F1 H1 er1 x1
    | ok a =>
      intro b hb
      refine j2 a b G F1 H1 σ ρ1 r ρ' er1 ⟨st _ _ _ _ _ _ _ _ hp x1, hb⟩ hf Q ?_
      intro F2 H2 er2 x2
      exact hQ F2 H2 er2 (x1.trans x2)
/-- an end that only lets the heaps grow -/
theorem jd_fin {P : Gd → Hp → Hp → St → Env → Prop} {t : St → Hp → (V → Hp → Prop) → Prop} {f : M D}
    (h : ∀ G F H σ ρ r ρ', ER X.K cm G F H σ ρ → P G F H σ ρ → f ρ = some (r, ρ') → ∃ d, r = .ok d ∧ ρ' = ρ ∧ ∀ Q, (∀ F' H' v, Grow F H F' H' → Rp X.K cm F' d v → Q v H') → t σ H Q) : JdP X cm W P (rV X.K cm) t f := by
  intro G F H σ ρ r ρ' er hp hf Q hQ
  obtain ⟨d, rfl, rfl, k⟩ := h G F H σ ρ r ρ' er hp hf
  exact k Q fun F' H' v g hr => hQ F' H' (er.grow g) (Ext.of g.f) v hr
theorem stable_true : Stable (fun _ _ _ _ _ => True) := fun _ _ _ _ _ _ _ _ _ _ => trivial
theorem stable_and {P P' : Gd → Hp → Hp → St → Env → Prop} (a : Stable P) (b : Stable P') : Stable (fun G F H σ ρ => P G F H σ ρ ∧ P' G F H σ ρ) :=
  fun _ _ _ _ _ _ _ _ h x => ⟨a _ _ _ _ _ _ _ _ h.1 x, b _ _ _ _ _ _ _ _ h.2 x⟩
theorem stable_rO {K : PySem.W.Frag} {o : Op} {v : V} : Stable (fun G F H σ ρ => rO K cm G F H σ ρ o v) := fun G F H F' H' σ ρ ρ' h x => by
  cases o with
  | v d => exact Rp.ext x h
  | s i => exact h
theorem stable_rV {K : PySem.W.Frag} {d : D} {v : V} : Stable (fun G F H σ ρ => rV K cm G F H σ ρ d v) := fun G F H F' H' σ ρ ρ' h x => Rp.ext x h
end

/-! ### names and constants -/
def frzAt (i : Nat) : M D := fun ρ => match ρ[i]? with
  | some (.val d) => some (.ok d, ρ)
  | some (.own d) => some (.ok d, ρ.set i (.val d))
  | _ => none
def nameO (i : Nat) : M Op := fun ρ => match ρ[i]? with
  | some (.val d) => some (.ok (.v d), ρ)
  | some (.own _) => some (.ok (.s i), ρ)
  | some (.par _) => some (.ok (.s i), ρ)
  | _ => none
section
variable {X : Cx} {cm : Str → Option Addr} {W : WX}
/-- what a slot owns is frozen -/
theorem ER.freeze {K : PySem.W.Frag} {G : Gd} {F H : Hp} {σ : St} {ρ : Env} {i : Nat} {d : D} (er : ER K cm G F H σ ρ) (e : ρ[i]? = some (.own d)) :
    ∃ a F', σ[i]? = some (some (.ref a)) ∧ ER K cm G F' H σ (ρ.set i (.val d)) ∧ Ext F F' ∧ Rp K cm F' d (.ref a) := by
  obtain ⟨a, e1, hg, hf, ho⟩ := er.slot i _ e
  obtain ⟨o, hH⟩ := ho.some
  have sF : Same F (upd F a o) := fun b u q => by rw [upd_ne (ne_of_none q hf)]; exact q
  have xF : Ext F (upd F a o) := Ext.of sF
  refine ⟨a, upd F a o, e1, ?_, xF, ?_⟩
  · refine ⟨fun b u q => ?_, er.f0.trans xF, er.h0, er.live, fun b q n m => ?_, fun j s q => ?_, fun j k s t qj qk os ot eq => ?_, ?_⟩
    · by_cases c : b = a
      · subst c; rw [upd_same] at q; cases q; exact hH
      · rw [upd_ne c] at q; exact er.sub b u q
    · have c : b ≠ a := fun z => by subst z; exact hg.elim q m
      rw [upd_ne c]; exact er.nf b q n m
    · by_cases c : j = i
      · subst c
        rw [List.getElem?_set_self (by have := (List.getElem?_eq_some_iff.mp e).1; omega)] at q
        cases q
        refine ⟨.ref a, e1, ?_⟩
        cases d with
        | lst ds => obtain ⟨xs, h, r⟩ := ho; rw [h] at hH; cases hH; exact .lst upd_same (r.ext xF)
        | dk ds => obtain ⟨xs, h, q, r⟩ := ho; rw [h] at hH; cases hH; exact .dk ⟨_, upd_same, rfl⟩ q (r.ext xF)
        | dt ds => obtain ⟨xs, h, q, r⟩ := ho; rw [h] at hH; cases hH; exact .dt ⟨_, upd_same, rfl⟩ q (r.ext xF)
        | ins c fs => obtain ⟨C, dx, vs, c, h, q, r⟩ := ho; rw [h] at hH; cases hH; exact .ins c upd_same q (r.ext xF)
        | _ => exact False.elim ho
      · rw [List.getElem?_set_ne (Ne.symm c)] at q
        have hs := er.slot j s q
        cases s with
        | no => trivial
        | val d' => obtain ⟨v, e2, r⟩ := hs; exact ⟨v, e2, r.ext xF⟩
        | own d' =>
          obtain ⟨b, e2, q2, r⟩ := hs
          have hb : b ≠ a := fun z => by
            subst z
            exact c (er.inj j i _ _ q e rfl rfl (e2.trans e1.symm))
          exact ⟨b, e2, q2, r.mono xF rfl (by rw [upd_ne hb]; exact r.1)⟩
        | par d' =>
          obtain ⟨b, e2, q2, r⟩ := hs
          have hb : b ≠ a := fun z => by
            subst z
            exact c (er.inj j i _ _ q e rfl rfl (e2.trans e1.symm))
          exact ⟨b, e2, q2, r.mono xF rfl (by rw [upd_ne hb]; exact r.1)⟩
    · by_cases cj : j = i
      · subst cj
        rw [List.getElem?_set_self (by have := (List.getElem?_eq_some_iff.mp e).1; omega)] at qj
        cases qj; cases os
      · by_cases ck : k = i
        · subst ck
          rw [List.getElem?_set_self (by have := (List.getElem?_eq_some_iff.mp e).1; omega)] at qk
          cases qk; cases ot
        · rw [List.getElem?_set_ne (Ne.symm cj)] at qj
          rw [List.getElem?_set_ne (Ne.symm ck)] at qk
          exact er.inj j k s t qj qk os ot eq
    · rw [List.length_set]; exact er.len
  · cases d with
    | lst ds => obtain ⟨xs, h, r⟩ := ho; rw [h] at hH; cases hH; exact .lst upd_same (r.ext xF)
    | dk ds => obtain ⟨xs, h, q, r⟩ := ho; rw [h] at hH; cases hH; exact .dk ⟨_, upd_same, rfl⟩ q (r.ext xF)
    | dt ds => obtain ⟨xs, h, q, r⟩ := ho; rw [h] at hH; cases hH; exact .dt ⟨_, upd_same, rfl⟩ q (r.ext xF)
    | ins c fs => obtain ⟨C, dx, vs, c, h, q, r⟩ := ho; rw [h] at hH; cases hH; exact .ins c upd_same q (r.ext xF)
    | _ => exact False.elim ho
end
section
variable {X : Cx} {cm : Str → Option Addr} {W : WX} {pos : Pos}
theorem pd_name (i : Nat) {x : Str} (hN : X.N[i]? = some x := by rfl) (hv : Vis X.env.scope x := by first | exact Or.inl rfl | exact Or.inr (Or.inl rfl) | exact Or.inr (Or.inr rfl)) (hd : (x == ("__debug__" : Str)) = false := by decide)
    (hcd : (x == ("__classdict__" : Str)) = false := by decide) : PD X cm W (.Name x pos) (frzAt i) := by
  refine ⟨tVar i, pe_var hN hv hd hcd, fun G F H σ ρ r ρ' er _ hf Q hQ => ?_⟩
  unfold frzAt at hf
  cases e : ρ[i]? with
  | none => rw [e] at hf; cases hf
  | some s =>
    rw [e] at hf
    cases s with
    | no => cases hf
    | par _ => cases hf
    | val d =>
      cases hf
      obtain ⟨v, e1, r⟩ := er.slot i _ e
      exact ⟨v, e1, hQ F H er (Ext.refl F) v r⟩
    | own d =>
      cases hf
      obtain ⟨a, F', e1, er', xF, r⟩ := er.freeze e
      exact ⟨.ref a, e1, hQ F' H er' xF _ r⟩
theorem po_name (i : Nat) {x : Str} (hN : X.N[i]? = some x := by rfl) (hv : Vis X.env.scope x := by first | exact Or.inl rfl | exact Or.inr (Or.inl rfl) | exact Or.inr (Or.inr rfl)) (hd : (x == ("__debug__" : Str)) = false := by decide)
    (hcd : (x == ("__classdict__" : Str)) = false := by decide) : PO X cm W (.Name x pos) (nameO i) := by
  refine ⟨tVar i, pe_var hN hv hd hcd, fun G F H σ ρ r ρ' er _ hf Q hQ => ?_⟩
  unfold nameO at hf
  cases e : ρ[i]? with
  | none => rw [e] at hf; cases hf
  | some s =>
    rw [e] at hf
    cases s with
    | no => cases hf
    | val d =>
      cases hf
      obtain ⟨v, e1, r⟩ := er.slot i _ e
      exact ⟨v, e1, hQ F H er (Ext.refl F) v r⟩
    | own d =>
      cases hf
      obtain ⟨a, e1, _⟩ := er.slot i _ e
      exact ⟨.ref a, e1, hQ F H er (Ext.refl F) (.ref a) e1⟩
    | par d =>
      cases hf
      obtain ⟨a, e1, _⟩ := er.slot i _ e
      exact ⟨.ref a, e1, hQ F H er (Ext.refl F) (.ref a) e1⟩
theorem jd_const {t : TE} {d : D} {v : V} (ht : ∀ σ H Q, Q v H → t σ H Q) (hr : ∀ F, Rp X.K cm F d v) : Jd X cm W (rV X.K cm) t (M.ret d) := by
  intro G F H σ ρ r ρ' er _ hf Q hQ
  cases hf
  exact ht _ _ _ (hQ F H er (Ext.refl F) v (hr F))
theorem pd_int {i : Int} {j : Nat} : PD X cm W (.Constant (.int i) j pos) (M.ret (.int i)) := ⟨_, pe_int, jd_const (fun _ _ _ h => h) fun _ => .int i⟩
theorem pd_bl {b : Bool} {j : Nat} : PD X cm W (.Constant (.bool b) j pos) (M.ret (.bl b)) := ⟨_, pe_bl, jd_const (fun _ _ _ h => h) fun _ => .bl b⟩
theorem pd_non {j : Nat} : PD X cm W (.Constant .none j pos) (M.ret .non) := ⟨_, pe_non, jd_const (fun _ _ _ h => h) fun _ => .non⟩
theorem pd_str {x : Str} {j : Nat} : PD X cm W (.Constant (.str x) j pos) (M.ret (.str x)) := ⟨_, pe_str, jd_const (fun _ _ _ h => h) fun _ => .str x⟩
/-- a value as an operand -/
def toO (f : M D) : M Op := M.bind f fun d => M.ret (.v d)
theorem po_of {e : Expr} {f : M D} (h : PD X cm W e f) : PO X cm W e (toO f) := by
  obtain ⟨t, ht, j⟩ := h
  refine ⟨t, ht, ?_⟩
  have := JdP.bindS (X := X) (cm := cm) (W := W) (rel2 := rO X.K cm) (t2 := fun v σ H Q => Q v H) (k := fun d => M.ret (Op.v d)) stable_true j fun d v => (show JdP X cm W _ _ _ _ from fun G F H σ ρ r ρ' er hp hf Q hQ => by
    cases hf
    exact hQ F H er (Ext.refl F) v hp.2)
  exact this
/-- a new object, frozen -/
theorem freeze_new {K : PySem.W.Frag} {G : Gd} {F' H' : Hp} {σ : St} {ρ' : Env} {d : D} {v : V} (er' : ER K cm G F' H' σ ρ') (hv : rF K cm G F' H' σ ρ' d v) {P : Prop}
    (k : ∀ F2, ER K cm G F2 H' σ ρ' → Ext F' F2 → Rp K cm F2 d v → P) : P := by
  obtain ⟨a, rfl, hg, ⟨hf', ho⟩, hn⟩ := hv
  obtain ⟨o, hH⟩ := ho.some
  have sF : Same F' (upd F' a o) := fun b u q => by rw [upd_ne (ne_of_none q hf')]; exact q
  have xF : Ext F' (upd F' a o) := Ext.of sF
  refine k (upd F' a o) ?_ xF ?_
  · refine ⟨fun b u q => ?_, er'.f0.trans xF, er'.h0, er'.live, fun b q n m => ?_, fun kk s q => ?_, er'.inj, er'.len⟩
    · by_cases c : b = a
      · subst c; rw [upd_same] at q; cases q; exact hH
      · rw [upd_ne c] at q; exact er'.sub b u q
    · have c : b ≠ a := fun z => by subst z; exact hg.elim q m
      rw [upd_ne c]; exact er'.nf b q n m
    · have hs := er'.slot kk s q
      cases s with
      | no => trivial
      | val d' => obtain ⟨v, e2, r⟩ := hs; exact ⟨v, e2, r.ext xF⟩
      | own d' =>
        obtain ⟨b, e2, q2, r⟩ := hs
        have hb : b ≠ a := fun z => by subst z; exact hn kk _ q rfl e2
        exact ⟨b, e2, q2, r.mono xF rfl (by rw [upd_ne hb]; exact r.1)⟩
      | par d' =>
        obtain ⟨b, e2, q2, r⟩ := hs
        have hb : b ≠ a := fun z => by subst z; exact hn kk _ q rfl e2
        exact ⟨b, e2, q2, r.mono xF rfl (by rw [upd_ne hb]; exact r.1)⟩
  · cases d with
    | lst ds => obtain ⟨xs, h, r⟩ := ho; rw [h] at hH; cases hH; exact .lst upd_same (r.ext xF)
    | dk ds => obtain ⟨xs, h, q, r⟩ := ho; rw [h] at hH; cases hH; exact .dk ⟨_, upd_same, rfl⟩ q (r.ext xF)
    | dt ds => obtain ⟨xs, h, q, r⟩ := ho; rw [h] at hH; cases hH; exact .dt ⟨_, upd_same, rfl⟩ q (r.ext xF)
    | ins c fs => obtain ⟨C, dx, vs, c, h, q, r⟩ := ho; rw [h] at hH; cases hH; exact .ins c upd_same q (r.ext xF)
    | _ => exact False.elim ho
theorem jd_fresh {t : TE} {f : M D} (j : Jd X cm W (rF X.K cm) t f) : Jd X cm W (rV X.K cm) t f := by
  intro G F H σ ρ r ρ' er _ hf Q hQ
  refine j G F H σ ρ r ρ' er trivial hf Q fun F' H' er' x' => ?_
  cases r with
  | exc x => exact hQ F' H' er' x'
  | ok d => exact fun v hv => freeze_new er' hv fun F2 er2 x2 hr => hQ F2 H' er2 (x'.trans x2) v hr
theorem pd_fresh {e : Expr} {f : M D} (h : PF X cm W e f) : PD X cm W e f := by
  obtain ⟨t, ht, j⟩ := h
  exact ⟨t, ht, jd_fresh j⟩
end

/-! ### operators -/
def app2 (g : D → D → Option D) (a b : Op) : M D := fun ρ => (res ρ a).bind fun x => (res ρ b).bind fun y => (g x y).bind fun d => some (.ok d, ρ)
def op2 (g : D → D → Option D) (fa fb : M Op) : M D := M.bind fa fun a => M.bind fb fun b => app2 g a b
def OpD (K : PySem.W.Frag) (cm : Str → Option Addr) (r : R2) (g : D → D → Option D) : Prop :=
  ∀ (F H : Hp) (x y : V) (dx dy d : D), Same F H → Rv K cm F H dx x → Rv K cm F H dy y → g dx dy = some d → ∀ Q : VK, (∀ F' H' v, Grow F H F' H' → Rp K cm F' d v → Q v H') → r x y H Q
section
variable {X : Cx} {cm : Str → Option Addr} {W : WX} {pos : Pos} {a b : Expr} {fa fb : M Op} {ta tb : TE}
theorem jd_op2 {r : R2} {g : D → D → Option D} (ja : Jd X cm W (rO X.K cm) ta fa) (jb : Jd X cm W (rO X.K cm) tb fb) (hg : OpD X.K cm r g) : Jd X cm W (rV X.K cm) (tOp r ta tb) (op2 g fa fb) := by
  unfold op2
  refine JdP.bindS (rel1 := rO X.K cm) (t1 := ta) (t2 := fun x σ H Q => tb σ H fun y H2 => r x y H2 Q) stable_true ja fun oa x => ?_
  refine JdP.bindS (rel1 := rO X.K cm) (t1 := tb) (t2 := fun y σ H Q => r x y H Q) (stable_and stable_true stable_rO) (jb.weak fun _ _ _ _ _ _ => trivial) fun ob y => ?_
  refine jd_fin fun G F H σ ρ r ρ' er hp hf => ?_
  obtain ⟨⟨_, hx⟩, hy⟩ := hp
  unfold app2 at hf
  cases e1 : res ρ oa with
  | none => rw [e1] at hf; cases hf
  | some dx =>
    rw [e1] at hf
    cases e2 : res ρ ob with
    | none => rw [e2] at hf; cases hf
    | some dy =>
      rw [e2] at hf
      cases e3 : g dx dy with
      | none => rw [show ((some dx).bind fun x => (some dy).bind fun y => (g x y).bind fun d => some (R.ok d, ρ)) = (g dx dy).bind fun d => some (R.ok d, ρ) from rfl, e3] at hf; cases hf
      | some d =>
        rw [show ((some dx).bind fun x => (some dy).bind fun y => (g x y).bind fun d => some (R.ok d, ρ)) = (g dx dy).bind fun d => some (R.ok d, ρ) from rfl, e3] at hf
        cases hf
        exact ⟨d, rfl, rfl, fun Q k => hg F H x y dx dy d er.sub (rO_res hx (Ext.refl F) er e1) (rO_res hy (Ext.refl F) er e2) e3 Q k⟩
theorem pd_op {op : Operator} {r : R2} {g : D → D → Option D} (ho : OpR X (binaryOp op) r) (hg : OpD X.K cm r g) (ha : PO X cm W a fa) (hb : PO X cm W b fb) : PD X cm W (.BinOp a op b pos) (op2 g fa fb) := by
  obtain ⟨ta, pa, ja⟩ := ha
  obtain ⟨tb, pb, jb⟩ := hb
  exact ⟨_, pe_op ho pa pb, jd_op2 ja jb hg⟩
theorem pd_cmp {op : CmpOp} {r : R2} {g : D → D → Option D} (ho : OpR X (compareOp op) r) (hg : OpD X.K cm r g) (ha : PO X cm W a fa) (hb : PO X cm W b fb) (hm : behindInMarks op b = false) : PD X cm W (.Compare a [op] [b] pos) (op2 g fa fb) := by
  obtain ⟨ta, pa, ja⟩ := ha
  obtain ⟨tb, pb, jb⟩ := hb
  exact ⟨_, pe_cmpR ho pa pb hm, jd_op2 ja jb hg⟩
/-- a bool's value as a test -/
def asB (f : M D) : M Bool := M.bind f fun d => match d with
  | .bl b => M.ret b
  | _ => M.fail
theorem jd_test {t : TE} {f : M D} (j : Jd X cm W (rV X.K cm) t f) : Jd X cm W rB (tTest t) (asB f) := by
  have h : JdP X cm W (fun _ _ _ _ _ => True) rB (fun σ H Q => t σ H fun v H1 => (fun v σ H Q => ∃ k, v = V.bl k ∧ Q k H) v σ H1 Q) (asB f) := by
    refine JdP.bindS stable_true j fun d v => ?_
    intro G F H σ ρ r ρ' er hp hf Q hQ
    obtain ⟨_, hr⟩ := hp
    cases d with
    | bl c =>
      cases hf
      cases hr
      exact ⟨c, rfl, hQ F H er (Ext.refl F) c rfl⟩
    | _ => cases hf
  exact h
theorem pb_cmp {op : CmpOp} {r : R2} {g : D → D → Option D} (ho : OpR X (compareOp op) r) (hg : OpD X.K cm r g) (ha : PO X cm W a fa) (hb : PO X cm W b fb) (hm : behindInMarks op b = false) : PB X cm W (.Compare a [op] [b] pos) (asB (op2 g fa fb)) := by
  obtain ⟨ta, pa, ja⟩ := ha
  obtain ⟨tb, pb, jb⟩ := hb
  exact ⟨_, pt_cmpR ho pa pb hm, jd_test (jd_op2 ja jb hg)⟩
theorem pb_val {e : Expr} {f : M D} (h : PD X cm W e f) (he : ∀ whole, isTrue e X.env whole = (do let v ← whole; standAt e.pos; holding [v] (truthy v)) := by intro _; rfl) : PB X cm W e (asB f) := by
  obtain ⟨t, p, j⟩ := h
  exact ⟨_, pt_val p he, jd_test j⟩
end

/-! ### the operators by data -/
section
variable {K : PySem.W.Frag} {cm : Str → Option Addr} {F H : Hp}
theorem Rv.int {i : Int} {v : V} (h : Rv K cm F H (.int i) v) : v = .int i := by
  rcases h with h | ⟨a, _, _, h⟩
  · cases h; rfl
  · exact False.elim h
theorem Rv.str {i : Str} {v : V} (h : Rv K cm F H (.str i) v) : v = .str i := by
  rcases h with h | ⟨a, _, _, h⟩
  · cases h; rfl
  · exact False.elim h
theorem Rv.bl {i : Bool} {v : V} (h : Rv K cm F H (.bl i) v) : v = .bl i := by
  rcases h with h | ⟨a, _, _, h⟩
  · cases h; rfl
  · exact False.elim h
theorem Rv.non {v : V} (h : Rv K cm F H .non v) : v = .non := by
  rcases h with h | ⟨a, _, _, h⟩
  · cases h; rfl
  · exact False.elim h
theorem Rv.lst {ds : List D} {v : V} (s : Same F H) (h : Rv K cm F H (.lst ds) v) : ∃ a xs, v = .ref a ∧ H a = some (.lst xs) ∧ Rps K cm F ds xs := by
  rcases h with h | ⟨a, e, _, h⟩
  · cases h with
    | lst h r => exact ⟨_, _, rfl, s _ _ h, r⟩
  · obtain ⟨xs, h, r⟩ := h
    exact ⟨a, xs, e, h, r⟩
theorem Rv.tupX {ds : List D} {v : V} (s : Same F H) (h : Rv K cm F H (.tup ds) v) : ∃ a xs, v = .ref a ∧ F a = some (.tup xs) ∧ Rps K cm F ds xs := by
  rcases h with h | ⟨a, e, _, h⟩
  · cases h with
    | tup h r => exact ⟨_, _, rfl, h, r⟩
  · exact False.elim h
theorem Rv.tup {ds : List D} {v : V} (s : Same F H) (h : Rv K cm F H (.tup ds) v) : ∃ a xs, v = .ref a ∧ SqT K H a xs ∧ Rps K cm F ds xs := by
  obtain ⟨a, xs, e, h1, r⟩ := h.tupX s
  exact ⟨a, xs, e, SqT.of (s _ _ h1), r⟩
theorem Rv.frt {ds : List D} {v : V} (s : Same F H) (h : Rv K cm F H (.frt ds) v) : ∃ a xs, v = .ref a ∧ SqT K H a xs ∧ Rps K cm F ds xs := by
  rcases h with h | ⟨a, e, _, h⟩
  · cases h with
    | frt h r => exact ⟨_, _, rfl, sqT_ext (Ext.of s) h, r⟩
  · exact False.elim h
theorem Rv.frl {ds : List D} {v : V} (s : Same F H) (h : Rv K cm F H (.frl ds) v) : ∃ a xs, v = .ref a ∧ SqL K H a xs ∧ Rps K cm F ds xs := by
  rcases h with h | ⟨a, e, _, h⟩
  · cases h with
    | frl h r => exact ⟨_, _, rfl, sqL_ext (Ext.of s) h, r⟩
  · exact False.elim h
/-- the items of a list or tuple -/
def seqOf : D → Option (List D)
  | .lst ds => some ds
  | .frl ds => some ds
  | .tup ds => some ds
  | .frt ds => some ds
  | _ => none
theorem Rv.seq {d : D} {ds : List D} {v : V} (s : Same F H) (h : Rv K cm F H d v) (e : seqOf d = some ds) : ∃ a xs, v = .ref a ∧ (SqL K H a xs ∨ SqT K H a xs) ∧ Rps K cm F ds xs := by
  cases d with
  | lst es => cases e; obtain ⟨a, xs, e1, h1, r⟩ := h.lst s; exact ⟨a, xs, e1, .inl (SqL.of h1), r⟩
  | frl es => cases e; obtain ⟨a, xs, e1, h1, r⟩ := h.frl s; exact ⟨a, xs, e1, .inl h1, r⟩
  | tup es => cases e; obtain ⟨a, xs, e1, h1, r⟩ := h.tup s; exact ⟨a, xs, e1, .inr h1, r⟩
  | frt es => cases e; obtain ⟨a, xs, e1, h1, r⟩ := h.frt s; exact ⟨a, xs, e1, .inr h1, r⟩
  | _ => cases e

def intG (C : Int → Int → Bool) (f : Int → Int → Int) : D → D → Option D
  | .int i, .int j => if C i j then some (.int (f i j)) else none
  | _, _ => none
theorem od_int {C : Int → Int → Prop} {Cb : Int → Int → Bool} {f : Int → Int → Int} (hC : ∀ i j, Cb i j = true → C i j) : OpD K cm (rI C fun i j => .int (f i j)) (intG Cb f) := by
  intro F H x y dx dy d s hx hy hg Q k
  cases dx with
  | int i =>
    cases dy with
    | int j =>
      have hx' := hx.int
      have hy' := hy.int
      have hg : (if Cb i j = true then some (D.int (f i j)) else none) = some d := hg
      by_cases c : Cb i j = true
      · rw [if_pos c] at hg
        cases hg
        exact ⟨i, j, hx', hy', hC i j c, k F H _ (Grow.refl s) (.int _)⟩
      · rw [if_neg c] at hg; cases hg
    | _ => cases hg
  | _ => cases hg
theorem od_or {r r' : R2} {g g' : D → D → Option D} (h : OpD K cm r g) (h' : OpD K cm r' g') : OpD K cm (fun x y H Q => r x y H Q ∨ r' x y H Q) (fun a b => match g a b with
    | some d => some d
    | none => g' a b) := by
  intro F H x y dx dy d s hx hy hg Q k
  cases e : g dx dy with
  | some d' =>
    have : d' = d := by
      have h2 : (match g dx dy with | some d => some d | none => g' dx dy) = some d := hg
      rw [e] at h2
      exact Option.some.inj h2
    subst this
    exact .inl (h F H x y dx dy d' s hx hy e Q k)
  | none =>
    have h2 : (match g dx dy with | some d => some d | none => g' dx dy) = some d := hg
    rw [e] at h2
    exact .inr (h' F H x y dx dy d s hx hy h2 Q k)
theorem od_imp {r : R2} {g g' : D → D → Option D} (h : OpD K cm r g) (hg : ∀ a b d, g' a b = some d → g a b = some d) : OpD K cm r g' :=
  fun F H x y dx dy d s hx hy e Q k => h F H x y dx dy d s hx hy (hg _ _ _ e) Q k
/-- a + b -/
def addG : D → D → Option D
  | .int i, .int j => some (.int (i + j))
  | .str x, .str y => if x.length + y.length ≤ sizeLine then some (.str (x ++ y)) else none
  | .lst xs, .lst ys => if xs.length + ys.length ≤ sizeLine then some (.lst (xs ++ ys)) else none
  | .tup xs, .tup ys => if xs.isEmpty = false ∧ xs.length + ys.length ≤ sizeLine then some (.tup (xs ++ ys)) else none
  | _, _ => none
def rAddS : R2 := fun x y H Q => ∃ i j, x = .str i ∧ y = .str j ∧ i.length + j.length ≤ sizeLine ∧ Q (.str (i ++ j)) H
def rAddD (K : PySem.W.Frag) : R2 := fun x y H Q => (rI0 (fun i j => .int (i + j)) x y H Q ∨ rAddS x y H Q) ∨ (rCat x y H Q ∨ rCatT K x y H Q)
theorem op_addD {X : Cx} : OpR X (binaryOp .Add) (rAddD X.K) := (op_add.or op_add_str).or (op_cat.or op_catT)
theorem od_add : OpD K cm (rAddD K) addG := by
  intro F H x y dx dy d s hx hy hg Q k
  cases dx with
  | int i =>
    cases dy with
    | int j => cases hg; exact .inl (.inl ⟨i, j, hx.int, hy.int, k F H _ (Grow.refl s) (.int _)⟩)
    | _ => cases hg
  | str i =>
    cases dy with
    | str j =>
      unfold addG at hg
      by_cases c : i.length + j.length ≤ sizeLine
      · simp only [if_pos c] at hg; cases hg; exact .inl (.inr ⟨i, j, hx.str, hy.str, c, k F H _ (Grow.refl s) (.str _)⟩)
      · simp only [if_neg c] at hg; cases hg
    | _ => cases hg
  | lst i =>
    cases dy with
    | lst j =>
      unfold addG at hg
      by_cases c : i.length + j.length ≤ sizeLine
      · simp only [if_pos c] at hg; cases hg
        obtain ⟨a, xs, e1, h1, r1⟩ := hx.lst s
        obtain ⟨b, ys, e2, h2, r2⟩ := hy.lst s
        refine .inr (.inl ⟨a, b, xs, ys, e1, e2, h1, h2, by rw [← r1.length, ← r2.length]; exact c, fun p hp => ?_⟩)
        have g := Grow.new (o := .lst (xs ++ ys)) s hp
        exact k _ _ _ g (.lst upd_same ((r1.append r2).ext (Ext.of g.f)))
      · simp only [if_neg c] at hg; cases hg
    | _ => cases hg
  | tup i =>
    cases dy with
    | tup j =>
      unfold addG at hg
      by_cases c : i.isEmpty = false ∧ i.length + j.length ≤ sizeLine
      · simp only [if_pos c] at hg; cases hg
        obtain ⟨a, xs, e1, h1, r1⟩ := hx.tup s
        obtain ⟨b, ys, e2, h2, r2⟩ := hy.tup s
        refine .inr (.inr ⟨a, b, xs, ys, e1, e2, h1, h2, ?_, by rw [← r1.length, ← r2.length]; exact c.2, fun z => ?_, fun _ p hp => ?_⟩)
        · rintro rfl
          cases r1
          exact absurd c.1 (by decide)
        · subst z
          cases r2
          rw [List.append_nil] at k
          have hx' : Rp K cm F (.tup i) x := by
            rcases hx with h | ⟨_, _, _, h⟩
            · exact h
            · exact False.elim h
          rw [← e1]
          exact k F H _ (Grow.refl s) hx'
        · have g := Grow.new (o := .tup (xs ++ ys)) s hp
          exact k _ _ _ g (.tup upd_same ((r1.append r2).ext (Ext.of g.f)))
      · simp only [if_neg c] at hg; cases hg
    | _ => cases hg
  | _ => cases dy <;> cases hg
end
end Pd

/-! Pd3: comparisons, tests, arguments, displays, subscripts, built-in calls. -/
namespace Pd
open PySem PySem.Spec L2

/-! ### == -/
mutual
def toPy : D → Option PyData
  | .non => some .none
  | .bl b => some (.bool b)
  | .int i => some (.int i)
  | .str x => some (.str x)
  | .tup xs => (toPys xs).map .tuple
  | .lst xs => (toPys xs).map .list
  | .frl xs => (toPys xs).map .list
  | .frt xs => (toPys xs).map .tuple
  | .dk _ => none
  | .dt _ => none
  | .ins _ _ => none
def toPys : List D → Option (List PyData)
  | [] => some []
  | d :: ds => (toPy d).bind fun p => (toPys ds).map fun ps => p :: ps
end
section
variable {K : PySem.W.Frag} {cm : Str → Option Addr} {F H : Hp}
mutual
theorem Rp.dp (s : Same F H) : ∀ {d : D} {v : V} {p : PyData}, Rp K cm F d v → toPy d = some p → Dp K H v p
  | _, _, _, .non, e => by cases e; exact .non
  | _, _, _, .bl b, e => by cases e; exact .bl b
  | _, _, _, .int b, e => by cases e; exact .int b
  | _, _, _, .str b, e => by cases e; exact .str b
  | .tup ds, _, p, .tup h r, e => by
    have e : (toPys ds).map PyData.tuple = some p := e
    cases q : toPys ds with
    | none => rw [q] at e; cases e
    | some ps => rw [q] at e; cases e; exact .tup (SqT.of (s _ _ h)) (Rps.dp s r q)
  | .frt ds, _, p, .frt h r, e => by
    have e : (toPys ds).map PyData.tuple = some p := e
    cases q : toPys ds with
    | none => rw [q] at e; cases e
    | some ps => rw [q] at e; cases e; exact .tup (sqT_ext (Ext.of s) h) (Rps.dp s r q)
  | .lst ds, _, p, .lst h r, e => by
    have e : (toPys ds).map PyData.list = some p := e
    cases q : toPys ds with
    | none => rw [q] at e; cases e
    | some ps => rw [q] at e; cases e; exact .lst (SqL.of (s _ _ h)) (Rps.dp s r q)
  | .frl ds, _, p, .frl h r, e => by
    have e : (toPys ds).map PyData.list = some p := e
    cases q : toPys ds with
    | none => rw [q] at e; cases e
    | some ps => rw [q] at e; cases e; exact .lst (sqL_ext (Ext.of s) h) (Rps.dp s r q)
theorem Rps.dp (s : Same F H) : ∀ {ds : List D} {vs : List V} {ps : List PyData}, Rps K cm F ds vs → toPys ds = some ps → DpAll K H vs ps
  | _, _, _, .nil, e => by cases e; exact .nil
  | d :: ds, _, ps, .cons h r, e => by
    have e : ((toPy d).bind fun p => (toPys ds).map fun ps => p :: ps) = some ps := e
    cases q : toPy d with
    | none => rw [q] at e; cases e
    | some p =>
      rw [q] at e
      have e : ((toPys ds).map fun ps => p :: ps) = some ps := e
      cases q2 : toPys ds with
      | none => rw [q2] at e; cases e
      | some ps2 => rw [q2] at e; cases e; exact .cons (Rp.dp s h q) (Rps.dp s r q2)
end
theorem Rv.dp {d : D} {v : V} {p : PyData} (s : Same F H) (h : Rv K cm F H d v) (e : toPy d = some p) : Dp K H v p := by
  rcases h with h | ⟨a, rfl, _, h⟩
  · exact h.dp s e
  · cases d with
    | lst ds =>
      obtain ⟨xs, h, r⟩ := h
      have e : (toPys ds).map PyData.list = some p := e
      cases q : toPys ds with
      | none => rw [q] at e; cases e
      | some ps => rw [q] at e; cases e; exact .lst (SqL.of h) (Rps.dp s r q)
    | dk _ => cases e
    | dt _ => cases e
    | ins _ _ => cases e
    | _ => exact False.elim h
end
def eqP (a b : D) : Option Bool := (toPy a).bind fun p => (toPy b).bind fun q => if SeqAt.shaped p = true ∧ SeqAt.shaped q = true then some (PyData.eqv p q) else none
def eqG (a b : D) : Option D := (eqP a b).map .bl
def neG (a b : D) : Option D := (eqP a b).map fun k => .bl (!k)
theorem eqP_some {a b : D} {k : Bool} (h : eqP a b = some k) : ∃ p q, toPy a = some p ∧ toPy b = some q ∧ SeqAt.shaped p = true ∧ SeqAt.shaped q = true ∧ k = PyData.eqv p q := by
  unfold eqP at h
  cases e1 : toPy a with
  | none => rw [e1] at h; cases h
  | some p =>
    rw [e1] at h
    cases e2 : toPy b with
    | none => rw [e2] at h; cases h
    | some q =>
      rw [e2] at h
      have h : (if SeqAt.shaped p = true ∧ SeqAt.shaped q = true then some (PyData.eqv p q) else none) = some k := h
      by_cases c : SeqAt.shaped p = true ∧ SeqAt.shaped q = true
      · rw [if_pos c] at h; cases h; exact ⟨p, q, rfl, rfl, c.1, c.2, rfl⟩
      · rw [if_neg c] at h; cases h
theorem od_eq {K : PySem.W.Frag} {cm : Str → Option Addr} : OpD K cm (rEqD K) eqG := by
  intro F H x y dx dy d s hx hy hg Q k
  unfold eqG at hg
  cases e : eqP dx dy with
  | none => rw [e] at hg; cases hg
  | some b =>
    rw [e] at hg; cases hg
    obtain ⟨p, q, h1, h2, s1, s2, rfl⟩ := eqP_some e
    exact ⟨p, q, hx.dp s h1, hy.dp s h2, s1, s2, k F H _ (Grow.refl s) (.bl _)⟩
theorem od_ne {K : PySem.W.Frag} {cm : Str → Option Addr} : OpD K cm (rNeD K) neG := by
  intro F H x y dx dy d s hx hy hg Q k
  unfold neG at hg
  cases e : eqP dx dy with
  | none => rw [e] at hg; cases hg
  | some b =>
    rw [e] at hg; cases hg
    obtain ⟨p, q, h1, h2, s1, s2, rfl⟩ := eqP_some e
    exact ⟨p, q, hx.dp s h1, hy.dp s h2, s1, s2, k F H _ (Grow.refl s) (.bl _)⟩

/-! ### order of ints and texts -/
def rCmp (fi : Int → Int → Bool) (fs : Str → Str → Bool) : R2 := fun x y H Q => rI0 (fun i j => .bl (fi i j)) x y H Q ∨ ∃ i j, x = .str i ∧ y = .str j ∧ Q (.bl (fs i j)) H
def cmpG (fi : Int → Int → Bool) (fs : Str → Str → Bool) : D → D → Option D
  | .int i, .int j => some (.bl (fi i j))
  | .str i, .str j => some (.bl (fs i j))
  | _, _ => none
theorem od_cmp {K : PySem.W.Frag} {cm : Str → Option Addr} {fi : Int → Int → Bool} {fs : Str → Str → Bool} : OpD K cm (rCmp fi fs) (cmpG fi fs) := by
  intro F H x y dx dy d s hx hy hg Q k
  cases dx with
  | int i =>
    cases dy with
    | int j => cases hg; exact .inl ⟨i, j, hx.int, hy.int, k F H _ (Grow.refl s) (.bl _)⟩
    | _ => cases hg
  | str i =>
    cases dy with
    | str j => cases hg; exact .inr ⟨i, j, hx.str, hy.str, k F H _ (Grow.refl s) (.bl _)⟩
    | _ => cases hg
  | _ => cases dy <;> cases hg
def ltS (i j : Str) : Bool := decide (i.cps.toList < j.cps.toList)
abbrev ltG := cmpG (fun i j => decide (i < j)) ltS
abbrev leG := cmpG (fun i j => decide (i ≤ j)) (fun i j => !ltS j i)
abbrev gtG := cmpG (fun i j => decide (j < i)) (fun i j => ltS j i)
abbrev geG := cmpG (fun i j => decide (j ≤ i)) (fun i j => !ltS i j)
section
variable {X : Cx}
theorem op_ltC : OpR X (compareOp .Lt) (rCmp (fun i j => decide (i < j)) ltS) := op_lt.or op_lt_str
theorem op_leC : OpR X (compareOp .LtE) (rCmp (fun i j => decide (i ≤ j)) (fun i j => !ltS j i)) := op_le.or op_le_str
theorem op_gtC : OpR X (compareOp .Gt) (rCmp (fun i j => decide (j < i)) (fun i j => ltS j i)) := op_gt.or op_gt_str
theorem op_geC : OpR X (compareOp .GtE) (rCmp (fun i j => decide (j ≤ i)) (fun i j => !ltS i j)) := op_ge.or op_ge_str
end
/-! ### in, is None -/
/-- what is flat, as a value -/
def flatOf : D → Option V
  | .non => some .non
  | .bl b => some (.bl b)
  | .int i => some (.int i)
  | .str x => some (.str x)
  | _ => none
def flats : List D → Option (List V)
  | [] => some []
  | d :: ds => (flatOf d).bind fun v => (flats ds).map fun vs => v :: vs
theorem flatOf_rp {K : PySem.W.Frag} {cm : Str → Option Addr} {F : Hp} {d : D} {v w : V} (h : Rp K cm F d v) (e : flatOf d = some w) : v = w ∧ flatV w = true := by
  cases h <;> cases e <;> exact ⟨rfl, rfl⟩
theorem flats_rps {K : PySem.W.Frag} {cm : Str → Option Addr} {F : Hp} : ∀ {ds : List D} {vs ws : List V}, Rps K cm F ds vs → flats ds = some ws → vs = ws ∧ ws.all flatV = true
  | _, _, _, .nil, e => by cases e; exact ⟨rfl, rfl⟩
  | d :: ds, _, ws, .cons h r, e => by
    have e : ((flatOf d).bind fun v => (flats ds).map fun vs => v :: vs) = some ws := e
    cases q : flatOf d with
    | none => rw [q] at e; cases e
    | some w =>
      rw [q] at e
      have e : ((flats ds).map fun vs => w :: vs) = some ws := e
      cases q2 : flats ds with
      | none => rw [q2] at e; cases e
      | some w2 =>
        rw [q2] at e; cases e
        obtain ⟨e1, f1⟩ := flatOf_rp h q
        obtain ⟨e2, f2⟩ := flats_rps r q2
        subst e1; subst e2
        exact ⟨rfl, by simp [f1, f2]⟩
def strOf : D → Option Str
  | .str z => some z
  | _ => none
def signOf (d : D) : Option Nat := match strOf d with
  | none => none
  | some s => match s.cps.toList with
    | [c] => some c
    | _ => none
theorem signOf_eq {d : D} {c : Nat} (h : signOf d = some c) : d = .str ⟨#[c]⟩ := by
  cases d with
  | str s =>
    have h : (match s.cps.toList with | [c] => some c | _ => none) = some c := h
    obtain ⟨⟨l⟩⟩ := s
    match l, h with
    | [c'], h => cases h; rfl
  | _ => cases h
theorem strOf_eq {d : D} {z : Str} (h : strOf d = some z) : d = .str z := by
  cases d <;> cases h
  rfl
def inB (x : D) (ys : D) : Option Bool := match strOf ys with
  | some z => (signOf x).map fun c => decide (c ∈ z.cps.toList)
  | none => (seqOf ys).bind fun l => (flatOf x).bind fun v => (flats l).bind fun vs => some (inV v vs)
def inG (x y : D) : Option D := (inB x y).map .bl
def notInG (x y : D) : Option D := (inB x y).map fun k => .bl (!k)
def rInD (K : PySem.W.Frag) : R2 := fun x y H Q => rIn K false x y H Q ∨ ∃ (c : Nat) (z : Str), x = .str ⟨#[c]⟩ ∧ y = .str z ∧ Q (.bl (decide (c ∈ z.cps.toList))) H
def rNotInD (K : PySem.W.Frag) : R2 := fun x y H Q => rIn K true x y H Q ∨ ∃ (c : Nat) (z : Str), x = .str ⟨#[c]⟩ ∧ y = .str z ∧ Q (.bl (!decide (c ∈ z.cps.toList))) H
theorem Rv.flat {K : PySem.W.Frag} {cm : Str → Option Addr} {F H : Hp} {d : D} {v w : V} (h : Rv K cm F H d v) (e : flatOf d = some w) : v = w ∧ flatV w = true := by
  rcases h with h | ⟨_, _, _, h⟩
  · exact flatOf_rp h e
  · cases d <;> first | exact False.elim h | cases e
theorem inB_case {K : PySem.W.Frag} {cm : Str → Option Addr} {F H : Hp} {x y : V} {dx dy : D} {b : Bool} (s : Same F H) (hx : Rv K cm F H dx x) (hy : Rv K cm F H dy y) (h : inB dx dy = some b) :
    (∃ p xs, y = .ref p ∧ (SqL K H p xs ∨ SqT K H p xs) ∧ flatV x = true ∧ xs.all flatV = true ∧ b = inV x xs) ∨ (∃ (c : Nat) (z : Str), x = .str ⟨#[c]⟩ ∧ y = .str z ∧ b = decide (c ∈ z.cps.toList)) := by
  have gen : ((seqOf dy).bind fun l => (flatOf dx).bind fun v => (flats l).bind fun vs => some (inV v vs)) = some b →
      ∃ p xs, y = .ref p ∧ (SqL K H p xs ∨ SqT K H p xs) ∧ flatV x = true ∧ xs.all flatV = true ∧ b = inV x xs := by
    intro h
    cases q : seqOf dy with
    | none => rw [q] at h; cases h
    | some l =>
      rw [q] at h
      have h : ((flatOf dx).bind fun v => (flats l).bind fun vs => some (inV v vs)) = some b := h
      cases q1 : flatOf dx with
      | none => rw [q1] at h; cases h
      | some w =>
        rw [q1] at h
        have h : ((flats l).bind fun vs => some (inV w vs)) = some b := h
        cases q2 : flats l with
        | none => rw [q2] at h; cases h
        | some ws =>
          rw [q2] at h; cases h
          obtain ⟨a, xs, e, hs, r⟩ := hy.seq s q
          obtain ⟨e1, f1⟩ := hx.flat q1
          obtain ⟨e2, f2⟩ := flats_rps r q2
          subst e1; subst e2
          exact ⟨a, _, e, hs, f1, f2, rfl⟩
  unfold inB at h
  cases q : strOf dy with
  | some z =>
    rw [q] at h
    have h : ((signOf dx).map fun c => decide (c ∈ z.cps.toList)) = some b := h
    have ey := strOf_eq q
    subst ey
    cases q2 : signOf dx with
    | none => rw [q2] at h; cases h
    | some c =>
      rw [q2] at h; cases h
      have ex := signOf_eq q2
      subst ex
      exact .inr ⟨c, z, hx.str, hy.str, rfl⟩
  | none =>
    rw [q] at h
    exact .inl (gen h)
theorem od_in {K : PySem.W.Frag} {cm : Str → Option Addr} : OpD K cm (rInD K) inG := by
  intro F H x y dx dy d s hx hy hg Q k
  unfold inG at hg
  cases e : inB dx dy with
  | none => rw [e] at hg; cases hg
  | some b =>
    rw [e] at hg; cases hg
    have k' := k F H _ (Grow.refl s) (.bl b)
    rcases inB_case s hx hy e with ⟨p, xs, e1, h1, f1, f2, rfl⟩ | ⟨c, z, e1, e2, rfl⟩
    · exact .inl ⟨p, xs, e1, h1, f1, f2, k'⟩
    · exact .inr ⟨c, z, e1, e2, k'⟩
theorem od_notIn {K : PySem.W.Frag} {cm : Str → Option Addr} : OpD K cm (rNotInD K) notInG := by
  intro F H x y dx dy d s hx hy hg Q k
  unfold notInG at hg
  cases e : inB dx dy with
  | none => rw [e] at hg; cases hg
  | some b =>
    rw [e] at hg; cases hg
    have k' := k F H _ (Grow.refl s) (.bl (!b))
    rcases inB_case s hx hy e with ⟨p, xs, e1, h1, f1, f2, rfl⟩ | ⟨c, z, e1, e2, rfl⟩
    · exact .inl ⟨p, xs, e1, h1, f1, f2, k'⟩
    · exact .inr ⟨c, z, e1, e2, k'⟩
theorem op_inD {X : Cx} : OpR X (compareOp .In) (rInD X.K) := op_in_seq.or op_in_sign
theorem op_notInD {X : Cx} : OpR X (compareOp .NotIn) (rNotInD X.K) := op_notIn_seq.or op_notIn_sign
def isNon : D → Bool
  | .non => true
  | _ => false
theorem Rv.isNon {K : PySem.W.Frag} {cm : Str → Option Addr} {F H : Hp} {d : D} {v : V} (h : Rv K cm F H d v) : decide (v = .non) = isNon d := by
  rcases h with h | ⟨a, rfl, _, h⟩
  · cases h <;> simp [Pd.isNon]
  · cases d <;> first | exact False.elim h | simp [Pd.isNon]
def isG : D → D → Option D
  | d, .non => some (.bl (isNon d))
  | _, _ => none
def isNotG : D → D → Option D
  | d, .non => some (.bl (!isNon d))
  | _, _ => none
theorem od_is {K : PySem.W.Frag} {cm : Str → Option Addr} : OpD K cm (fun x y H Q => y = .non ∧ Q (.bl (decide (x = .non))) H) isG := by
  intro F H x y dx dy d s hx hy hg Q k
  cases dy with
  | non =>
    have e : d = .bl (isNon dx) := by cases dx <;> exact (Option.some.inj hg).symm
    subst e
    exact ⟨hy.non, by rw [hx.isNon]; exact k F H _ (Grow.refl s) (.bl _)⟩
  | _ => cases dx <;> cases hg
theorem od_isNot {K : PySem.W.Frag} {cm : Str → Option Addr} : OpD K cm (fun x y H Q => y = .non ∧ Q (.bl (!decide (x = .non))) H) isNotG := by
  intro F H x y dx dy d s hx hy hg Q k
  cases dy with
  | non =>
    have e : d = .bl (!isNon dx) := by cases dx <;> exact (Option.some.inj hg).symm
    subst e
    exact ⟨hy.non, by rw [hx.isNon]; exact k F H _ (Grow.refl s) (.bl _)⟩
  | _ => cases dx <;> cases hg

/-! ### tests -/
def andB (f g : M Bool) : M Bool := M.bind f fun c => if c = true then g else M.ret false
def orB (f g : M Bool) : M Bool := M.bind f fun c => if c = true then M.ret true else g
def notB (f : M Bool) : M Bool := M.bind f fun c => M.ret (!c)
def ifD (f : M Bool) (g h : M D) : M D := M.bind f fun c => if c = true then g else h
def andD (f g : M D) : M D := M.bind f fun d => match d with
  | .bl true => g
  | .bl false => M.ret (.bl false)
  | _ => M.fail
def orD (f g : M D) : M D := M.bind f fun d => match d with
  | .bl true => M.ret (.bl true)
  | .bl false => g
  | _ => M.fail
def notD (f : M D) : M D := M.bind f fun d => match d with
  | .bl b => M.ret (.bl (!b))
  | _ => M.fail
/-- a value's truth -/
def truG : D → Option Bool
  | .non => some false
  | .bl b => some b
  | .int i => some (i != 0)
  | .str x => if x.length ≤ sizeLine then some ((x.length : Int) != 0) else none
  | .tup xs => some (!xs.isEmpty)
  | .lst xs => some (!xs.isEmpty)
  | .frl xs => some (!xs.isEmpty)
  | .frt xs => some (!xs.isEmpty)
  | _ => none
def truB (f : M Op) : M Bool := M.bind f fun o ρ => (res ρ o).bind fun d => (truG d).bind fun b => some (.ok b, ρ)
section
variable {X : Cx} {cm : Str → Option Addr} {W : WX} {pos : Pos} {a b c : Expr} {rest : List Expr} {fa fb fc : M D} {ga gb : M Bool}
def PWB (X : Cx) (cm : Str → Option Addr) (W : WX) (e : Expr) (f : M Bool) : Prop := ∃ t : TT, PW X e t ∧ Jd X cm W rB t f
theorem pb_w {e : Expr} {f : M Bool} (h : PWB X cm W e f) : PB X cm W e f := by
  obtain ⟨t, p, j⟩ := h
  exact ⟨t, p.pt, j⟩
theorem jd_retB {P : Gd → Hp → Hp → St → Env → Prop} {b : Bool} : JdP X cm W P rB (fun _ H Q => Q b H) (M.ret b) := by
  intro G F H σ ρ r ρ' er _ hf Q hQ
  cases hf
  exact hQ F H er (Ext.refl F) b rfl
theorem jd_and {t u : TT} (ja : Jd X cm W rB t ga) (jb : Jd X cm W rB u gb) : Jd X cm W rB (tAnd t u) (andB ga gb) := by
  unfold andB
  refine JdP.bindS (rel1 := rB) (t1 := t) (t2 := fun c σ H Q => if c = true then u σ H Q else Q false H) stable_true ja fun c c' => ?_
  intro G F H σ ρ r ρ' er hp hf Q hQ
  obtain ⟨_, rfl⟩ := hp
  cases c with
  | true => exact jb G F H σ ρ r ρ' er trivial hf Q hQ
  | false => exact jd_retB (P := fun _ _ _ _ _ => True) G F H σ ρ r ρ' er trivial hf Q hQ
theorem jd_or {t u : TT} (ja : Jd X cm W rB t ga) (jb : Jd X cm W rB u gb) : Jd X cm W rB (tOr t u) (orB ga gb) := by
  unfold orB
  refine JdP.bindS (rel1 := rB) (t1 := t) (t2 := fun c σ H Q => if c = true then Q true H else u σ H Q) stable_true ja fun c c' => ?_
  intro G F H σ ρ r ρ' er hp hf Q hQ
  obtain ⟨_, rfl⟩ := hp
  cases c with
  | false => exact jb G F H σ ρ r ρ' er trivial hf Q hQ
  | true => exact jd_retB (P := fun _ _ _ _ _ => True) G F H σ ρ r ρ' er trivial hf Q hQ
theorem pw_and1' (h : PB X cm W a ga) : PWB X cm W (.BoolOp .And [a] pos) ga := by
  obtain ⟨t, p, j⟩ := h
  exact ⟨t, pw_and1 p, j⟩
theorem pw_or1' (h : PB X cm W a ga) : PWB X cm W (.BoolOp .Or [a] pos) ga := by
  obtain ⟨t, p, j⟩ := h
  exact ⟨t, pw_or1 p, j⟩
theorem pw_and' (h : PB X cm W a ga) (h2 : PWB X cm W (.BoolOp .And (b :: rest) pos) gb) : PWB X cm W (.BoolOp .And (a :: b :: rest) pos) (andB ga gb) := by
  obtain ⟨t, p, j⟩ := h
  obtain ⟨u, p2, j2⟩ := h2
  exact ⟨_, pw_and p p2, jd_and j j2⟩
theorem pw_or' (h : PB X cm W a ga) (h2 : PWB X cm W (.BoolOp .Or (b :: rest) pos) gb) : PWB X cm W (.BoolOp .Or (a :: b :: rest) pos) (orB ga gb) := by
  obtain ⟨t, p, j⟩ := h
  obtain ⟨u, p2, j2⟩ := h2
  exact ⟨_, pw_or p p2, jd_or j j2⟩
theorem pb_not (h : PB X cm W a ga) : PB X cm W (.UnaryOp .Not a pos) (notB ga) := by
  obtain ⟨t, p, j⟩ := h
  refine ⟨_, pt_not p, ?_⟩
  unfold notB
  refine JdP.bindS (rel1 := rB) (t1 := t) (t2 := fun c σ H Q => Q (!c) H) stable_true j fun c c' => ?_
  intro G F H σ ρ r ρ' er hp hf Q hQ
  obtain ⟨_, rfl⟩ := hp
  cases hf
  exact hQ F H er (Ext.refl F) _ rfl
theorem pd_ifExp (hc : PB X cm W c ga) (ha : PD X cm W a fa) (hb : PD X cm W b fb) : PD X cm W (.IfExp c a b pos) (ifD ga fa fb) := by
  obtain ⟨t, p, j⟩ := hc
  obtain ⟨ta, pa, ja⟩ := ha
  obtain ⟨tb, pb, jb⟩ := hb
  refine ⟨_, pe_ifExp p pa pb, ?_⟩
  unfold ifD
  refine JdP.bindS (rel1 := rB) (t1 := t) (t2 := fun c σ H Q => if c = true then ta σ H Q else tb σ H Q) stable_true j fun c c' => ?_
  intro G F H σ ρ r ρ' er hp hf Q hQ
  obtain ⟨_, rfl⟩ := hp
  cases c with
  | true => exact ja G F H σ ρ r ρ' er trivial hf Q hQ
  | false => exact jb G F H σ ρ r ρ' er trivial hf Q hQ
theorem pd_one {op : BoolOp} (h : PD X cm W a fa) : PD X cm W (.BoolOp op [a] pos) fa := by
  obtain ⟨t, p, j⟩ := h
  exact ⟨t, pe_one p, j⟩
theorem pd_and (ha : PD X cm W a fa) (hb : PD X cm W (.BoolOp .And (b :: rest) pos) fb) : PD X cm W (.BoolOp .And (a :: b :: rest) pos) (andD fa fb) := by
  obtain ⟨ta, pa, ja⟩ := ha
  obtain ⟨tb, pb, jb⟩ := hb
  refine ⟨_, pe_and pa pb, ?_⟩
  unfold andD
  refine JdP.bindS (rel1 := rV X.K cm) (t1 := ta) (t2 := fun x σ H Q => ∃ c, x = V.bl c ∧ if c = true then tb σ H Q else Q (.bl false) H) stable_true ja fun d x => ?_
  intro G F H σ ρ r ρ' er hp hf Q hQ
  obtain ⟨_, hr⟩ := hp
  cases d with
  | bl k =>
    cases hr
    refine ⟨k, rfl, ?_⟩
    cases k with
    | true => exact jb G F H σ ρ r ρ' er trivial hf Q hQ
    | false => cases hf; exact hQ F H er (Ext.refl F) _ (.bl false)
  | _ => cases hf
theorem pd_or (ha : PD X cm W a fa) (hb : PD X cm W (.BoolOp .Or (b :: rest) pos) fb) : PD X cm W (.BoolOp .Or (a :: b :: rest) pos) (orD fa fb) := by
  obtain ⟨ta, pa, ja⟩ := ha
  obtain ⟨tb, pb, jb⟩ := hb
  refine ⟨_, pe_or pa pb, ?_⟩
  unfold orD
  refine JdP.bindS (rel1 := rV X.K cm) (t1 := ta) (t2 := fun x σ H Q => ∃ c, x = V.bl c ∧ if c = true then Q (.bl true) H else tb σ H Q) stable_true ja fun d x => ?_
  intro G F H σ ρ r ρ' er hp hf Q hQ
  obtain ⟨_, hr⟩ := hp
  cases d with
  | bl k =>
    cases hr
    refine ⟨k, rfl, ?_⟩
    cases k with
    | false => exact jb G F H σ ρ r ρ' er trivial hf Q hQ
    | true => cases hf; exact hQ F H er (Ext.refl F) _ (.bl true)
  | _ => cases hf
theorem pd_not (ha : PD X cm W a fa) : PD X cm W (.UnaryOp .Not a pos) (notD fa) := by
  obtain ⟨ta, pa, ja⟩ := ha
  refine ⟨_, pe_not pa, ?_⟩
  unfold notD
  refine JdP.bindS (rel1 := rV X.K cm) (t1 := ta) (t2 := fun x σ H Q => ∃ c, x = V.bl c ∧ Q (V.bl (!c)) H) stable_true ja fun d x => ?_
  intro G F H σ ρ r ρ' er hp hf Q hQ
  obtain ⟨_, hr⟩ := hp
  cases d with
  | bl k =>
    cases hr
    cases hf
    exact ⟨k, rfl, hQ F H er (Ext.refl F) _ (.bl _)⟩
  | _ => cases hf
theorem tru_rv {F H : Hp} {d : D} {x : V} {k : Bool} (s : Same F H) (h : Rv X.K cm F H d x) (e : truG d = some k) : TruV X.K x H k := by
  cases d with
  | non => cases e; rw [h.non]; exact rfl
  | bl b => cases e; rw [h.bl]; exact rfl
  | int i => cases e; rw [h.int]; exact rfl
  | str z =>
    rw [h.str]
    have e : (if z.length ≤ sizeLine then some ((z.length : Int) != 0) else none) = some k := e
    by_cases c : z.length ≤ sizeLine
    · rw [if_pos c] at e; cases e; exact ⟨c, rfl⟩
    · rw [if_neg c] at e; cases e
  | tup ds =>
    cases e
    obtain ⟨a, xs, rfl, h1, r⟩ := h.tup s
    exact .inr (.inl ⟨xs, h1, by cases r <;> rfl⟩)
  | frt ds =>
    cases e
    obtain ⟨a, xs, rfl, h1, r⟩ := h.frt s
    exact .inr (.inl ⟨xs, h1, by cases r <;> rfl⟩)
  | lst ds =>
    cases e
    obtain ⟨a, xs, rfl, h1, r⟩ := h.lst s
    exact .inl ⟨xs, SqL.of h1, by cases r <;> rfl⟩
  | frl ds =>
    cases e
    obtain ⟨a, xs, rfl, h1, r⟩ := h.frl s
    exact .inl ⟨xs, h1, by cases r <;> rfl⟩
  | _ => cases e
theorem pb_truth {f : M Op} (h : PO X cm W a f) (he : ∀ whole, isTrue a X.env whole = (do let v ← whole; standAt a.pos; holding [v] (truthy v)) := by intro _; rfl) : PB X cm W a (truB f) := by
  obtain ⟨t, p, j⟩ := h
  refine ⟨_, pt_truth p he, ?_⟩
  unfold truB
  refine JdP.bindS (rel1 := rO X.K cm) (t1 := t) (t2 := fun x σ H Q => ∃ k, TruV X.K x H k ∧ Q k H) stable_true j fun o x => ?_
  intro G F H σ ρ r ρ' er hp hf Q hQ
  obtain ⟨_, ho⟩ := hp
  have hf : ((res ρ o).bind fun d => (truG d).bind fun b => some (R.ok b, ρ)) = some (r, ρ') := hf
  cases e1 : res ρ o with
  | none => rw [e1] at hf; cases hf
  | some d =>
    rw [e1] at hf
    have hf : ((truG d).bind fun b => some (R.ok b, ρ)) = some (r, ρ') := hf
    cases e2 : truG d with
    | none => rw [e2] at hf; cases hf
    | some k =>
      rw [e2] at hf; cases hf
      exact ⟨k, tru_rv er.sub (rO_res ho (Ext.refl F) er e1) e2, hQ F H er (Ext.refl F) k rfl⟩
end
/-! ### a op b op c -/
def chain3 (g g' : D → D → Option D) (fa fb fc : M Op) : M D := M.bind fa fun a => M.bind fb fun b => M.bind (app2 g a b) fun z => match z with
  | .bl true => M.bind fc fun c => app2 g' b c
  | .bl false => M.ret (.bl false)
  | _ => M.fail
theorem jd_app2 {X : Cx} {cm : Str → Option Addr} {W : WX} {r : R2} {g : D → D → Option D} {oa ob : Op} {x y : V} (hg : OpD X.K cm r g) :
    JdP X cm W (fun G F H σ ρ => rO X.K cm G F H σ ρ oa x ∧ rO X.K cm G F H σ ρ ob y) (rV X.K cm) (fun _ H Q => r x y H Q) (app2 g oa ob) := by
  refine jd_fin fun G F H σ ρ r ρ' er hp hf => ?_
  obtain ⟨hx, hy⟩ := hp
  unfold app2 at hf
  cases e1 : res ρ oa with
  | none => rw [e1] at hf; cases hf
  | some dx =>
    rw [e1] at hf
    cases e2 : res ρ ob with
    | none => rw [e2] at hf; cases hf
    | some dy =>
      rw [e2] at hf
      have hf : ((g dx dy).bind fun d => some (R.ok d, ρ)) = some (r, ρ') := hf
      cases e3 : g dx dy with
      | none => rw [e3] at hf; cases hf
      | some d =>
        rw [e3] at hf
        cases hf
        exact ⟨d, rfl, rfl, fun Q k => hg F H x y dx dy d er.sub (rO_res hx (Ext.refl F) er e1) (rO_res hy (Ext.refl F) er e2) e3 Q k⟩
section
variable {X : Cx} {cm : Str → Option Addr} {W : WX} {pos : Pos} {a b c : Expr} {fa fb fc : M Op}
theorem jd_chain {r r' : R2} {g g' : D → D → Option D} {ta tb tc : TE} (ja : Jd X cm W (rO X.K cm) ta fa) (jb : Jd X cm W (rO X.K cm) tb fb) (jc : Jd X cm W (rO X.K cm) tc fc) (hg : OpD X.K cm r g) (hg' : OpD X.K cm r' g') :
    Jd X cm W (rV X.K cm) (tChain r r' ta tb tc) (chain3 g g' fa fb fc) := by
  unfold chain3
  refine JdP.bindS (rel1 := rO X.K cm) (t1 := ta) (t2 := fun x σ H Q => tb σ H fun y H2 => r x y H2 fun z H3 => ∃ k, z = .bl k ∧ (if k = true then tc σ H3 fun w' H4 => r' y w' H4 Q else Q (.bl false) H3)) stable_true ja fun oa x => ?_
  refine JdP.bindS (rel1 := rO X.K cm) (t1 := tb) (t2 := fun y σ H Q => r x y H fun z H3 => ∃ k, z = .bl k ∧ (if k = true then tc σ H3 fun w' H4 => r' y w' H4 Q else Q (.bl false) H3)) (stable_and stable_true stable_rO) (jb.weak fun _ _ _ _ _ _ => trivial) fun ob y => ?_
  refine JdP.bindS (rel1 := rV X.K cm) (t1 := fun _ H Q => r x y H Q) (t2 := fun z σ H3 Q => ∃ k, z = .bl k ∧ (if k = true then tc σ H3 fun w' H4 => r' y w' H4 Q else Q (.bl false) H3)) (stable_and (stable_and stable_true stable_rO) stable_rO)
    ((jd_app2 hg).weak fun _ _ _ _ _ h => ⟨h.1.2, h.2⟩) fun z zv => ?_
  intro G F H σ ρ q ρ' er hp hf Q hQ
  obtain ⟨⟨⟨_, hx⟩, hy⟩, hz⟩ := hp
  cases z with
  | bl k =>
    cases hz
    refine ⟨k, rfl, ?_⟩
    cases k with
    | true =>
      exact JdP.bindS (P := fun G F H σ ρ => rO X.K cm G F H σ ρ ob y) (rel1 := rO X.K cm) (t1 := tc) (t2 := fun w' σ H Q => r' y w' H Q) stable_rO (jc.weak fun _ _ _ _ _ _ => trivial) (fun oc w => jd_app2 hg') G F H σ ρ q ρ' er hy hf Q hQ
    | false => cases hf; exact hQ F H er (Ext.refl F) _ (.bl false)
  | _ => cases hf
theorem pd_chain {op op' : CmpOp} {r r' : R2} {g g' : D → D → Option D} (ho : OpR X (compareOp op) r) (ho' : OpR X (compareOp op') r') (hg : OpD X.K cm r g) (hg' : OpD X.K cm r' g') (ha : PO X cm W a fa) (hb : PO X cm W b fb) (hc : PO X cm W c fc)
    (hm : lastMarks [op, op'] [b, c] = false := by with_unfolding_all rfl) : PD X cm W (.Compare a [op, op'] [b, c] pos) (chain3 g g' fa fb fc) := by
  obtain ⟨ta, pa, ja⟩ := ha
  obtain ⟨tb, pb, jb⟩ := hb
  obtain ⟨tc, pc, jc⟩ := hc
  exact ⟨_, pe_chain ho ho' pa pb pc hm, jd_chain ja jb jc hg hg'⟩
theorem pb_chain {op op' : CmpOp} {r r' : R2} {g g' : D → D → Option D} (ho : OpR X (compareOp op) r) (ho' : OpR X (compareOp op') r') (hg : OpD X.K cm r g) (hg' : OpD X.K cm r' g') (ha : PO X cm W a fa) (hb : PO X cm W b fb) (hc : PO X cm W c fc)
    (hm : lastMarks [op, op'] [b, c] = false := by with_unfolding_all rfl) : PB X cm W (.Compare a [op, op'] [b, c] pos) (asB (chain3 g g' fa fb fc)) := by
  obtain ⟨ta, pa, ja⟩ := ha
  obtain ⟨tb, pb, jb⟩ := hb
  obtain ⟨tc, pc, jc⟩ := hc
  exact ⟨_, pt_chain ho ho' pa pb pc hm, jd_test (jd_chain ja jb jc hg hg')⟩
end
end Pd

/-! Pd4: arguments, displays, subscripts, slices, built-in calls. -/
namespace Pd
open PySem PySem.Spec L2

/-! ### arguments as operands; values of a display -/
def rOs (K : PySem.W.Frag) (cm : Str → Option Addr) : Rel (List Op) (List V) := fun G F H σ ρ os vs => Paired (rO K cm G F H σ ρ) os vs
def rVs (K : PySem.W.Frag) (cm : Str → Option Addr) : Rel (List D) (List V) := fun _ F _ _ _ ds vs => Rps K cm F ds vs
def consO (f : M Op) (g : M (List Op)) : M (List Op) := M.bind f fun o => M.bind g fun os => M.ret (o :: os)
def consD (f : M D) (g : M (List D)) : M (List D) := M.bind f fun o => M.bind g fun os => M.ret (o :: os)
def resN (ρ : Env) : List Op → Option (List D)
  | [] => some []
  | o :: os => (res ρ o).bind fun d => (resN ρ os).bind fun ds => some (d :: ds)
def appN (g : List D → Option D) (os : List Op) : M D := fun ρ => (resN ρ os).bind fun ds => (g ds).bind fun d => some (.ok d, ρ)
def CallD (K : PySem.W.Frag) (cm : Str → Option Addr) (r : List V → Hp → VK → Prop) (g : List D → Option D) : Prop :=
  ∀ (F H : Hp) (vs : List V) (ds : List D) (d : D), Same F H → Paired (Rv K cm F H) ds vs → g ds = some d → ∀ Q : VK, (∀ F' H' v, Grow F H F' H' → Rp K cm F' d v → Q v H') → r vs H Q
/-- a new object -/
def CallF (K : PySem.W.Frag) (cm : Str → Option Addr) (r : List V → Hp → VK → Prop) (g : List D → Option D) : Prop :=
  ∀ (F H : Hp) (vs : List V) (ds : List D) (d : D), Same F H → Paired (Rv K cm F H) ds vs → g ds = some d → ∀ Q : VK, (∀ F' H' a, Grow F H F' H' → H a = none → F' a = none → OwnAt K cm F' H' a d → Q (.ref a) H') → r vs H Q
section
variable {X : Cx} {cm : Str → Option Addr} {W : WX} {pos : Pos} {e : Expr} {es : List Expr} {f : M Op} {fd : M D} {fs : M (List Op)} {fds : M (List D)}
def PAs (X : Cx) (cm : Str → Option Addr) (W : WX) (es : List Expr) (f : M (List Op)) : Prop := ∃ t : TA, PA X es t ∧ Jd X cm W (rOs X.K cm) t f
def PVs (X : Cx) (cm : Str → Option Addr) (W : WX) (es : List Expr) (f : M (List D)) : Prop := ∃ t : TA, PA X es t ∧ Jd X cm W (rVs X.K cm) t f
theorem stable_rOs {K : PySem.W.Frag} {os : List Op} {vs : List V} : Stable (fun G F H σ ρ => rOs K cm G F H σ ρ os vs) := fun G F H F' H' σ ρ ρ' h x =>
  Paired.mapP h fun o v hv => stable_rO (o := o) (v := v) G F H F' H' σ ρ ρ' hv x
theorem stable_rVs {K : PySem.W.Frag} {os : List D} {vs : List V} : Stable (fun G F H σ ρ => rVs K cm G F H σ ρ os vs) := fun G F H F' H' σ ρ ρ' h x => Rps.ext x h
theorem pas_nil : PAs X cm W [] (M.ret []) := ⟨tNil, pa_nil, fun G F H σ ρ r ρ' er _ hf Q hQ => by
  cases hf
  exact hQ F H er (Ext.refl F) [] .nil⟩
theorem pvs_nil : PVs X cm W [] (M.ret []) := ⟨tNil, pa_nil, fun G F H σ ρ r ρ' er _ hf Q hQ => by
  cases hf
  exact hQ F H er (Ext.refl F) [] .nil⟩
theorem pas_cons (h : PO X cm W e f) (hs : PAs X cm W es fs) (hst : starEach (e :: es) X.env = (false, eval e X.env) :: starEach es X.env := by rfl) : PAs X cm W (e :: es) (consO f fs) := by
  obtain ⟨t, p, j⟩ := h
  obtain ⟨u, p2, j2⟩ := hs
  refine ⟨_, pa_cons p p2 hst, ?_⟩
  unfold consO
  refine JdP.bindS (rel1 := rO X.K cm) (t1 := t) (t2 := fun x σ H Q => u σ H fun xs H2 => Q (x :: xs) H2) stable_true j fun o x => ?_
  refine JdP.bindS (rel1 := rOs X.K cm) (t1 := u) (t2 := fun xs σ H Q => Q (x :: xs) H) (stable_and stable_true stable_rO) (j2.weak fun _ _ _ _ _ _ => trivial) fun os xs => ?_
  intro G F H σ ρ r ρ' er hp hf Q hQ
  cases hf
  exact hQ F H er (Ext.refl F) _ (.cons hp.1.2 hp.2)
theorem pvs_cons (h : PD X cm W e fd) (hs : PVs X cm W es fds) (hst : starEach (e :: es) X.env = (false, eval e X.env) :: starEach es X.env := by rfl) : PVs X cm W (e :: es) (consD fd fds) := by
  obtain ⟨t, p, j⟩ := h
  obtain ⟨u, p2, j2⟩ := hs
  refine ⟨_, pa_cons p p2 hst, ?_⟩
  unfold consD
  refine JdP.bindS (rel1 := rV X.K cm) (t1 := t) (t2 := fun x σ H Q => u σ H fun xs H2 => Q (x :: xs) H2) stable_true j fun o x => ?_
  refine JdP.bindS (rel1 := rVs X.K cm) (t1 := u) (t2 := fun xs σ H Q => Q (x :: xs) H) (stable_and stable_true stable_rV) (j2.weak fun _ _ _ _ _ _ => trivial) fun os xs => ?_
  intro G F H σ ρ r ρ' er hp hf Q hQ
  cases hf
  exact hQ F H er (Ext.refl F) _ (.cons hp.1.2 hp.2)
theorem resN_rv {K : PySem.W.Frag} {G : Gd} {F H : Hp} {σ : St} {ρ : Env} (er : ER K cm G F H σ ρ) : ∀ {os : List Op} {vs : List V} {ds : List D}, Paired (rO K cm G F H σ ρ) os vs → resN ρ os = some ds → Paired (Rv K cm F H) ds vs
  | _, _, _, .nil, e => by cases e; exact .nil
  | o :: os, _, ds, .cons h r, e => by
    have e : ((res ρ o).bind fun d => (resN ρ os).bind fun ds => some (d :: ds)) = some ds := e
    cases q : res ρ o with
    | none => rw [q] at e; cases e
    | some d =>
      rw [q] at e
      have e : ((resN ρ os).bind fun ds => some (d :: ds)) = some ds := e
      cases q2 : resN ρ os with
      | none => rw [q2] at e; cases e
      | some ds2 => rw [q2] at e; cases e; exact .cons (rO_res h (Ext.refl F) er q) (resN_rv er r q2)
def callD (g : List D → Option D) (fs : M (List Op)) : M D := M.bind fs fun os => appN g os
theorem jd_callD {r : List V → Hp → VK → Prop} {g : List D → Option D} {t : TA} (j : Jd X cm W (rOs X.K cm) t fs) (hg : CallD X.K cm r g) : Jd X cm W (rV X.K cm) (fun σ H Q => t σ H fun vs H1 => r vs H1 Q) (callD g fs) := by
  unfold callD
  refine JdP.bindS (rel1 := rOs X.K cm) (t1 := t) (t2 := fun vs σ H Q => r vs H Q) stable_true j fun os vs => ?_
  refine jd_fin fun G F H σ ρ r ρ' er hp hf => ?_
  obtain ⟨_, hv⟩ := hp
  have hf : ((resN ρ os).bind fun ds => (g ds).bind fun d => some (R.ok d, ρ)) = some (r, ρ') := hf
  cases e1 : resN ρ os with
  | none => rw [e1] at hf; cases hf
  | some ds =>
    rw [e1] at hf
    have hf : ((g ds).bind fun d => some (R.ok d, ρ)) = some (r, ρ') := hf
    cases e2 : g ds with
    | none => rw [e2] at hf; cases hf
    | some d =>
      rw [e2] at hf; cases hf
      exact ⟨d, rfl, rfl, fun Q k => hg F H vs ds d er.sub (resN_rv er hv e1) e2 Q k⟩
/-- an end that makes a new object -/
theorem jd_finF {P : Gd → Hp → Hp → St → Env → Prop} {t : St → Hp → (V → Hp → Prop) → Prop} {f : M D}
    (h : ∀ G F H σ ρ r ρ', ER X.K cm G F H σ ρ → P G F H σ ρ → f ρ = some (r, ρ') → ∃ d, r = .ok d ∧ ρ' = ρ ∧ ∀ Q, (∀ F' H' a, Grow F H F' H' → H a = none → F' a = none → OwnAt X.K cm F' H' a d → Q (.ref a) H') → t σ H Q) : JdP X cm W P (rF X.K cm) t f := by
  intro G F H σ ρ r ρ' er hp hf Q hQ
  obtain ⟨d, rfl, rfl, k⟩ := h G F H σ ρ r ρ' er hp hf
  refine k Q fun F' H' a g ha hf' ho => hQ F' H' (er.grow g) (Ext.of g.f) (.ref a) ⟨a, rfl, .inl ?_, ⟨hf', ho⟩, fun i s e os z => ?_⟩
  · cases q : G.H0 a with
    | none => rfl
    | some o => exact absurd ha (er.live a (by rw [q]; simp))
  · have hs := er.slot i s e
    cases s with
    | own d' =>
      obtain ⟨b, e2, _, r⟩ := hs
      rw [z] at e2
      have : a = b := V.ref.inj (Option.some.inj (Option.some.inj e2))
      subst this
      obtain ⟨o, q⟩ := r.some
      rw [ha] at q; cases q
    | par d' =>
      obtain ⟨b, e2, _, r⟩ := hs
      rw [z] at e2
      have : a = b := V.ref.inj (Option.some.inj (Option.some.inj e2))
      subst this
      obtain ⟨o, q⟩ := r.some
      rw [ha] at q; cases q
    | _ => cases os
theorem jd_callF {r : List V → Hp → VK → Prop} {g : List D → Option D} {t : TA} (j : Jd X cm W (rOs X.K cm) t fs) (hg : CallF X.K cm r g) : Jd X cm W (rF X.K cm) (fun σ H Q => t σ H fun vs H1 => r vs H1 Q) (callD g fs) := by
  unfold callD
  refine JdP.bindS (rel1 := rOs X.K cm) (t1 := t) (t2 := fun vs σ H Q => r vs H Q) stable_true j fun os vs => ?_
  refine jd_finF fun G F H σ ρ r ρ' er hp hf => ?_
  obtain ⟨_, hv⟩ := hp
  have hf : ((resN ρ os).bind fun ds => (g ds).bind fun d => some (R.ok d, ρ)) = some (r, ρ') := hf
  cases e1 : resN ρ os with
  | none => rw [e1] at hf; cases hf
  | some ds =>
    rw [e1] at hf
    have hf : ((g ds).bind fun d => some (R.ok d, ρ)) = some (r, ρ') := hf
    cases e2 : g ds with
    | none => rw [e2] at hf; cases hf
    | some d =>
      rw [e2] at hf; cases hf
      exact ⟨d, rfl, rfl, fun Q k => hg F H vs ds d er.sub (resN_rv er hv e1) e2 Q k⟩
/-! ### displays -/
def tupD (f : M (List D)) : M D := M.bind f fun ds => if ds.length ≤ sizeLine then M.ret (.tup ds) else M.fail
def lstD (f : M (List D)) : M D := M.bind f fun ds => if ds.length ≤ sizeLine then M.ret (.lst ds) else M.fail
theorem pd_tup {k : Nat} (h : PVs X cm W es fds) : PD X cm W (.Tuple es k pos) (tupD fds) := by
  obtain ⟨t, p, j⟩ := h
  refine ⟨_, pe_tup p, ?_⟩
  unfold tupD
  refine JdP.bindS (rel1 := rVs X.K cm) (t1 := t) (t2 := fun xs σ H1 Q => xs.length ≤ sizeLine ∧ ∀ p, H1 p = none → Q (V.ref p) (upd H1 p (.tup xs))) stable_true j fun ds xs => ?_
  refine jd_fin fun G F H σ ρ r ρ' er hp hf => ?_
  obtain ⟨_, hv⟩ := hp
  have hv : Rps X.K cm F ds xs := hv
  by_cases c : ds.length ≤ sizeLine
  · rw [if_pos c] at hf
    cases hf
    refine ⟨_, rfl, rfl, fun Q k => ⟨by rw [← hv.length]; exact c, fun q hq => ?_⟩⟩
    have g := Grow.new (o := .tup xs) er.sub hq
    exact k _ _ _ g (.tup upd_same (hv.ext (Ext.of g.f)))
  · rw [if_neg c] at hf; cases hf
theorem pf_lst (h : PVs X cm W es fds) : PF X cm W (.List es pos) (lstD fds) := by
  obtain ⟨t, p, j⟩ := h
  refine ⟨_, pe_lst p, ?_⟩
  unfold lstD
  refine JdP.bindS (rel1 := rVs X.K cm) (t1 := t) (t2 := fun xs σ H1 Q => xs.length ≤ sizeLine ∧ ∀ p, H1 p = none → Q (V.ref p) (upd H1 p (.lst xs))) stable_true j fun ds xs => ?_
  refine jd_finF fun G F H σ ρ r ρ' er hp hf => ?_
  obtain ⟨_, hv⟩ := hp
  have hv : Rps X.K cm F ds xs := hv
  by_cases c : ds.length ≤ sizeLine
  · rw [if_pos c] at hf
    cases hf
    refine ⟨_, rfl, rfl, fun Q k => ⟨by rw [← hv.length]; exact c, fun q hq => ?_⟩⟩
    exact k _ _ _ (Grow.newH er.sub hq) hq (er.sub.free hq) ⟨xs, upd_same, hv⟩
  · rw [if_neg c] at hf; cases hf
theorem pf_dk : PF X cm W (.Dict [] [] pos) (M.ret (.dk [])) := ⟨_, pe_dnewK, jd_finF fun G F H σ ρ r ρ' er _ hf => by
  cases hf
  exact ⟨_, rfl, rfl, fun Q k d hd => k _ _ _ (Grow.newH er.sub hd) hd (er.sub.free hd) ⟨[], upd_same, rfl, .nil⟩⟩⟩
theorem pf_dt : PF X cm W (.Dict [] [] pos) (M.ret (.dt [])) := ⟨_, pe_dnewT, jd_finF fun G F H σ ρ r ρ' er _ hf => by
  cases hf
  exact ⟨_, rfl, rfl, fun Q k d hd => k _ _ _ (Grow.newH er.sub hd) hd (er.sub.free hd) ⟨[], upd_same, rfl, .nil⟩⟩⟩
end
/-! ### subscripts -/
def ixG : D → D → Option D
  | d, .int i => match strOf d with
    | some z => if z.length ≤ sizeLine then (atI z.cps.toList i).map fun c => .str ⟨#[c]⟩ else none
    | none => (seqOf d).bind fun ds => atI ds i
  | _, _ => none
theorem atI_rps {K : PySem.W.Frag} {cm : Str → Option Addr} {F : Hp} {ds : List D} {vs : List V} {i : Int} {d : D} (r : Rps K cm F ds vs) (h : atI ds i = some d) : ∃ v, atI vs i = some v ∧ Rp K cm F d v := by
  unfold atI at h ⊢
  rw [r.length] at h
  cases q : ixN vs.length i with
  | none => rw [q] at h; cases h
  | some j =>
    rw [q] at h
    exact r.getD h
theorem od_ix {K : PySem.W.Frag} {cm : Str → Option Addr} : OpD K cm (rIx K) ixG := by
  intro F H x y dx dy d s hx hy hg Q k
  cases dy with
  | int i =>
    have hy' := hy.int
    have hg : (match strOf dx with
      | some z => if z.length ≤ sizeLine then (atI z.cps.toList i).map fun c => D.str ⟨#[c]⟩ else none
      | none => (seqOf dx).bind fun ds => atI ds i) = some d := by cases dx <;> exact hg
    cases q : strOf dx with
    | some z =>
      rw [q] at hg
      have hg2 : (if z.length ≤ sizeLine then (atI z.cps.toList i).map fun c => D.str ⟨#[c]⟩ else none) = some d := hg
      have ex : x = .str z := by have e := strOf_eq q; rw [e] at hx; exact hx.str
      by_cases c : z.length ≤ sizeLine
      · rw [if_pos c] at hg2
        cases q2 : atI z.cps.toList i with
        | none => rw [q2] at hg2; cases hg2
        | some n => rw [q2] at hg2; cases hg2; exact .inr (.inr ⟨z, i, n, ex, hy', c, q2, k F H _ (Grow.refl s) (.str _)⟩)
      · rw [if_neg c] at hg2; cases hg2
    | none =>
      rw [q] at hg
      have hg : ((seqOf dx).bind fun ds => atI ds i) = some d := hg
      cases q2 : seqOf dx with
      | none => rw [q2] at hg; cases hg
      | some ds =>
        rw [q2] at hg
        have hg : atI ds i = some d := hg
        obtain ⟨a, xs, e, h1, r⟩ := hx.seq s q2
        obtain ⟨v, hv, rv⟩ := atI_rps r hg
        have kk := k F H v (Grow.refl s) rv
        rcases h1 with h1 | h1
        · exact .inl ⟨a, xs, i, v, e, hy', h1, hv, kk⟩
        · exact .inr (.inl ⟨a, xs, i, v, e, hy', h1, hv, kk⟩)
  | _ => cases dx <;> cases hg
section
variable {X : Cx} {cm : Str → Option Addr} {W : WX} {pos p2 : Pos} {a b e : Expr} {fa fb : M Op} {fs : M (List Op)}
theorem pd_ix (ha : PO X cm W a fa) (hb : PO X cm W b fb) (hs : PlainIx b := by intro _ _; rfl) : PD X cm W (.Subscript a b pos) (op2 ixG fa fb) := by
  obtain ⟨ta, pa, ja⟩ := ha
  obtain ⟨tb, pb, jb⟩ := hb
  exact ⟨_, pe_ix ix_seq pa pb hs, jd_op2 ja jb od_ix⟩
/-! ### slices -/
def rPart : Rel (Option Int) (Option Int) := fun _ _ _ _ _ a b => a = b
def PP (X : Cx) (cm : Str → Option Addr) (W : WX) (e : Option Expr) (f : M (Option Int)) : Prop := ∃ t : TO, L2.PO X e t ∧ Jd X cm W rPart t f
def partI (f : M D) : M (Option Int) := M.bind f fun d => match d with
  | .int i => M.ret (some i)
  | _ => M.fail
theorem pp_none : PP X cm W none (M.ret none) := ⟨_, po_none, fun G F H σ ρ r ρ' er _ hf Q hQ => by
  cases hf
  exact hQ F H er (Ext.refl F) none rfl⟩
theorem pp_some {f : M D} (h : PD X cm W e f) : PP X cm W (some e) (partI f) := by
  obtain ⟨t, p, j⟩ := h
  refine ⟨_, po_some p, ?_⟩
  unfold partI
  refine JdP.bindS (rel1 := rV X.K cm) (t1 := t) (t2 := fun x σ H1 Q => ∃ i, x = V.int i ∧ Q (some i) H1) stable_true j fun d x => ?_
  intro G F H σ ρ r ρ' er hp hf Q hQ
  obtain ⟨_, hr⟩ := hp
  cases d with
  | int i => cases hr; cases hf; exact ⟨i, rfl, hQ F H er (Ext.refl F) _ rfl⟩
  | _ => cases hf
def cutL {α : Type} (xs : List α) (lo hi : Option Int) : List α := (xs.drop (HT.sIx xs.length 0 lo)).take (HT.sIx xs.length xs.length hi - HT.sIx xs.length 0 lo)
theorem cutL_rps {K : PySem.W.Frag} {F : Hp} {ds : List D} {vs : List V} (r : Rps K cm F ds vs) (lo hi : Option Int) : Rps K cm F (cutL ds lo hi) (cutV vs lo hi) := by
  unfold cutL cutV
  rw [r.length]
  exact Rps.take _ (Rps.drop _ r)
def slG (lo hi : Option Int) : D → Option D
  | .lst ds => some (.lst (cutL ds lo hi))
  | .frl ds => some (.lst (cutL ds lo hi))
  | .tup ds => some (.tup (cutL ds lo hi))
  | .str z => if z.length ≤ sizeLine then some (.str (cutS z lo hi)) else none
  | _ => none
def rSlD (K : PySem.W.Frag) : V → Option Int → Option Int → Hp → VK → Prop := fun x lo hi H Q => (rSlL K x lo hi H Q ∨ rSlA K x lo hi H Q) ∨ rSlS x lo hi H Q
theorem cutL_whole {α : Type} {xs : List α} {lo hi : Option Int} (h : HT.sIx xs.length 0 lo = 0 ∧ HT.sIx xs.length xs.length hi = xs.length) : cutL xs lo hi = xs := by
  unfold cutL
  rw [h.1, h.2]
  simp
def sliceD (f : M Op) (g h : M (Option Int)) : M D := M.bind f fun o => M.bind g fun lo => M.bind h fun hi ρ => (res ρ o).bind fun d => (slG lo hi d).bind fun z => some (.ok z, ρ)
theorem pd_slice {lo hi : Option Expr} {fl fh : M (Option Int)} (ha : PO X cm W a fa) (hl : PP X cm W lo fl) (hh : PP X cm W hi fh) : PD X cm W (.Subscript a (.Slice lo hi none p2) pos) (sliceD fa fl fh) := by
  obtain ⟨ta, pa, ja⟩ := ha
  obtain ⟨tl, pl, jl⟩ := hl
  obtain ⟨th, ph, jh⟩ := hh
  refine ⟨_, pe_slice ((sl_list.or sl_tupA).or sl_str) pa pl ph, ?_⟩
  unfold sliceD
  refine JdP.bindS (rel1 := rO X.K cm) (t1 := ta) (t2 := fun x σ H1 Q => tl σ H1 fun l H2 => th σ H2 fun u H3 => rSlD X.K x l u H3 Q) stable_true ja fun o x => ?_
  refine JdP.bindS (rel1 := rPart) (t1 := tl) (t2 := fun l σ H2 Q => th σ H2 fun u H3 => rSlD X.K x l u H3 Q) (stable_and stable_true stable_rO) (jl.weak fun _ _ _ _ _ _ => trivial) fun l l' => ?_
  refine JdP.bindS (rel1 := rPart) (t1 := th) (t2 := fun u σ H3 Q => rSlD X.K x l' u H3 Q) (stable_and (stable_and stable_true stable_rO) (fun _ _ _ _ _ _ _ _ h _ => h)) (jh.weak fun _ _ _ _ _ _ => trivial) fun u u' => ?_
  refine jd_fin fun G F H σ ρ r ρ' er hp hf => ?_
  obtain ⟨⟨⟨_, hx⟩, hl⟩, hu⟩ := hp
  have hl : l = l' := hl
  have hu : u = u' := hu
  subst hl; subst hu
  have hf : ((res ρ o).bind fun d => (slG l u d).bind fun z => some (R.ok z, ρ)) = some (r, ρ') := hf
  cases e1 : res ρ o with
  | none => rw [e1] at hf; cases hf
  | some d =>
    rw [e1] at hf
    have hf : ((slG l u d).bind fun z => some (R.ok z, ρ)) = some (r, ρ') := hf
    cases e2 : slG l u d with
    | none => rw [e2] at hf; cases hf
    | some z =>
      rw [e2] at hf; cases hf
      refine ⟨z, rfl, rfl, fun Q k => ?_⟩
      have hv := rO_res hx (Ext.refl F) er e1
      have s := er.sub
      cases d with
      | lst ds =>
        cases e2
        obtain ⟨b, xs, rfl, h1, r⟩ := hv.lst s
        exact .inl (.inl ⟨b, xs, rfl, SqL.of h1, fun p hp => by
          have g := Grow.new (o := .lst (cutV xs l u)) s hp
          exact k _ _ _ g (.lst upd_same ((cutL_rps r l u).ext (Ext.of g.f)))⟩)
      | frl ds =>
        cases e2
        obtain ⟨b, xs, rfl, h1, r⟩ := hv.frl s
        exact .inl (.inl ⟨b, xs, rfl, h1, fun p hp => by
          have g := Grow.new (o := .lst (cutV xs l u)) s hp
          exact k _ _ _ g (.lst upd_same ((cutL_rps r l u).ext (Ext.of g.f)))⟩)
      | tup ds =>
        cases e2
        obtain ⟨b, xs, e3, h1, r⟩ := hv.tup s
        refine .inl (.inr ⟨b, xs, e3, h1, fun w => ?_, fun _ p hp => ?_⟩)
        · have hw : HT.sIx ds.length 0 l = 0 ∧ HT.sIx ds.length ds.length u = ds.length := by rw [r.length]; exact w
          rw [cutL_whole hw] at k
          have hx' : Rp X.K cm F (.tup ds) x := by
            rcases hv with h | ⟨_, _, _, h⟩
            · exact h
            · exact False.elim h
          rw [← e3]
          exact k F H _ (Grow.refl s) hx'
        · have g := Grow.new (o := .tup (cutV xs l u)) s hp
          exact k _ _ _ g (.tup upd_same ((cutL_rps r l u).ext (Ext.of g.f)))
      | str w =>
        have e2 : (if w.length ≤ sizeLine then some (D.str (cutS w l u)) else none) = some z := e2
        by_cases c : w.length ≤ sizeLine
        · rw [if_pos c] at e2; cases e2
          exact .inr ⟨w, hv.str, c, k F H _ (Grow.refl s) (.str _)⟩
        · rw [if_neg c] at e2; cases e2
      | _ => cases e2
/-! ### built-in calls -/
variable {x : Str} {p : Pos} {id T : String} {r : List V → Hp → VK → Prop} {g : List D → Option D} {es : List Expr}
theorem pd_callB (hc : CallR X (.builtin id) r) (hd : CallD X.K cm r g) (hg : Gl X x) (hm : X.mg x = none) (hv : bootBuiltins x = some (.builtin id)) (ha : PAs X cm W (e :: es) fs) (hn : x ≠ "__name__" := by decide) (hdb : (x == ("__debug__" : Str)) = false := by decide)
    (he : starEach (e :: es) X.env = (false, eval e X.env) :: starEach es X.env := by rfl) (hpl : (backTo pos (starEach es X.env)).any (·.1) = false := by rfl) : PD X cm W (.Call (.Name x p) (e :: es) [] pos) (callD g fs) := by
  obtain ⟨t, pa, j⟩ := ha
  exact ⟨_, pe_callB hc hg hm hv pa hn hdb he hpl, jd_callD j hd⟩
theorem pf_callB (hc : CallR X (.builtin id) r) (hd : CallF X.K cm r g) (hg : Gl X x) (hm : X.mg x = none) (hv : bootBuiltins x = some (.builtin id)) (ha : PAs X cm W (e :: es) fs) (hn : x ≠ "__name__" := by decide) (hdb : (x == ("__debug__" : Str)) = false := by decide)
    (he : starEach (e :: es) X.env = (false, eval e X.env) :: starEach es X.env := by rfl) (hpl : (backTo pos (starEach es X.env)).any (·.1) = false := by rfl) : PF X cm W (.Call (.Name x p) (e :: es) [] pos) (callD g fs) := by
  obtain ⟨t, pa, j⟩ := ha
  exact ⟨_, pe_callB hc hg hm hv pa hn hdb he hpl, jd_callF j hd⟩
theorem pd_callTy (hc : CallR X (.type T) r) (hd : CallD X.K cm r g) (hg : Gl X x) (hm : X.mg x = none) (hv : bootBuiltins x = some (.type T)) (ha : PAs X cm W (e :: es) fs) (hn : x ≠ "__name__" := by decide) (hdb : (x == ("__debug__" : Str)) = false := by decide)
    (he : starEach (e :: es) X.env = (false, eval e X.env) :: starEach es X.env := by rfl) (hpl : (backTo pos (starEach es X.env)).any (·.1) = false := by rfl) : PD X cm W (.Call (.Name x p) (e :: es) [] pos) (callD g fs) := by
  obtain ⟨t, pa, j⟩ := ha
  exact ⟨_, pe_callTy hc hg hm hv pa hn hdb he hpl, jd_callD j hd⟩
theorem pf_callTy (hc : CallR X (.type T) r) (hd : CallF X.K cm r g) (hg : Gl X x) (hm : X.mg x = none) (hv : bootBuiltins x = some (.type T)) (ha : PAs X cm W (e :: es) fs) (hn : x ≠ "__name__" := by decide) (hdb : (x == ("__debug__" : Str)) = false := by decide)
    (he : starEach (e :: es) X.env = (false, eval e X.env) :: starEach es X.env := by rfl) (hpl : (backTo pos (starEach es X.env)).any (·.1) = false := by rfl) : PF X cm W (.Call (.Name x p) (e :: es) [] pos) (callD g fs) := by
  obtain ⟨t, pa, j⟩ := ha
  exact ⟨_, pe_callTy hc hg hm hv pa hn hdb he hpl, jd_callF j hd⟩
end
section
variable {K : PySem.W.Frag} {cm : Str → Option Addr}
theorem paired1 {α β : Type} {P : α → β → Prop} {d : α} {vs : List β} (h : Paired P [d] vs) : ∃ v, vs = [v] ∧ P d v := by
  cases h with
  | cons h1 h2 => cases h2; exact ⟨_, rfl, h1⟩
theorem paired2 {α β : Type} {P : α → β → Prop} {d e : α} {vs : List β} (h : Paired P [d, e] vs) : ∃ v w, vs = [v, w] ∧ P d v ∧ P e w := by
  cases h with
  | cons h1 h2 => cases h2 with
    | cons h3 h4 => cases h4; exact ⟨_, _, rfl, h1, h3⟩
/-- a call of one argument -/
def one (g : D → Option D) : List D → Option D
  | [d] => g d
  | _ => none
theorem one_eq {g : D → Option D} {ds : List D} {d : D} (h : one g ds = some d) : ∃ x, ds = [x] ∧ g x = some d := by
  match ds, h with
  | [x], h => exact ⟨x, rfl, h⟩
def two (g : D → D → Option D) : List D → Option D
  | [d, e] => g d e
  | _ => none
theorem two_eq {g : D → D → Option D} {ds : List D} {d : D} (h : two g ds = some d) : ∃ x y, ds = [x, y] ∧ g x y = some d := by
  match ds, h with
  | [x, y], h => exact ⟨x, y, rfl, h⟩
/-- len -/
def lenG : D → Option D
  | .str z => if z.length ≤ sizeLine then some (.int z.length) else none
  | .lst ds => some (.int ds.length)
  | .frl ds => some (.int ds.length)
  | .tup ds => some (.int ds.length)
  | .frt ds => some (.int ds.length)
  | _ => none
def rLenD (K : PySem.W.Frag) : List V → Hp → VK → Prop := fun xs H Q => (∃ p ys, xs = [.ref p] ∧ (SqL K H p ys ∨ SqT K H p ys) ∧ Q (.int ys.length) H) ∨ ∃ z, xs = [.str z] ∧ z.length ≤ sizeLine ∧ Q (.int z.length) H
theorem call_lenS {X : Cx} : CallR X (.builtin "len") (rLenD X.K) := call_len_seq.or call_len_str
theorem cd_len : CallD K cm (rLenD K) (one lenG) := by
  intro F H vs ds d s hv hg Q k
  obtain ⟨x, rfl, hg⟩ := one_eq hg
  obtain ⟨v, rfl, hw⟩ := paired1 hv
  have seqc : ∀ es, seqOf x = some es → d = .int es.length → rLenD K [v] H Q := fun es e1 e2 => by
    subst e2
    obtain ⟨a, xs, rfl, h1, r⟩ := hw.seq s e1
    exact .inl ⟨a, xs, rfl, h1, by rw [← r.length]; exact k F H _ (Grow.refl s) (.int _)⟩
  cases x with
  | str z =>
    have hg2 : (if z.length ≤ sizeLine then some (D.int z.length) else none) = some d := hg
    by_cases c : z.length ≤ sizeLine
    · rw [if_pos c] at hg2; cases hg2
      exact .inr ⟨z, by rw [hw.str], c, k F H _ (Grow.refl s) (.int _)⟩
    · rw [if_neg c] at hg2; cases hg2
  | lst es => cases hg; exact seqc es rfl rfl
  | frl es => cases hg; exact seqc es rfl rfl
  | tup es => cases hg; exact seqc es rfl rfl
  | frt es => cases hg; exact seqc es rfl rfl
  | _ => cases hg
/-- abs -/
def absG : D → Option D
  | .int i => some (.int (if i < 0 then -i else i))
  | _ => none
theorem cd_abs : CallD K cm (fun xs H Q => ∃ i, xs = [.int i] ∧ Q (.int (if i < 0 then -i else i)) H) (one absG) := by
  intro F H vs ds d s hv hg Q k
  obtain ⟨x, rfl, hg⟩ := one_eq hg
  obtain ⟨v, rfl, hw⟩ := paired1 hv
  cases x with
  | int i => cases hg; exact ⟨i, by rw [hw.int], k F H _ (Grow.refl s) (.int _)⟩
  | _ => cases hg
/-- int(n), int(flag) -/
def intF : D → Option D
  | .int i => some (.int i)
  | .bl k => some (.int (if k then 1 else 0))
  | _ => none
theorem cd_int : CallD K cm (fun xs H Q => (∃ i, xs = [.int i] ∧ Q (.int i) H) ∨ ∃ k, xs = [.bl k] ∧ Q (.int (if k then 1 else 0)) H) (one intF) := by
  intro F H vs ds d s hv hg Q k
  obtain ⟨x, rfl, hg⟩ := one_eq hg
  obtain ⟨v, rfl, hw⟩ := paired1 hv
  cases x with
  | int i => cases hg; exact .inl ⟨i, by rw [hw.int], k F H _ (Grow.refl s) (.int _)⟩
  | bl i => cases hg; exact .inr ⟨i, by rw [hw.bl], k F H _ (Grow.refl s) (.int _)⟩
  | _ => cases hg
/-- max(a, b), min(a, b) of ints -/
def max2G : D → D → Option D
  | .int i, .int j => some (.int (if j > i then j else i))
  | _, _ => none
def min2G : D → D → Option D
  | .int i, .int j => some (.int (if j < i then j else i))
  | _, _ => none
theorem cd_max2 : CallD K cm (fun xs H Q => ∃ i j, xs = [.int i, .int j] ∧ Q (.int (if j > i then j else i)) H) (two max2G) := by
  intro F H vs ds d s hv hg Q k
  obtain ⟨x, y, rfl, hg⟩ := two_eq hg
  obtain ⟨v, w, rfl, h1, h2⟩ := paired2 hv
  cases x with
  | int i => cases y with
    | int j => cases hg; exact ⟨i, j, by rw [h1.int, h2.int], k F H _ (Grow.refl s) (.int _)⟩
    | _ => cases hg
  | _ => cases y <;> cases hg
theorem cd_min2 : CallD K cm (fun xs H Q => ∃ i j, xs = [.int i, .int j] ∧ Q (.int (if j < i then j else i)) H) (two min2G) := by
  intro F H vs ds d s hv hg Q k
  obtain ⟨x, y, rfl, hg⟩ := two_eq hg
  obtain ⟨v, w, rfl, h1, h2⟩ := paired2 hv
  cases x with
  | int i => cases y with
    | int j => cases hg; exact ⟨i, j, by rw [h1.int, h2.int], k F H _ (Grow.refl s) (.int _)⟩
    | _ => cases hg
  | _ => cases y <;> cases hg
/-- all, any of a list of bools -/
def blsOf : List D → Option (List Bool)
  | [] => some []
  | .bl b :: ds => (blsOf ds).map fun bs => b :: bs
  | _ => none
theorem blsOf_rps {F : Hp} : ∀ {ds : List D} {vs : List V} {bs : List Bool}, Rps K cm F ds vs → blsOf ds = some bs → vs = bs.map V.bl
  | _, _, _, .nil, e => by cases e; rfl
  | .bl b :: ds, _, bs, .cons h r, e => by
    have e : ((blsOf ds).map fun bs => b :: bs) = some bs := e
    cases q : blsOf ds with
    | none => rw [q] at e; cases e
    | some cs => rw [q] at e; cases e; cases h; rw [blsOf_rps r q]; rfl
def lisOf : D → Option (List D)
  | .lst ds => some ds
  | .frl ds => some ds
  | _ => none
theorem Rv.lis {F H : Hp} {d : D} {ds : List D} {v : V} (s : Same F H) (h : Rv K cm F H d v) (e : lisOf d = some ds) : ∃ a xs, v = .ref a ∧ SqL K H a xs ∧ Rps K cm F ds xs := by
  cases d with
  | lst es => cases e; obtain ⟨a, xs, e1, h1, r⟩ := h.lst s; exact ⟨a, xs, e1, SqL.of h1, r⟩
  | frl es => cases e; obtain ⟨a, xs, e1, h1, r⟩ := h.frl s; exact ⟨a, xs, e1, h1, r⟩
  | _ => cases e
def allG (d : D) : Option D := (lisOf d).bind fun ds => (blsOf ds).map fun bs => .bl (bs.all id)
def anyG (d : D) : Option D := (lisOf d).bind fun ds => (blsOf ds).map fun bs => .bl (bs.any id)
theorem bls_case {F H : Hp} {x : D} {v : V} (s : Same F H) (hv : Rv K cm F H x v) {f : List Bool → D} {d : D} (hg : ((lisOf x).bind fun ds => (blsOf ds).map f) = some d) : ∃ a bs, v = .ref a ∧ SqL K H a (bs.map V.bl) ∧ d = f bs := by
  cases q : lisOf x with
  | none => rw [q] at hg; cases hg
  | some ds =>
    rw [q] at hg
    have hg : (blsOf ds).map f = some d := hg
    cases q2 : blsOf ds with
    | none => rw [q2] at hg; cases hg
    | some bs =>
      rw [q2] at hg; cases hg
      obtain ⟨a, xs, e, h1, r⟩ := hv.lis s q
      rw [blsOf_rps r q2] at h1
      exact ⟨a, bs, e, h1, rfl⟩
theorem cd_all : CallD K cm (rAll K) (one allG) := by
  intro F H vs ds d s hv hg Q k
  obtain ⟨x, rfl, hg⟩ := one_eq hg
  obtain ⟨v, rfl, hw⟩ := paired1 hv
  obtain ⟨a, bs, rfl, h1, rfl⟩ := bls_case s hw hg
  exact ⟨a, bs, rfl, h1, k F H _ (Grow.refl s) (.bl _)⟩
theorem cd_any : CallD K cm (rAny K) (one anyG) := by
  intro F H vs ds d s hv hg Q k
  obtain ⟨x, rfl, hg⟩ := one_eq hg
  obtain ⟨v, rfl, hw⟩ := paired1 hv
  obtain ⟨a, bs, rfl, h1, rfl⟩ := bls_case s hw hg
  exact ⟨a, bs, rfl, h1, k F H _ (Grow.refl s) (.bl _)⟩
/-- sum of a list of ints -/
def intsOf : List D → Option (List Int)
  | [] => some []
  | .int b :: ds => (intsOf ds).map fun bs => b :: bs
  | _ => none
theorem intsOf_rps {F : Hp} : ∀ {ds : List D} {vs : List V} {bs : List Int}, Rps K cm F ds vs → intsOf ds = some bs → vs = bs.map V.int
  | _, _, _, .nil, e => by cases e; rfl
  | .int b :: ds, _, bs, .cons h r, e => by
    have e : ((intsOf ds).map fun bs => b :: bs) = some bs := e
    cases q : intsOf ds with
    | none => rw [q] at e; cases e
    | some cs => rw [q] at e; cases e; cases h; rw [intsOf_rps r q]; rfl
def sumG (d : D) : Option D := (lisOf d).bind fun ds => (intsOf ds).map fun bs => .int bs.sum
theorem ints_case {F H : Hp} {x : D} {v : V} (s : Same F H) (hv : Rv K cm F H x v) {f : List Int → D} {d : D} (hg : ((lisOf x).bind fun ds => (intsOf ds).map f) = some d) : ∃ a bs, v = .ref a ∧ SqL K H a (bs.map V.int) ∧ d = f bs := by
  cases q : lisOf x with
  | none => rw [q] at hg; cases hg
  | some ds =>
    rw [q] at hg
    have hg : (intsOf ds).map f = some d := hg
    cases q2 : intsOf ds with
    | none => rw [q2] at hg; cases hg
    | some bs =>
      rw [q2] at hg; cases hg
      obtain ⟨a, xs, e, h1, r⟩ := hv.lis s q
      rw [intsOf_rps r q2] at h1
      exact ⟨a, bs, e, h1, rfl⟩
theorem cd_sum : CallD K cm (rSum K) (one sumG) := by
  intro F H vs ds d s hv hg Q k
  obtain ⟨x, rfl, hg⟩ := one_eq hg
  obtain ⟨v, rfl, hw⟩ := paired1 hv
  obtain ⟨a, bs, rfl, h1, rfl⟩ := ints_case s hw hg
  exact ⟨a, bs, rfl, h1, k F H _ (Grow.refl s) (.int _)⟩
/-- list(xs), tuple(xs) -/
def listG (d : D) : Option D := (seqOf d).map .lst
def rListD (K : PySem.W.Frag) : List V → Hp → VK → Prop := fun xs H Q => ∃ p ys, xs = [.ref p] ∧ (SqL K H p ys ∨ SqT K H p ys) ∧ ∀ l, H l = none → Q (.ref l) (upd H l (.lst ys))
theorem cf_list : CallF K cm (rListD K) (one listG) := by
  intro F H vs ds d s hv hg Q k
  obtain ⟨x, rfl, hg1⟩ := one_eq hg
  obtain ⟨v, rfl, hw⟩ := paired1 hv
  have hg2 : (seqOf x).map D.lst = some d := hg1
  cases q : seqOf x with
  | none => rw [q] at hg2; cases hg2
  | some es =>
    rw [q] at hg2; cases hg2
    obtain ⟨a, xs, rfl, h1, r⟩ := hw.seq s q
    exact ⟨a, xs, rfl, h1, fun l hl => k _ _ _ (Grow.newH s hl) hl (s.free hl) ⟨xs, upd_same, r⟩⟩
def tupleG : D → Option D
  | .frt ds => some (.frt ds)
  | d => (seqOf d).map .tup
def rTupleD (K : PySem.W.Frag) : List V → Hp → VK → Prop := fun xs H Q => ∃ p ys, xs = [.ref p] ∧ ((SqL K H p ys ∧ ∀ l, H l = none → Q (.ref l) (upd H l (.tup ys))) ∨ (SqT K H p ys ∧ Q (.ref p) H))
theorem cd_tuple : CallD K cm (rTupleD K) (one tupleG) := by
  intro F H vs ds d s hv hg Q k
  obtain ⟨x, rfl, hg⟩ := one_eq hg
  obtain ⟨v, rfl, hw⟩ := paired1 hv
  have lis : ∀ es, lisOf x = some es → d = .tup es → rTupleD K [v] H Q := fun es e1 e2 => by
    subst e2
    obtain ⟨a, xs, rfl, h1, r⟩ := hw.lis s e1
    exact ⟨a, xs, rfl, .inl ⟨h1, fun l hl => by
        have g := Grow.new (o := .tup xs) s hl
        exact k _ _ _ g (.tup upd_same (r.ext (Ext.of g.f)))⟩⟩
  cases x with
  | lst es => cases hg; exact lis es rfl rfl
  | frl es => cases hg; exact lis es rfl rfl
  | tup es =>
    cases hg
    obtain ⟨a, xs, rfl, h1, r⟩ := hw.tup s
    exact ⟨a, xs, rfl, .inr ⟨h1, k F H _ (Grow.refl s) (by
      rcases hw with h | ⟨_, _, _, h⟩
      · exact h
      · exact False.elim h)⟩⟩
  | frt es =>
    cases hg
    obtain ⟨a, xs, rfl, h1, r⟩ := hw.frt s
    exact ⟨a, xs, rfl, .inr ⟨h1, k F H _ (Grow.refl s) (by
      rcases hw with h | ⟨_, _, _, h⟩
      · exact h
      · exact False.elim h)⟩⟩
  | _ => cases hg
end
end Pd

/-! Pd5: statements on slots: stores, if, while, for, return. -/
namespace Pd
open PySem PySem.Spec L2

inductive SR where
  | nx | brk | cnt | ret (s : Sl) | exc (x : Exn)
abbrev SM := Env → Option (SR × Env)
/-- a new object that a def hands out, or one that a slot gives up -/
def Hand (K : PySem.W.Frag) (cm : Str → Option Addr) (G : Gd) (F H : Hp) (σ : St) (ρ : Env) (a : Addr) (d : D) : Prop :=
  Free G a ∧ OwnR K cm F H a d ∧ ∀ (i : Nat) (s : Sl), ρ[i]? = some s → owns s = true → σ[i]? ≠ some (some (V.ref a))
def SPost (K : PySem.W.Frag) (cm : Str → Option Addr) (G : Gd) (W : WX) (F : Hp) (D : Ends) (r : SR) (ρ' : Env) : Prop :=
  ∀ F' H' σ', ER K cm G F' H' σ' ρ' → Ext F F' → match r with
    | .nx => D.nx σ' H'
    | .brk => D.bk σ' H'
    | .cnt => D.ct σ' H'
    | .ret (.val d) => ∀ v, Rp K cm F' d v → D.rt v H'
    | .ret (.own d) => ∀ a, Hand K cm G F' H' σ' ρ' a d → D.rt (.ref a) H'
    | .ret _ => False
    | .exc x => ∀ cv dx, XR K cm F' x cv dx → W cv dx σ' H'
def Jst (X : Cx) (cm : Str → Option Addr) (W : WX) (t : TS) (g : SM) : Prop :=
  ∀ (G : Gd) (F H : Hp) (σ : St) (ρ : Env) (r : SR) (ρ' : Env), ER X.K cm G F H σ ρ → g ρ = some (r, ρ') → ∀ D : Ends, SPost X.K cm G W F D r ρ' → t D σ H
section
variable (X : Cx) (cm : Str → Option Addr) (W : WX)
def PSd (st : Stmt) (g : SM) : Prop := ∃ t : TS, PS X st t ∧ Jst X cm W t g
def PSsd (sts : List Stmt) (g : SM) : Prop := ∃ t : TS, PSs X sts t ∧ Jst X cm W t g
end
/-- an expression, then what is done with its value -/
def exps {α : Type} (f : M α) (k : α → SM) : SM := fun ρ => match f ρ with
  | none => none
  | some (.ok a, ρ') => k a ρ'
  | some (.exc x, ρ') => some (.exc x, ρ')
def seqS (g h : SM) : SM := fun ρ => match g ρ with
  | some (.nx, ρ') => h ρ'
  | r => r
def skipS : SM := fun ρ => some (.nx, ρ)
section
variable {X : Cx} {cm : Str → Option Addr} {W : WX} {pos : Pos} {st : Stmt} {rest : List Stmt} {g h : SM} {e : Expr} {fd : M D} {fo : M Op}
theorem SPost.mono {K : PySem.W.Frag} {G : Gd} {F F1 : Hp} {D : Ends} {r : SR} {ρ' : Env} (x : Ext F F1) (p : SPost K cm G W F D r ρ') : SPost K cm G W F1 D r ρ' :=
  fun F' H' σ' er x' => p F' H' σ' er (x.trans x')
theorem jst_exp {α β : Type} {rel : Rel α β} {t : St → Hp → (β → Hp → Prop) → Prop} {f : M α} {k : α → SM} {t2 : β → TS} (j : Jd X cm W rel t f)
    (j2 : ∀ a b G F H σ ρ r ρ', ER X.K cm G F H σ ρ → rel G F H σ ρ a b → k a ρ = some (r, ρ') → ∀ D : Ends, SPost X.K cm G W F D r ρ' → t2 b D σ H) :
    Jst X cm W (fun D σ H => t σ H fun b H1 => t2 b D σ H1) (exps f k) := by
  intro G F H σ ρ r ρ' er hf D hD
  unfold exps at hf
  cases q : f ρ with
  | none => rw [q] at hf; cases hf
  | some p =>
    obtain ⟨ra, ρ1⟩ := p
    rw [q] at hf
    refine j G F H σ ρ ra ρ1 er trivial q _ ?_
    intro F1 H1 er1 x1
    cases ra with
    | exc x =>
      cases hf
      exact hD F1 H1 σ er1 x1
    | ok a => exact fun b hb => j2 a b G F1 H1 σ ρ1 r ρ' er1 hb hf D (hD.mono x1)
theorem pss_nil' : PSsd X cm W [] skipS := ⟨_, pss_nil, fun G F H σ ρ r ρ' er hf D hD => by
  cases hf
  exact hD F H σ er (Ext.refl F)⟩
theorem pss_cons' (h1 : PSd X cm W st g) (h2 : PSsd X cm W rest h) : PSsd X cm W (st :: rest) (seqS g h) := by
  obtain ⟨t, p, j⟩ := h1
  obtain ⟨u, p2, j2⟩ := h2
  refine ⟨_, pss_cons p p2, fun G F H σ ρ r ρ' er hf D hD => ?_⟩
  unfold seqS at hf
  cases q : g ρ with
  | none => rw [q] at hf; cases hf
  | some x =>
    obtain ⟨r1, ρ1⟩ := x
    rw [q] at hf
    refine j G F H σ ρ r1 ρ1 er q _ fun F1 H1 σ1 er1 x1 => ?_
    cases r1 with
    | nx => exact j2 G F1 H1 σ1 ρ1 r ρ' er1 hf D (hD.mono x1)
    | brk => cases hf; exact hD F1 H1 σ1 er1 x1
    | cnt => cases hf; exact hD F1 H1 σ1 er1 x1
    | exc x => cases hf; exact hD F1 H1 σ1 er1 x1
    | ret s =>
      cases hf
      have := hD F1 H1 σ1 er1 x1
      cases s <;> exact this
theorem pss_one' (h1 : PSd X cm W st g) : PSsd X cm W [st] g := by
  obtain ⟨t, p, j⟩ := h1
  exact ⟨t, pss_one p, j⟩
theorem psd_never : PSd X cm W st (fun _ => none) := ⟨_, ps_never, fun G F H σ ρ r ρ' er hf => nomatch hf⟩
theorem pssd_never : PSsd X cm W rest (fun _ => none) := ⟨_, pss_never, fun G F H σ ρ r ρ' er hf => nomatch hf⟩
theorem psd_pass : PSd X cm W (.Pass pos) skipS := ⟨_, ps_pass, fun G F H σ ρ r ρ' er hf D hD => by
  cases hf
  exact hD F H σ er (Ext.refl F)⟩
theorem psd_break : PSd X cm W (.Break pos) (fun ρ => some (.brk, ρ)) := ⟨_, ps_break, fun G F H σ ρ r ρ' er hf D hD => by
  cases hf
  exact hD F H σ er (Ext.refl F)⟩
theorem psd_continue : PSd X cm W (.Continue pos) (fun ρ => some (.cnt, ρ)) := ⟨_, ps_continue, fun G F H σ ρ r ρ' er hf D hD => by
  cases hf
  exact hD F H σ er (Ext.refl F)⟩
theorem psd_doc {x j pos'} : PSd X cm W (.Expr (.Constant (.str x) j pos) pos') skipS := ⟨_, ps_doc, fun G F H σ ρ r ρ' er hf D hD => by
  cases hf
  exact hD F H σ er (Ext.refl F)⟩
/-! ### stores -/
def setV (i : Nat) (d : D) : SM := fun ρ => if i < ρ.length then some (.nx, ρ.set i (.val d)) else none
def setOw (i : Nat) (d : D) : SM := fun ρ => if i < ρ.length then some (.nx, ρ.set i (.own d)) else none
theorem set_self {α : Type} {l : List α} {i : Nat} {a : α} (h : i < l.length) : (l.set i a)[i]? = some a := List.getElem?_set_self h
theorem ER.setV {K : PySem.W.Frag} {G : Gd} {F H : Hp} {σ : St} {ρ : Env} {i : Nat} {d : D} {v : V} (er : ER K cm G F H σ ρ) (hi : i < ρ.length) (hv : Rp K cm F d v) : ER K cm G F H (σ.set i (some v)) (ρ.set i (.val d)) := by
  have hi2 : i < σ.length := by rw [← er.len]; exact hi
  refine ⟨er.sub, er.f0, er.h0, er.live, er.nf, fun j s q => ?_, fun j k s t qj qk os ot eq => ?_, by rw [List.length_set, List.length_set]; exact er.len⟩
  · by_cases c : j = i
    · subst c
      rw [set_self hi] at q
      cases q
      exact ⟨v, set_self hi2, hv⟩
    · rw [List.getElem?_set_ne (Ne.symm c)] at q
      have hs := er.slot j s q
      cases s with
      | no => trivial
      | val d' => obtain ⟨w, e, r⟩ := hs; exact ⟨w, by rw [List.getElem?_set_ne (Ne.symm c)]; exact e, r⟩
      | own d' => obtain ⟨w, e, r⟩ := hs; exact ⟨w, by rw [List.getElem?_set_ne (Ne.symm c)]; exact e, r⟩
      | par d' => obtain ⟨w, e, r⟩ := hs; exact ⟨w, by rw [List.getElem?_set_ne (Ne.symm c)]; exact e, r⟩
  · by_cases cj : j = i
    · subst cj
      rw [set_self hi] at qj
      cases qj; cases os
    · by_cases ck : k = i
      · subst ck
        rw [set_self hi] at qk
        cases qk; cases ot
      · rw [List.getElem?_set_ne (Ne.symm cj)] at qj eq
        rw [List.getElem?_set_ne (Ne.symm ck)] at qk eq
        exact er.inj j k s t qj qk os ot eq
theorem ER.setO {K : PySem.W.Frag} {G : Gd} {F H : Hp} {σ : St} {ρ : Env} {i : Nat} {d : D} {a : Addr} (er : ER K cm G F H σ ρ) (hi : i < ρ.length) (hv : Hand K cm G F H σ ρ a d) : ER K cm G F H (σ.set i (some (.ref a))) (ρ.set i (.own d)) := by
  have hi2 : i < σ.length := by rw [← er.len]; exact hi
  obtain ⟨h1, h2, h3⟩ := hv
  refine ⟨er.sub, er.f0, er.h0, er.live, er.nf, fun j s q => ?_, fun j k s t qj qk os ot eq => ?_, by rw [List.length_set, List.length_set]; exact er.len⟩
  · by_cases c : j = i
    · subst c
      rw [set_self hi] at q
      cases q
      exact ⟨a, set_self hi2, h1, h2⟩
    · rw [List.getElem?_set_ne (Ne.symm c)] at q
      have hs := er.slot j s q
      cases s with
      | no => trivial
      | val d' => obtain ⟨w, e, r⟩ := hs; exact ⟨w, by rw [List.getElem?_set_ne (Ne.symm c)]; exact e, r⟩
      | own d' => obtain ⟨w, e, r⟩ := hs; exact ⟨w, by rw [List.getElem?_set_ne (Ne.symm c)]; exact e, r⟩
      | par d' => obtain ⟨w, e, r⟩ := hs; exact ⟨w, by rw [List.getElem?_set_ne (Ne.symm c)]; exact e, r⟩
  · by_cases cj : j = i
    · by_cases ck : k = i
      · rw [cj, ck]
      · subst cj
        rw [set_self hi2] at eq
        rw [List.getElem?_set_ne (Ne.symm ck)] at qk eq
        exact absurd eq.symm (h3 k t qk ot)
    · by_cases ck : k = i
      · subst ck
        rw [set_self hi2] at eq
        rw [List.getElem?_set_ne (Ne.symm cj)] at qj eq
        exact absurd eq (h3 j s qj os)
      · rw [List.getElem?_set_ne (Ne.symm cj)] at qj eq
        rw [List.getElem?_set_ne (Ne.symm ck)] at qk eq
        exact er.inj j k s t qj qk os ot eq
theorem psd_set {x : Str} {pos' : Pos} (i : Nat) (hN : X.N.Nodup) (he : PD X cm W e fd) (hi : X.N[i]? = some x := by rfl) (hx : Loc X.env.scope x := by first | exact Or.inl rfl | exact Or.inr rfl) (hs : swapsWith e (some (.Name x pos')) pos.line X.env = pure false := by rfl)
    (hf : X.fn x = true ∨ X.env.scope.names.lookup x = some .local := by first | exact .inl rfl | exact .inr rfl | assumption) : PSd X cm W (.Assign [.Name x pos'] e pos) (exps fd (setV i)) := by
  obtain ⟨t, p, j⟩ := he
  refine ⟨_, ps_set hN hi hx p hs hf, jst_exp (t2 := fun v D σ H => gName i v σ H D.nx) j fun d v G F H σ ρ r ρ' er hv hk D hD => ?_⟩
  unfold setV at hk
  by_cases c : i < ρ.length
  · rw [if_pos c] at hk; cases hk
    exact hD F H _ (er.setV c hv) (Ext.refl F)
  · rw [if_neg c] at hk; cases hk
theorem psd_setO {x : Str} {pos' : Pos} (i : Nat) (hN : X.N.Nodup) (he : PF X cm W e fd) (hi : X.N[i]? = some x := by rfl) (hx : Loc X.env.scope x := by first | exact Or.inl rfl | exact Or.inr rfl) (hs : swapsWith e (some (.Name x pos')) pos.line X.env = pure false := by rfl)
    (hf : X.fn x = true ∨ X.env.scope.names.lookup x = some .local := by first | exact .inl rfl | exact .inr rfl | assumption) : PSd X cm W (.Assign [.Name x pos'] e pos) (exps fd (setOw i)) := by
  obtain ⟨t, p, j⟩ := he
  refine ⟨_, ps_set hN hi hx p hs hf, jst_exp (t2 := fun v D σ H => gName i v σ H D.nx) j fun d v G F H σ ρ r ρ' er hv hk D hD => ?_⟩
  obtain ⟨a, rfl, h⟩ := hv
  unfold setOw at hk
  by_cases c : i < ρ.length
  · rw [if_pos c] at hk; cases hk
    exact hD F H _ (er.setO c h) (Ext.refl F)
  · rw [if_neg c] at hk; cases hk
theorem psd_ret (he : PD X cm W e fd) : PSd X cm W (.Return (some e) pos) (exps fd fun d ρ => some (.ret (.val d), ρ)) := by
  obtain ⟨t, p, j⟩ := he
  refine ⟨_, ps_ret p, jst_exp (t2 := fun v D σ H => D.rt v H) j fun d v G F H σ ρ r ρ' er hv hk D hD => ?_⟩
  cases hk
  exact hD F H σ er (Ext.refl F) v hv
theorem psd_retF (he : PF X cm W e fd) : PSd X cm W (.Return (some e) pos) (exps fd fun d ρ => some (.ret (.own d), ρ)) := by
  obtain ⟨t, p, j⟩ := he
  refine ⟨_, ps_ret p, jst_exp (t2 := fun v D σ H => D.rt v H) j fun d v G F H σ ρ r ρ' er hv hk D hD => ?_⟩
  cases hk
  obtain ⟨a, rfl, h⟩ := hv
  exact hD F H σ er (Ext.refl F) a h
theorem psd_retN : PSd X cm W (.Return none pos) (fun ρ => some (.ret (.val .non), ρ)) := ⟨_, ps_retN, fun G F H σ ρ r ρ' er hf D hD => by
  cases hf
  exact hD F H σ er (Ext.refl F) .non .non⟩
/-- the slot gives up what it owns -/
def giveUp (i : Nat) : SM := fun ρ => match ρ[i]? with
  | some (.own d) => some (.ret (.own d), ρ.set i .no)
  | some (.val d) => some (.ret (.val d), ρ)
  | _ => none
theorem psd_retO (i : Nat) {x : Str} {pos' : Pos} (hN : X.N[i]? = some x := by rfl) (hv : Vis X.env.scope x := by first | exact Or.inl rfl | exact Or.inr (Or.inl rfl) | exact Or.inr (Or.inr rfl)) (hd : (x == ("__debug__" : Str)) = false := by decide)
    (hcd : (x == ("__classdict__" : Str)) = false := by decide) : PSd X cm W (.Return (some (.Name x pos')) pos) (giveUp i) := by
  refine ⟨_, ps_ret (pe_var hN hv hd hcd), fun G F H σ ρ r ρ' er hf D hD => ?_⟩
  unfold giveUp at hf
  cases q : ρ[i]? with
  | none => rw [q] at hf; cases hf
  | some s =>
    rw [q] at hf
    have hs := er.slot i s q
    cases s with
    | no => cases hf
    | par _ => cases hf
    | val d =>
      cases hf
      obtain ⟨v, e1, r⟩ := hs
      exact ⟨v, e1, hD F H σ er (Ext.refl F) v r⟩
    | own d =>
      cases hf
      obtain ⟨a, e1, fr, ow⟩ := hs
      have hi : i < ρ.length := (List.getElem?_eq_some_iff.mp q).1
      refine ⟨.ref a, e1, hD F H σ ?_ (Ext.refl F) a ⟨fr, ow, fun j s qj os z => ?_⟩⟩
      · refine ⟨er.sub, er.f0, er.h0, er.live, er.nf, fun j s qj => ?_, fun j k s t qj qk os ot eq => ?_, by rw [List.length_set]; exact er.len⟩
        · by_cases c : j = i
          · subst c; rw [set_self hi] at qj; cases qj; trivial
          · rw [List.getElem?_set_ne (Ne.symm c)] at qj; exact er.slot j s qj
        · by_cases cj : j = i
          · subst cj; rw [set_self hi] at qj; cases qj; cases os
          · by_cases ck : k = i
            · subst ck; rw [set_self hi] at qk; cases qk; cases ot
            · rw [List.getElem?_set_ne (Ne.symm cj)] at qj
              rw [List.getElem?_set_ne (Ne.symm ck)] at qk
              exact er.inj j k s t qj qk os ot eq
      · by_cases c : j = i
        · subst c; rw [set_self hi] at qj; cases qj; cases os
        · rw [List.getElem?_set_ne (Ne.symm c)] at qj
          exact c (er.inj j i s _ qj q os rfl (z.trans e1.symm))
theorem psd_expr (he : PD X cm W e fd) (hs : swapsWith e none pos.line X.env = pure false := by rfl) : PSd X cm W (.Expr e pos) (exps fd fun _ => skipS) := by
  obtain ⟨t, p, j⟩ := he
  refine ⟨_, ps_expr p hs, jst_exp (t2 := fun v D σ H => D.nx σ H) j fun d v G F H σ ρ r ρ' er hv hk D hD => ?_⟩
  cases hk
  exact hD F H σ er (Ext.refl F)
/-! ### if -/
theorem psd_if {c : Expr} {a b : List Stmt} {f : M Bool} (hc : PB X cm W c f) (ha : PSsd X cm W a g) (hb : PSsd X cm W b h) : PSd X cm W (.If c a b pos) (exps f fun k => if k = true then g else h) := by
  obtain ⟨t, p, j⟩ := hc
  obtain ⟨u, p2, j2⟩ := ha
  obtain ⟨w, p3, j3⟩ := hb
  refine ⟨_, ps_if p p2 p3, jst_exp (t2 := fun k D σ H => if k = true then u D σ H else w D σ H) j fun k k' G F H σ ρ r ρ' er hv hk D hD => ?_⟩
  have hv : k = k' := hv
  subst hv
  cases k with
  | true => exact j2 G F H σ ρ r ρ' er hk D hD
  | false => exact j3 G F H σ ρ r ρ' er hk D hD
end
end Pd

/-! Pd6: targets, walks, for, while, comprehensions. -/
namespace Pd
open PySem PySem.Spec L2

/-! ### a ground within the ground -/
def inn (G : Gd) (F H : Hp) (σ : St) (ρ : Env) : Gd where
  vs := G.vs
  pa := fun a => ∃ (i : Nat) (d : D), ρ[i]? = some (.par d) ∧ σ[i]? = some (some (.ref a))
  fr := fun a => ∃ (i : Nat) (d : D), ρ[i]? = some (.own d) ∧ σ[i]? = some (some (.ref a))
  F0 := F
  H0 := H
section
variable {K : PySem.W.Frag} {cm : Str → Option Addr} {G : Gd} {F H F' H' : Hp} {σ σ' : St} {ρ ρ' : Env}
theorem ER.inner (er : ER K cm G F H σ ρ) : ER K cm (inn G F H σ ρ) F H σ ρ where
  sub := er.sub
  f0 := Ext.refl F
  h0 := fun _ _ h _ _ => h
  live := fun _ h => h
  nf := fun _ _ h _ => h
  slot := fun i s e => by
    have hs := er.slot i s e
    cases s with
    | no => trivial
    | val d => exact hs
    | own d => obtain ⟨a, e1, _, r⟩ := hs; exact ⟨a, e1, .inr ⟨i, d, e, e1⟩, r⟩
    | par d => obtain ⟨a, e1, q, r⟩ := hs; exact ⟨a, e1, ⟨q.1, ⟨i, d, e, e1⟩⟩, r⟩
  inj := er.inj
  len := er.len
theorem ER.pa_of (er : ER K cm G F H σ ρ) {a : Addr} (h : (inn G F H σ ρ).pa a) : G.pa a := by
  obtain ⟨i, d, e, e1⟩ := h
  obtain ⟨b, e2, q, _⟩ := er.slot i _ e
  rw [e1] at e2
  have : a = b := V.ref.inj (Option.some.inj (Option.some.inj e2))
  subst this
  exact q.2
theorem ER.fr_of (er : ER K cm G F H σ ρ) {a : Addr} (h : (inn G F H σ ρ).fr a) : Free G a := by
  obtain ⟨i, d, e, e1⟩ := h
  obtain ⟨b, e2, q, _⟩ := er.slot i _ e
  rw [e1] at e2
  have : a = b := V.ref.inj (Option.some.inj (Option.some.inj e2))
  subst this
  exact q
theorem ER.outer (er : ER K cm G F H σ ρ) (er' : ER K cm (inn G F H σ ρ) F' H' σ' ρ') : ER K cm G F' H' σ' ρ' where
  sub := er'.sub
  f0 := er.f0.trans er'.f0
  h0 := fun b o h n m => er'.h0 b o (er.h0 b o h n m) (fun z => n (er.pa_of z)) (fun z => by
    rcases er.fr_of z with q | q
    · rw [q] at h; cases h
    · exact m q)
  live := fun b h => er'.live b (er.live b h)
  nf := fun b h n m => er'.nf b (er.live b h) (er.nf b h n m) (fun z => by
    rcases er.fr_of z with q | q
    · exact h q
    · exact m q)
  slot := fun i s e => by
    have hs := er'.slot i s e
    cases s with
    | no => trivial
    | val d => exact hs
    | own d =>
      obtain ⟨a, e1, q, r⟩ := hs
      refine ⟨a, e1, ?_, r⟩
      rcases q with q | q
      · refine .inl ?_
        cases z : G.H0 a with
        | none => rfl
        | some o => exact absurd q (er.live a (by rw [z]; simp))
      · exact er.fr_of q
    | par d => obtain ⟨a, e1, q, r⟩ := hs; exact ⟨a, e1, ⟨q.1, er.pa_of q.2⟩, r⟩
  inj := er'.inj
  len := er'.len
/-- what no slot owned stands -/
theorem ER.kept (er' : ER K cm (inn G F H σ ρ) F' H' σ' ρ') {b : Addr} {o : HO} (h : H b = some o) (hn : ∀ (i : Nat) (s : Sl), ρ[i]? = some s → owns s = true → σ[i]? ≠ some (some (V.ref b))) : H' b = some o :=
  er'.h0 b o h (fun ⟨i, d, e, e1⟩ => hn i _ e rfl e1) (fun ⟨i, d, e, e1⟩ => hn i _ e rfl e1)
/-- .. and no slot owns it behind -/
theorem ER.unowned (er' : ER K cm (inn G F H σ ρ) F' H' σ' ρ') {b : Addr} {o : HO} (h : H b = some o) (hn : ∀ (i : Nat) (s : Sl), ρ[i]? = some s → owns s = true → σ[i]? ≠ some (some (V.ref b))) :
    ∀ (i : Nat) (s : Sl), ρ'[i]? = some s → owns s = true → σ'[i]? ≠ some (some (V.ref b)) := fun i s e os z => by
  have hs := er'.slot i s e
  cases s with
  | own d =>
    obtain ⟨a, e1, q, _⟩ := hs
    rw [z] at e1
    have : b = a := V.ref.inj (Option.some.inj (Option.some.inj e1))
    subst this
    rcases q with q | ⟨j, d2, e3, e4⟩
    · have q : H b = none := q
      rw [h] at q; cases q
    · exact hn j _ e3 rfl e4
  | par d =>
    obtain ⟨a, e1, q, _⟩ := hs
    rw [z] at e1
    have : b = a := V.ref.inj (Option.some.inj (Option.some.inj e1))
    subst this
    obtain ⟨j, d2, e3, e4⟩ := q.2
    exact hn j _ e3 rfl e4
  | _ => cases os
theorem ER.unfrozen (er' : ER K cm (inn G F H σ ρ) F' H' σ' ρ') {b : Addr} {o : HO} (h : H b = some o) (hf : F b = none) (hn : ∀ (i : Nat) (s : Sl), ρ[i]? = some s → owns s = true → σ[i]? ≠ some (some (V.ref b))) : F' b = none :=
  er'.nf b (by show H b ≠ none; rw [h]; simp) hf (fun ⟨i, d, e, e1⟩ => hn i _ e rfl e1)
/-- an object that nobody speaks of is written -/
theorem ER.other (er : ER K cm G F H σ ρ) {b : Addr} {o : HO} (hf : F b = none) (h0 : G.H0 b = none) (hn : ∀ (i : Nat) (s : Sl), ρ[i]? = some s → owns s = true → σ[i]? ≠ some (some (V.ref b))) : ER K cm G F (upd H b o) σ ρ where
  sub := fun c u e => by rw [upd_ne (ne_of_none e hf)]; exact er.sub c u e
  f0 := er.f0
  h0 := fun c u e n m => by
    have hc : c ≠ b := fun z => by subst z; rw [h0] at e; cases e
    rw [upd_ne hc]; exact er.h0 c u e n m
  live := fun c h => by
    have hc : c ≠ b := fun z => by subst z; exact h h0
    rw [upd_ne hc]; exact er.live c h
  nf := er.nf
  slot := fun i s e => by
    have hs := er.slot i s e
    cases s with
    | no => trivial
    | val d => exact hs
    | own d =>
      obtain ⟨a, e1, q, r⟩ := hs
      exact ⟨a, e1, q, r.mono (Ext.refl F) (upd_ne fun z => by subst z; exact hn i _ e rfl e1) r.1⟩
    | par d =>
      obtain ⟨a, e1, q, r⟩ := hs
      exact ⟨a, e1, q, r.mono (Ext.refl F) (upd_ne fun z => by subst z; exact hn i _ e rfl e1) r.1⟩
  inj := er.inj
  len := er.len
end

/-! ### targets -/
abbrev GS := D → Env → Option Env
/-- slots ts are stored -/
def JG (X : Cx) (cm : Str → Option Addr) (ts : List Nat) (g : TG) (gs : GS) : Prop :=
  ∀ (G : Gd) (F H : Hp) (σ : St) (ρ ρ' : Env) (d : D) (v : V), ER X.K cm G F H σ ρ → Rp X.K cm F d v → gs d ρ = some ρ' → ∀ Q : St → Hp → Prop,
    (∀ σ', ER X.K cm G F H σ' ρ' → σ'.length = σ.length → (∀ j, j ∉ ts → σ'[j]? = σ[j]?) → Q σ' H) → g v σ H Q
def PGd (X : Cx) (cm : Str → Option Addr) (tg : Expr) (ts : List Nat) (gs : GS) : Prop := ∃ g : TG, PG X tg g ∧ JG X cm ts g gs
def JGs (X : Cx) (cm : Str → Option Addr) (ts : List Nat) (g : TGs) (gs : List D → Env → Option Env) : Prop :=
  ∀ (G : Gd) (F H : Hp) (σ : St) (ρ ρ' : Env) (ds : List D) (vs : List V), ER X.K cm G F H σ ρ → Rps X.K cm F ds vs → gs ds ρ = some ρ' → ∀ Q : St → Hp → Prop,
    (∀ σ', ER X.K cm G F H σ' ρ' → σ'.length = σ.length → (∀ j, j ∉ ts → σ'[j]? = σ[j]?) → Q σ' H) → g vs σ H Q
def PGsd (X : Cx) (cm : Str → Option Addr) (tgs : List Expr) (ts : List Nat) (gs : List D → Env → Option Env) : Prop := ∃ g : TGs, PGs X tgs g ∧ JGs X cm ts g gs
def gV (i : Nat) : GS := fun d ρ => if i < ρ.length then some (ρ.set i (.val d)) else none
def tupOf : D → Option (List D)
  | .tup ds => some ds
  | .frt ds => some ds
  | _ => none
def gT (n : Nat) (gs : List D → Env → Option Env) : GS := fun d ρ => (tupOf d).bind fun ds => if ds.length = n then gs ds ρ else none
def gN : List D → Env → Option Env
  | [], ρ => some ρ
  | _, _ => none
def gC (g : GS) (gs : List D → Env → Option Env) : List D → Env → Option Env
  | d :: ds, ρ => (g d ρ).bind (gs ds)
  | [], _ => none
section
variable {X : Cx} {cm : Str → Option Addr} {W : WX} {pos : Pos}
theorem pgd_name (i : Nat) {x : Str} (hN : X.N.Nodup) (hi : X.N[i]? = some x := by rfl) (hx : Loc X.env.scope x := by first | exact Or.inl rfl | exact Or.inr rfl) (hf : X.fn x = true ∨ X.env.scope.names.lookup x = some .local := by first | exact .inl rfl | exact .inr rfl) : PGd X cm (.Name x pos) [i] (gV i) := by
  refine ⟨_, pg_name hN hi hx hf, fun G F H σ ρ ρ' d v er hv hg Q k => ?_⟩
  unfold gV at hg
  by_cases c : i < ρ.length
  · rw [if_pos c] at hg; cases hg
    exact k _ (er.setV c hv) (by rw [List.length_set]) fun j hj => List.getElem?_set_ne (fun z => hj (by rw [z]; exact List.mem_singleton.mpr rfl))
  · rw [if_neg c] at hg; cases hg
theorem pgs_nil' : PGsd X cm [] [] gN := ⟨_, pgs_nil, fun G F H σ ρ ρ' ds vs er hv hg Q k => by
  cases hv with
  | nil => cases hg; exact ⟨rfl, k σ er rfl fun _ _ => rfl⟩
  | cons _ _ => cases hg⟩
theorem pgs_cons' {e : Expr} {es : List Expr} {ts us : List Nat} {g : GS} {gs : List D → Env → Option Env} (h1 : PGd X cm e ts g) (h2 : PGsd X cm es us gs) (hs : (assignEach (e :: es) X.env).map (·.2) = assign e X.env :: (assignEach es X.env).map (·.2) := by rfl) : PGsd X cm (e :: es) (ts ++ us) (gC g gs) := by
  obtain ⟨t, p, j⟩ := h1
  obtain ⟨u, p2, j2⟩ := h2
  refine ⟨_, pgs_cons p p2 hs, fun G F H σ ρ ρ' ds vs er hv hg Q k => ?_⟩
  cases hv with
  | nil => cases hg
  | @cons d v ds vs h r =>
    have hg : (g d ρ).bind (gs ds) = some ρ' := hg
    cases q : g d ρ with
    | none => rw [q] at hg; cases hg
    | some ρ1 =>
      rw [q] at hg
      exact ⟨v, vs, rfl, j G F H σ ρ ρ1 d v er h q _ fun σ1 er1 l1 o1 => j2 G F H σ1 ρ1 ρ' ds vs er1 r hg _ fun σ2 er2 l2 o2 =>
        k σ2 er2 (l2.trans l1) fun j hj => (o2 j fun z => hj (List.mem_append_right _ z)).trans (o1 j fun z => hj (List.mem_append_left _ z))⟩
theorem pgd_tup {es : List Expr} {k n : Nat} {ts : List Nat} {gs : List D → Env → Option Env} (hc : X.calm = true) (h : PGsd X cm es ts gs)
    (hn : (assignEach es X.env).length = n := by rfl) (hst : (assignEach es X.env).findIdx? (·.1) = none := by rfl) : PGd X cm (.Tuple es k pos) ts (gT n gs) := by
  obtain ⟨u, p, j⟩ := h
  refine ⟨_, pg_tup hc p hn hst, fun G F H σ ρ ρ' d v er hv hg Q kk => ?_⟩
  have hg : ((tupOf d).bind fun ds => if ds.length = n then gs ds ρ else none) = some ρ' := hg
  have key : ∀ ds, tupOf d = some ds → ∃ a xs, v = .ref a ∧ SqT X.K H a xs ∧ Rps X.K cm F ds xs := fun ds e => by
    cases hv with
    | tup h r => cases e; exact ⟨_, _, rfl, SqT.of (er.sub _ _ h), r⟩
    | frt h r => cases e; exact ⟨_, _, rfl, sqT_ext (Ext.of er.sub) h, r⟩
    | _ => cases e
  cases q : tupOf d with
  | none => rw [q] at hg; cases hg
  | some ds =>
    rw [q] at hg
    have hg : (if ds.length = n then gs ds ρ else none) = some ρ' := hg
    by_cases c : ds.length = n
    · rw [if_pos c] at hg
      obtain ⟨a, xs, e, h, r⟩ := key ds q
      exact ⟨a, xs, e, h, by rw [← r.length]; exact c, j G F H σ ρ ρ' _ _ er r hg Q kk⟩
    · rw [if_neg c] at hg; cases hg
theorem psd_asg {tg e : Expr} {ts : List Nat} {gs : GS} {fd : M D} (he : PD X cm W e fd) (hg : PGd X cm tg ts gs) (hs : swapsWithSole [tg] e pos.line X.env = pure false := by rfl) (hw : swappedStores [tg] e X.env = pure none := by rfl)
    (h1 : (assignEach [tg] X.env).map (·.2) = [assign tg X.env] := by rfl) : PSd X cm W (.Assign [tg] e pos) (exps fd fun d ρ => (gs d ρ).map fun ρ' => (.nx, ρ')) := by
  obtain ⟨t, p, j⟩ := he
  obtain ⟨g, pg, jg⟩ := hg
  refine ⟨_, ps_asg p pg hs hw h1, jst_exp (t2 := fun v D σ H => g v σ H D.nx) j fun d v G F H σ ρ r ρ' er hv hk D hD => ?_⟩
  cases q : gs d ρ with
  | none => rw [q] at hk; cases hk
  | some ρ1 =>
    rw [q] at hk
    cases hk
    exact jg G F H σ ρ _ d v er hv q _ fun σ1 er1 _ _ => hD F H σ1 er1 (Ext.refl F)
/-- a, b = e1, e2 -/
def parS (i j : Nat) (f : M (List D)) : SM := exps f fun ds ρ => match ds with
  | [d, e] => if i < ρ.length ∧ j < ρ.length then some (.nx, (ρ.set i (.val d)).set j (.val e)) else none
  | _ => none
theorem psd_par {i j : Nat} {x y : Str} {a b : Expr} {px py pt : Pos} {kt k2 pt2} {fds : M (List D)} (hc : X.calm = true) (hN : X.N.Nodup) (ha : PVs X cm W [a, b] fds) (hi : X.N[i]? = some x := by rfl) (hj : X.N[j]? = some y := by rfl) (hij : i ≠ j := by decide)
    (hx : X.env.scope.names.lookup x = some .local := by rfl) (hy : X.env.scope.names.lookup y = some .local := by rfl)
    (hw : swappedStores [.Tuple [.Name x px, .Name y py] kt pt] (.Tuple [a, b] k2 pt2) X.env = pure (some [x, y]) := by rfl)
    (hs : swapsWithSole [.Tuple [.Name x px, .Name y py] kt pt] (.Tuple [a, b] k2 pt2) pos.line X.env = pure false := by rfl) :
    PSd X cm W (.Assign [.Tuple [.Name x px, .Name y py] kt pt] (.Tuple [a, b] k2 pt2) pos) (parS i j fds) := by
  obtain ⟨t, p, jj⟩ := ha
  refine ⟨_, ps_par hc hN hi hj hij hx hy p hw hs, ?_⟩
  unfold parS
  refine jst_exp (t2 := fun vs D σ H => ∃ v w, vs = [v, w] ∧ D.nx ((σ.set i (some v)).set j (some w)) H) jj fun ds vs G F H σ ρ r ρ' er hv hk D hD => ?_
  have hv : Rps X.K cm F ds vs := hv
  match ds, hv, hk with
  | [d, e], .cons h1 (.cons h2 .nil), hk =>
    have hk : (if i < ρ.length ∧ j < ρ.length then some (SR.nx, (ρ.set i (.val d)).set j (.val e)) else none) = some (r, ρ') := hk
    by_cases c : i < ρ.length ∧ j < ρ.length
    · rw [if_pos c] at hk; cases hk
      exact ⟨_, _, rfl, hD F H _ ((er.setV c.1 h1).setV (by rw [List.length_set]; exact c.2) h2) (Ext.refl F)⟩
    · rw [if_neg c] at hk; cases hk
/-- x op= e, ints -/
def augS (i : Nat) (f : Int → Int → Int) (fd : M D) : SM := fun ρ => match ρ[i]? with
  | some (.val (.int a)) => exps fd (fun d => match d with
    | .int b => setV i (.int (f a b))
    | _ => fun _ => none) ρ
  | _ => none
theorem psd_aug {x : Str} {e : Expr} {pos' : Pos} {op : Operator} {f : Int → Int → Int} {fd : M D} (i : Nat) (hN : X.N.Nodup) (ho : PIp X op (ipI f)) (he : PD X cm W e fd) (hi : X.N[i]? = some x := by rfl) (hx : Loc X.env.scope x := by first | exact Or.inl rfl | exact Or.inr rfl)
    (hf : X.fn x = true ∨ X.env.scope.names.lookup x = some .local := by first | exact .inl rfl | exact .inr rfl | assumption) : PSd X cm W (.AugAssign (.Name x pos') op e pos) (augS i f fd) := by
  obtain ⟨t, p, j⟩ := he
  refine ⟨_, ps_aug hN hi hx p ho hf, fun G F H σ ρ r ρ' er hg D hD => ?_⟩
  unfold augS at hg
  cases q : ρ[i]? with
  | none => rw [q] at hg; cases hg
  | some s =>
    rw [q] at hg
    match s, q, hg with
    | .val (.int a), q, hg =>
      obtain ⟨v, e1, rv⟩ := er.slot i _ q
      cases rv
      refine ⟨.int a, e1, ?_⟩
      refine jst_exp (t2 := fun y D σ H => ipI f (.int a) y H fun z H2 => D.nx (σ.set i (some z)) H2) j (fun d y G F H σ ρ r ρ' er hv hk D hD => ?_) G F H σ ρ r ρ' er hg D hD
      cases d with
      | int b =>
        cases hv
        have hk : setV i (.int (f a b)) ρ = some (r, ρ') := hk
        unfold setV at hk
        by_cases c : i < ρ.length
        · rw [if_pos c] at hk; cases hk
          exact ⟨a, b, rfl, rfl, hD F H _ (er.setV c (.int _)) (Ext.refl F)⟩
        · rw [if_neg c] at hk; cases hk
      | _ => cases hk
/-! ### walks -/
/-- what J yields from F1 on -/
def WalkD (K : PySem.W.Frag) (cm : Str → Option Addr) (J : It) (F1 : Hp) (ds : List D) : Prop :=
  ∀ (i : Nat) (F' H' : Hp), Ext F1 F' → Same F' H' → (∀ d, ds[i]? = some d → J.go i H' ∧ ∀ x H'', J.yld i H' x H'' → ∃ F'', Grow F' H' F'' H'' ∧ Rp K cm F'' d x) ∧ (ds.length ≤ i → J.stop i H')
def rW (K : PySem.W.Frag) (cm : Str → Option Addr) : Rel (List D) It := fun _ F _ _ _ ds J => WalkD K cm J F ds
def PId (X : Cx) (cm : Str → Option Addr) (W : WX) (tg iter : Expr) (f : M (List D)) : Prop := ∃ wi : TI, PI X tg iter wi ∧ Jd X cm W (rW X.K cm) wi f
def walkL (f : M D) : M (List D) := M.bind f fun d => M.lift (lisOf d)
def walkT (f : M D) : M (List D) := M.bind f fun d => M.lift (tupOf d)
def rngI (lo : Int) (n : Nat) : List D := (List.range n).map fun (i : Nat) => D.int (lo + i)
def walkR1 (f : M (List Op)) : M (List D) := M.bind f fun os ρ => (resN ρ os).bind fun ds => match ds with
  | [.int j] => if -(2 ^ 62) ≤ j ∧ j < 2 ^ 62 then some (.ok (rngI 0 j.toNat), ρ) else none
  | _ => none
def walkR2 (f : M (List Op)) : M (List D) := M.bind f fun os ρ => (resN ρ os).bind fun ds => match ds with
  | [.int i, .int j] => if -(2 ^ 62) ≤ i ∧ i < 2 ^ 62 ∧ -(2 ^ 62) ≤ j ∧ j < 2 ^ 62 then some (.ok (rngI i (j - i).toNat), ρ) else none
  | _ => none
def signs (x : Str) : List D := x.cps.toList.map fun c => D.str ⟨#[c]⟩
def walkS (f : M D) : M (List D) := M.bind f fun d => M.lift ((strOf d).map signs)
theorem rngI_get {lo : Int} {n i : Nat} : (rngI lo n)[i]? = if i < n then some (.int (lo + i)) else none := by
  unfold rngI
  rw [List.getElem?_map]
  by_cases c : i < n
  · rw [List.getElem?_range c, if_pos c]; rfl
  · rw [List.getElem?_eq_none (by rw [List.length_range]; omega), if_neg c]; rfl
theorem walk_rng {K : PySem.W.Frag} {F : Hp} (lo : Int) (n : Nat) : WalkD K cm (Itr lo n) F (rngI lo n) := by
  intro i F' H' x s
  constructor
  · intro d hd
    rw [rngI_get] at hd
    by_cases c : i < n
    · rw [if_pos c] at hd; cases hd
      refine ⟨c, fun y H'' hy => ?_⟩
      obtain ⟨rfl, rfl⟩ := hy
      exact ⟨F', Grow.refl s, .int _⟩
    · rw [if_neg c] at hd; cases hd
  · intro h
    unfold rngI at h
    rw [List.length_map, List.length_range] at h
    exact h
variable {tg e : Expr} {es : List Expr} {f : M D} {fo : M (List Op)}
theorem pid_list (h : PD X cm W e f) : PId X cm W tg e (walkL f) := by
  obtain ⟨t, p, j⟩ := h
  refine ⟨_, pi_list p, ?_⟩
  unfold walkL
  refine JdP.bindS (rel1 := rV X.K cm) (t1 := t) (t2 := fun x σ H1 R => ∃ a, x = V.ref a ∧ (∃ xs, SqL X.K H1 a xs) ∧ R (Itl X.K a) H1) stable_true j fun d x => ?_
  intro G F H σ ρ r ρ' er hp hf Q hQ
  obtain ⟨_, hr⟩ := hp
  have hr : Rp X.K cm F d x := hr
  unfold M.lift at hf
  cases q : lisOf d with
  | none => rw [q] at hf; cases hf
  | some ds =>
    rw [q] at hf
    cases hf
    have key : ∃ a xs, x = .ref a ∧ SqL X.K F a xs ∧ Rps X.K cm F ds xs := by
      cases hr with
      | lst h r => cases q; exact ⟨_, _, rfl, SqL.of h, r⟩
      | frl h r => cases q; exact ⟨_, _, rfl, h, r⟩
      | _ => cases q
    obtain ⟨a, xs, rfl, h1, r1⟩ := key
    refine ⟨a, rfl, ⟨xs, sqL_ext (Ext.of er.sub) h1⟩, hQ F H er (Ext.refl F) (Itl X.K a) fun i F' H' x s => ?_⟩
    have h2 : SqL X.K H' a xs := sqL_ext (x.trans (Ext.of s)) h1
    constructor
    · intro d hd
      obtain ⟨v, hv, rv⟩ := r1.getD hd
      refine ⟨⟨xs, v, h2, hv⟩, fun y H'' hy => ?_⟩
      obtain ⟨rfl, hy⟩ := hy
      have : y = v := Option.some.inj ((hy xs h2).symm.trans hv)
      subst this
      exact ⟨F', Grow.refl s, rv.ext x⟩
    · intro hl
      exact ⟨xs, h2, by rw [← r1.length]; exact hl⟩
theorem pid_tup (h : PD X cm W e f) : PId X cm W tg e (walkT f) := by
  obtain ⟨t, p, j⟩ := h
  refine ⟨_, pi_tup p, ?_⟩
  unfold walkT
  refine JdP.bindS (rel1 := rV X.K cm) (t1 := t) (t2 := fun x σ H1 R => ∃ a, x = V.ref a ∧ (∃ xs, SqT X.K H1 a xs) ∧ R (Itt X.K a) H1) stable_true j fun d x => ?_
  intro G F H σ ρ r ρ' er hp hf Q hQ
  obtain ⟨_, hr⟩ := hp
  have hr : Rp X.K cm F d x := hr
  unfold M.lift at hf
  cases q : tupOf d with
  | none => rw [q] at hf; cases hf
  | some ds =>
    rw [q] at hf
    cases hf
    have key : ∃ a xs, x = .ref a ∧ SqT X.K F a xs ∧ Rps X.K cm F ds xs := by
      cases hr with
      | tup h r => cases q; exact ⟨_, _, rfl, SqT.of h, r⟩
      | frt h r => cases q; exact ⟨_, _, rfl, h, r⟩
      | _ => cases q
    obtain ⟨a, xs, rfl, h1, r1⟩ := key
    refine ⟨a, rfl, ⟨xs, sqT_ext (Ext.of er.sub) h1⟩, hQ F H er (Ext.refl F) (Itt X.K a) fun i F' H' x s => ?_⟩
    have h2 : SqT X.K H' a xs := sqT_ext (x.trans (Ext.of s)) h1
    constructor
    · intro d hd
      obtain ⟨v, hv, rv⟩ := r1.getD hd
      refine ⟨⟨xs, v, h2, hv⟩, fun y H'' hy => ?_⟩
      obtain ⟨rfl, hy⟩ := hy
      have : y = v := Option.some.inj ((hy xs h2).symm.trans hv)
      subst this
      exact ⟨F', Grow.refl s, rv.ext x⟩
    · intro hl
      exact ⟨xs, h2, by rw [← r1.length]; exact hl⟩
theorem pid_str (h : PD X cm W e f) : PId X cm W tg e (walkS f) := by
  obtain ⟨t, p, j⟩ := h
  refine ⟨_, pi_str p, ?_⟩
  unfold walkS
  refine JdP.bindS (rel1 := rV X.K cm) (t1 := t) (t2 := fun v σ H1 R => ∃ x, v = V.str x ∧ R (Its x) H1) stable_true j fun d x => ?_
  intro G F H σ ρ r ρ' er hp hf Q hQ
  obtain ⟨_, hr⟩ := hp
  have hr : Rp X.K cm F d x := hr
  unfold M.lift at hf
  cases d with
  | str z =>
    cases hr
    cases hf
    refine ⟨z, rfl, hQ F H er (Ext.refl F) (Its z) fun i F' H' x s => ?_⟩
    constructor
    · intro d hd
      unfold signs at hd
      rw [List.getElem?_map] at hd
      cases q : z.cps.toList[i]? with
      | none => rw [q] at hd; cases hd
      | some c =>
        rw [q] at hd; cases hd
        have q' : z.cps[i]? = some c := by rw [← Array.getElem?_toList]; exact q
        refine ⟨(Array.getElem?_eq_some_iff.mp q').1, fun y H'' hy => ?_⟩
        obtain ⟨rfl, c', h1, rfl⟩ := hy
        rw [q'] at h1; cases h1
        exact ⟨F', Grow.refl s, .str _⟩
    · intro hl
      unfold signs at hl
      rw [List.length_map, Array.length_toList] at hl
      exact hl
  | _ => cases hf
theorem pid_range1 {p : Pos} {a : Expr} (hg : Gl X "range") (hm : X.mg "range" = none) (ha : PAs X cm W [a] fo) (hs : starEach [a] X.env = [(false, eval a X.env)] := by rfl) : PId X cm W tg (.Call (.Name "range" p) [a] [] pos) (walkR1 fo) := by
  obtain ⟨t, pa, j⟩ := ha
  refine ⟨_, pi_range1 hg hm pa hs, ?_⟩
  unfold walkR1
  refine JdP.bindS (rel1 := rOs X.K cm) (t1 := t) (t2 := fun vs σ H1 R => ∃ j : Int, vs = [V.int j] ∧ -(2 ^ 62) ≤ j ∧ j < 2 ^ 62 ∧ R (Itr 0 j.toNat) H1) stable_true j fun os vs => ?_
  intro G F H σ ρ r ρ' er hp hf Q hQ
  obtain ⟨_, hv⟩ := hp
  cases q : resN ρ os with
  | none => have hf : ((resN ρ os).bind _) = some (r, ρ') := hf; rw [q] at hf; cases hf
  | some ds =>
    have hf : ((resN ρ os).bind fun ds => match ds with
      | [D.int j] => if -(2 ^ 62) ≤ j ∧ j < 2 ^ 62 then some (R.ok (rngI 0 j.toNat), ρ) else none
      | _ => none) = some (r, ρ') := hf
    rw [q] at hf
    have hw := resN_rv er hv q
    match ds, hw, hf with
    | [.int n], .cons h .nil, hf =>
      have hf : (if -(2 ^ 62) ≤ n ∧ n < 2 ^ 62 then some (R.ok (rngI 0 n.toNat), ρ) else none) = some (r, ρ') := hf
      by_cases c : -(2 ^ 62) ≤ n ∧ n < 2 ^ 62
      · rw [if_pos c] at hf; cases hf
        exact ⟨n, by rw [h.int], c.1, c.2, hQ F H er (Ext.refl F) _ (walk_rng _ _)⟩
      · rw [if_neg c] at hf; cases hf
theorem pid_range2 {p : Pos} {a b : Expr} (hg : Gl X "range") (hm : X.mg "range" = none) (ha : PAs X cm W [a, b] fo) (hs : starEach [a, b] X.env = [(false, eval a X.env), (false, eval b X.env)] := by rfl) (hs2 : starEach [b] X.env = [(false, eval b X.env)] := by rfl) : PId X cm W tg (.Call (.Name "range" p) [a, b] [] pos) (walkR2 fo) := by
  obtain ⟨t, pa, j⟩ := ha
  refine ⟨_, pi_range2 hg hm pa hs hs2, ?_⟩
  unfold walkR2
  refine JdP.bindS (rel1 := rOs X.K cm) (t1 := t) (t2 := fun vs σ H1 R => ∃ i j : Int, vs = [V.int i, V.int j] ∧ (-(2 ^ 62) ≤ i ∧ i < 2 ^ 62 ∧ -(2 ^ 62) ≤ j ∧ j < 2 ^ 62) ∧ R (Itr i (j - i).toNat) H1) stable_true j fun os vs => ?_
  intro G F H σ ρ r ρ' er hp hf Q hQ
  obtain ⟨_, hv⟩ := hp
  cases q : resN ρ os with
  | none => have hf : ((resN ρ os).bind _) = some (r, ρ') := hf; rw [q] at hf; cases hf
  | some ds =>
    have hf : ((resN ρ os).bind fun ds => match ds with
      | [D.int i, D.int j] => if -(2 ^ 62) ≤ i ∧ i < 2 ^ 62 ∧ -(2 ^ 62) ≤ j ∧ j < 2 ^ 62 then some (R.ok (rngI i (j - i).toNat), ρ) else none
      | _ => none) = some (r, ρ') := hf
    rw [q] at hf
    have hw := resN_rv er hv q
    match ds, hw, hf with
    | [.int m, .int n], .cons h (.cons h2 .nil), hf =>
      have hf : (if -(2 ^ 62) ≤ m ∧ m < 2 ^ 62 ∧ -(2 ^ 62) ≤ n ∧ n < 2 ^ 62 then some (R.ok (rngI m (n - m).toNat), ρ) else none) = some (r, ρ') := hf
      by_cases c : -(2 ^ 62) ≤ m ∧ m < 2 ^ 62 ∧ -(2 ^ 62) ≤ n ∧ n < 2 ^ 62
      · rw [if_pos c] at hf; cases hf
        exact ⟨m, n, by rw [h.int, h2.int], c, hQ F H er (Ext.refl F) _ (walk_rng _ _)⟩
      · rw [if_neg c] at hf; cases hf
/-! ### for, while -/
def loopF (gs : GS) (b : SM) : List D → SM
  | [] => skipS
  | d :: ds => fun ρ => (gs d ρ).bind fun ρ1 => match b ρ1 with
    | some (.nx, ρ2) => loopF gs b ds ρ2
    | some (.cnt, ρ2) => loopF gs b ds ρ2
    | some (.brk, ρ2) => some (.nx, ρ2)
    | x => x
theorem psd_for {body : List Stmt} {fi : M (List D)} {ts : List Nat} {gs : GS} {b : SM} (hp : PassesOwn (model X.prog X.w) X.A X.env X.xe) (hc : X.calm = true) (hi : PId X cm W tg e fi) (hg : PGd X cm tg ts gs) (hb : PSsd X cm W body b)
    (hs : ∀ x, foldedSetIterable e X.env x = pure x := by intro _; rfl) : PSd X cm W (.For tg e body [] pos) (exps fi fun ds => loopF gs b ds) := by
  obtain ⟨wi, pi, ji⟩ := hi
  obtain ⟨g, pg, jg⟩ := hg
  obtain ⟨tb, pb, jb⟩ := hb
  refine ⟨_, ps_for hp hc pi pg pb hs, ?_⟩
  refine jst_exp (t2 := fun J D σ H1 => ∃ W : Nat → Nat → St → Hp → Prop, (∃ m, W 0 m σ H1) ∧ ∀ i m σ H, W i m σ H →
    (J.stop i H ∧ D.nx σ H) ∨ (J.go i H ∧ ∃ N : St → Hp → Prop, (∀ σ' H', N σ' H' → ∃ m', m' < m ∧ W (i + 1) m' σ' H') ∧ ∀ x H', J.yld i H x H' → g x σ H' fun σ2 H2 => tb { D with nx := N, ct := N, bk := D.nx } σ2 H2)) ji fun ds J G F1 H1 σ1 ρ1 r ρ' er hw hk D hD => ?_
  have hw : WalkD X.K cm J F1 ds := hw
  refine ⟨fun i m σ H => m = ds.length - i ∧ i ≤ ds.length ∧ ∃ F ρ, ER X.K cm G F H σ ρ ∧ Ext F1 F ∧ loopF gs b (ds.drop i) ρ = some (r, ρ'), ⟨ds.length, by simp, Nat.zero_le _, F1, ρ1, er, Ext.refl F1, hk⟩, ?_⟩
  rintro i m σ H ⟨rfl, hi, F, ρ, er, x, hk⟩
  obtain ⟨w1, w2⟩ := hw i F H x er.sub
  by_cases hlt : i < ds.length
  · have hd : ds[i]? = some ds[i] := List.getElem?_eq_getElem hlt
    obtain ⟨go, yl⟩ := w1 _ hd
    rw [List.drop_eq_getElem_cons hlt] at hk
    have hk : ((gs ds[i] ρ).bind fun ρ1 => match b ρ1 with
      | some (SR.nx, ρ2) => loopF gs b (ds.drop (i + 1)) ρ2
      | some (SR.cnt, ρ2) => loopF gs b (ds.drop (i + 1)) ρ2
      | some (SR.brk, ρ2) => some (SR.nx, ρ2)
      | x => x) = some (r, ρ') := hk
    refine .inr ⟨go, fun σ' H' => ∃ F' ρ'', ER X.K cm G F' H' σ' ρ'' ∧ Ext F1 F' ∧ loopF gs b (ds.drop (i + 1)) ρ'' = some (r, ρ'), fun σ' H' h => ⟨ds.length - (i + 1), by omega, rfl, by omega, h⟩, fun v H' hy => ?_⟩
    obtain ⟨F', gr, rv⟩ := yl v H' hy
    have er' := er.grow gr
    have x' : Ext F1 F' := x.trans (Ext.of gr.f)
    cases q : gs ds[i] ρ with
    | none => rw [q] at hk; cases hk
    | some ρ2 =>
      rw [q] at hk
      have hk : (match b ρ2 with
        | some (SR.nx, ρ2) => loopF gs b (ds.drop (i + 1)) ρ2
        | some (SR.cnt, ρ2) => loopF gs b (ds.drop (i + 1)) ρ2
        | some (SR.brk, ρ2) => some (SR.nx, ρ2)
        | x => x) = some (r, ρ') := hk
      refine jg G F' H' σ ρ ρ2 ds[i] v er' rv q _ fun σ2 er2 _ _ => ?_
      cases q2 : b ρ2 with
      | none => rw [q2] at hk; cases hk
      | some pr =>
        obtain ⟨r3, ρ3⟩ := pr
        rw [q2] at hk
        refine jb G F' H' σ2 ρ2 r3 ρ3 er2 q2 _ fun F3 H3 σ3 er3 x3 => ?_
        cases r3 with
        | nx => exact ⟨F3, ρ3, er3, x'.trans x3, hk⟩
        | cnt => exact ⟨F3, ρ3, er3, x'.trans x3, hk⟩
        | brk => cases hk; exact hD F3 H3 σ3 er3 (x'.trans x3)
        | exc z => cases hk; exact hD F3 H3 σ3 er3 (x'.trans x3)
        | ret s =>
          cases hk
          have := hD F3 H3 σ3 er3 (x'.trans x3)
          cases s <;> exact this
  · have e0 : i = ds.length := by omega
    subst e0
    rw [List.drop_length] at hk
    cases hk
    exact .inl ⟨w2 (Nat.le_refl _), hD F H σ er x⟩
def loopW (c : M Bool) (b : SM) : Nat → SM
  | 0 => fun _ => none
  | n + 1 => fun ρ => match c ρ with
    | none => none
    | some (.exc x, ρ1) => some (.exc x, ρ1)
    | some (.ok false, ρ1) => some (.nx, ρ1)
    | some (.ok true, ρ1) => match b ρ1 with
      | some (.nx, ρ2) => loopW c b n ρ2
      | some (.cnt, ρ2) => loopW c b n ρ2
      | some (.brk, ρ2) => some (.nx, ρ2)
      | x => x
theorem psd_while {c : Expr} {body : List Stmt} {fc : M Bool} {b : SM} (μ : Env → Nat) (hp : PassesOwn (model X.prog X.w) X.A X.env X.xe) (hc : PB X cm W c fc) (hb : PSsd X cm W body b) : PSd X cm W (.While c body [] pos) (fun ρ => loopW fc b (μ ρ) ρ) := by
  obtain ⟨tc, pc, jc⟩ := hc
  obtain ⟨tb, pb, jb⟩ := hb
  refine ⟨_, ps_while hp pc pb, fun G F0 H0 σ0 ρ0 r ρ' er0 hg D hD => ?_⟩
  refine ⟨fun m σ H => ∃ F ρ, ER X.K cm G F H σ ρ ∧ Ext F0 F ∧ loopW fc b m ρ = some (r, ρ'), ⟨μ ρ0, F0, ρ0, er0, Ext.refl F0, hg⟩, ?_⟩
  rintro m σ H ⟨F, ρ, er, x, hk⟩
  cases m with
  | zero => cases hk
  | succ n =>
    have hk : (match fc ρ with
      | none => none
      | some (R.exc x, ρ1) => some (SR.exc x, ρ1)
      | some (R.ok false, ρ1) => some (SR.nx, ρ1)
      | some (R.ok true, ρ1) => match b ρ1 with
        | some (SR.nx, ρ2) => loopW fc b n ρ2
        | some (SR.cnt, ρ2) => loopW fc b n ρ2
        | some (SR.brk, ρ2) => some (SR.nx, ρ2)
        | x => x) = some (r, ρ') := hk
    cases q : fc ρ with
    | none => rw [q] at hk; cases hk
    | some pr =>
      obtain ⟨rc, ρ1⟩ := pr
      rw [q] at hk
      refine jc G F H σ ρ rc ρ1 er trivial q _ fun F1 H1 er1 x1 => ?_
      cases rc with
      | exc z => cases hk; exact hD F1 H1 σ er1 (x.trans x1)
      | ok k =>
        rintro k' rfl
        cases k with
        | false => cases hk; exact hD F1 H1 σ er1 (x.trans x1)
        | true =>
          have hk : (match b ρ1 with
            | some (SR.nx, ρ2) => loopW fc b n ρ2
            | some (SR.cnt, ρ2) => loopW fc b n ρ2
            | some (SR.brk, ρ2) => some (SR.nx, ρ2)
            | x => x) = some (r, ρ') := hk
          refine ⟨fun σ' H' => ∃ F' ρ'', ER X.K cm G F' H' σ' ρ'' ∧ Ext F0 F' ∧ loopW fc b n ρ'' = some (r, ρ'), fun σ' H' h => ⟨n, Nat.lt_succ_self n, h⟩, ?_⟩
          cases q2 : b ρ1 with
          | none => rw [q2] at hk; cases hk
          | some pr =>
            obtain ⟨r3, ρ3⟩ := pr
            rw [q2] at hk
            refine jb G F1 H1 σ ρ1 r3 ρ3 er1 q2 _ fun F3 H3 σ3 er3 x3 => ?_
            have x' := x.trans (x1.trans x3)
            cases r3 with
            | nx => exact ⟨F3, ρ3, er3, x', hk⟩
            | cnt => exact ⟨F3, ρ3, er3, x', hk⟩
            | brk => cases hk; exact hD F3 H3 σ3 er3 x'
            | exc z => cases hk; exact hD F3 H3 σ3 er3 x'
            | ret s =>
              cases hk
              have := hD F3 H3 σ3 er3 x'
              cases s <;> exact this
end
end Pd

/-! Pd7: list comprehensions. -/
namespace Pd
open PySem PySem.Spec L2

/-! ### a reading by what it does -/
def canE (K : PySem.W.Frag) (cm : Str → Option Addr) (W : WX) {α β : Type} (rel : Rel α β) (f : M α) : St → Hp → (β → Hp → Prop) → Prop :=
  fun σ H Q => ∃ (G : Gd) (F : Hp) (ρ : Env) (r : R α) (ρ' : Env), ER K cm G F H σ ρ ∧ f ρ = some (r, ρ') ∧ Post K cm G W σ F rel Q r ρ'
def canG (K : PySem.W.Frag) (cm : Str → Option Addr) (ts : List Nat) (gs : GS) : TG :=
  fun v σ H Q => ∃ (G : Gd) (F : Hp) (ρ ρ' : Env) (d : D), ER K cm G F H σ ρ ∧ Rp K cm F d v ∧ gs d ρ = some ρ' ∧ ∀ σ', ER K cm G F H σ' ρ' → σ'.length = σ.length → (∀ j, j ∉ ts → σ'[j]? = σ[j]?) → Q σ' H
section
variable {X : Cx} {cm : Str → Option Addr} {W : WX}
theorem PD.can {e : Expr} {f : M D} (h : PD X cm W e f) : PE X e (canE X.K cm W (rV X.K cm) f) := by
  obtain ⟨t, p, j⟩ := h
  exact ⟨fun pins s σ H Q I h => p.run pins s σ H Q I (let ⟨G, F, ρ, r, ρ', er, hf, hQ⟩ := h; j G F H σ ρ r ρ' er trivial hf Q hQ)⟩
theorem PGd.can {e : Expr} {ts : List Nat} {gs : GS} (h : PGd X cm e ts gs) : PG X e (canG X.K cm ts gs) := by
  obtain ⟨t, p, j⟩ := h
  exact ⟨fun pins s σ H v u Q I r h => p.run pins s σ H v u Q I r (let ⟨G, F, ρ, ρ', d, er, hv, hg, hQ⟩ := h; j G F H σ ρ ρ' d v er hv hg Q hQ)⟩
def PTsd (X : Cx) (cm : Str → Option Addr) (W : WX) (ifs : List Expr) (f : M Bool) : Prop := ∃ t : TT, PTs X ifs t ∧ Jd X cm W rB t f
theorem PTsd.can {ifs : List Expr} {f : M Bool} (h : PTsd X cm W ifs f) : PTs X ifs (canE X.K cm W rB f) := by
  obtain ⟨t, p, j⟩ := h
  exact ⟨fun pins s σ H Q I h => p.run pins s σ H Q I (let ⟨G, F, ρ, r, ρ', er, hf, hQ⟩ := h; j G F H σ ρ r ρ' er trivial hf Q hQ)⟩
theorem ptsd_nil : PTsd X cm W [] (M.ret true) := ⟨_, pts_nil, jd_retB⟩
theorem ptsd_one {c : Expr} {f : M Bool} (h : PB X cm W c f) : PTsd X cm W [c] f := by
  obtain ⟨t, p, j⟩ := h
  exact ⟨_, pts_one p, j⟩
end
/-! ### slots of a comprehension's own names -/
def wipeE (ρ : Env) : List Nat → Env
  | [] => ρ
  | v :: vs => (wipeE ρ vs).set v .no
def restE (ρ0 ρ : Env) : List Nat → Env
  | [] => ρ
  | v :: vs => (restE ρ0 ρ vs).set v ((ρ0[v]?).getD .no)
def valsAt (ρ : Env) (vs : List Nat) : Bool := vs.all fun i => match ρ[i]? with
  | some (.val _) => true
  | some .no => true
  | _ => false
theorem wipeE_length (ρ : Env) : ∀ vs, (wipeE ρ vs).length = ρ.length
  | [] => rfl
  | v :: vs => by unfold wipeE; rw [List.length_set, wipeE_length ρ vs]
theorem restE_length (ρ0 ρ : Env) : ∀ vs, (restE ρ0 ρ vs).length = ρ.length
  | [] => rfl
  | v :: vs => by unfold restE; rw [List.length_set, restE_length ρ0 ρ vs]
theorem wipeE_out {ρ : Env} {i : Nat} : ∀ {vs : List Nat}, i ∉ vs → (wipeE ρ vs)[i]? = ρ[i]?
  | [], _ => rfl
  | v :: vs, h => by
    have h1 : v ≠ i := fun e => h (by rw [e]; exact List.mem_cons_self)
    unfold wipeE
    rw [List.getElem?_set_ne h1]
    exact wipeE_out fun z => h (List.mem_cons_of_mem _ z)
theorem wipeE_in {ρ : Env} {i : Nat} {s : Sl} : ∀ {vs : List Nat}, i ∈ vs → (wipeE ρ vs)[i]? = some s → s = .no
  | v :: vs, h, e => by
    unfold wipeE at e
    by_cases c : v = i
    · subst c
      by_cases hl : v < (wipeE ρ vs).length
      · rw [set_self hl] at e; cases e; rfl
      · rw [List.getElem?_eq_none (by rw [List.length_set]; omega)] at e; cases e
    · rw [List.getElem?_set_ne c] at e
      exact wipeE_in ((List.mem_cons.mp h).resolve_left fun z => c z.symm) e
theorem restE_out {ρ0 ρ : Env} {i : Nat} : ∀ {vs : List Nat}, i ∉ vs → (restE ρ0 ρ vs)[i]? = ρ[i]?
  | [], _ => rfl
  | v :: vs, h => by
    have h1 : v ≠ i := fun e => h (by rw [e]; exact List.mem_cons_self)
    unfold restE
    rw [List.getElem?_set_ne h1]
    exact restE_out fun z => h (List.mem_cons_of_mem _ z)
theorem restE_in {ρ0 ρ : Env} {i : Nat} {s : Sl} : ∀ {vs : List Nat}, i ∈ vs → (restE ρ0 ρ vs)[i]? = some s → s = (ρ0[i]?).getD .no
  | v :: vs, h, e => by
    unfold restE at e
    by_cases c : v = i
    · subst c
      by_cases hl : v < (restE ρ0 ρ vs).length
      · rw [set_self hl] at e; cases e; rfl
      · rw [List.getElem?_eq_none (by rw [List.length_set]; omega)] at e; cases e
    · rw [List.getElem?_set_ne c] at e
      exact restE_in ((List.mem_cons.mp h).resolve_left fun z => c z.symm) e
theorem wipe_in {σ : St} {i : Nat} : ∀ {vs : List Nat}, i ∈ vs → i < σ.length → (wipe σ vs)[i]? = some none
  | v :: vs, h, hl => by
    unfold wipe
    by_cases c : v = i
    · subst c
      rw [set_self (by rw [wipe_length]; exact hl)]
    · rw [List.getElem?_set_ne c]
      exact wipe_in ((List.mem_cons.mp h).resolve_left fun z => c z.symm) hl
theorem wipe_agree {σ σ2 : St} {vs : List Nat} (hl : σ2.length = σ.length) (h : ∀ j, j ∉ vs → σ2[j]? = σ[j]?) : wipe σ2 vs = wipe σ vs := by
  apply List.ext_getElem?
  intro i
  by_cases c : i ∈ vs
  · by_cases l : i < σ.length
    · rw [wipe_in c l, wipe_in c (by rw [hl]; exact l)]
    · rw [List.getElem?_eq_none (by rw [wipe_length, hl]; omega), List.getElem?_eq_none (by rw [wipe_length]; omega)]
  · rw [wipe_out c, wipe_out c]; exact h i c
theorem wipe_idem (σ : St) (vs : List Nat) : wipe (wipe σ vs) vs = wipe σ vs := wipe_agree (wipe_length σ vs) fun j hj => wipe_out hj
section
variable {K : PySem.W.Frag} {cm : Str → Option Addr} {G : Gd} {F F1 H : Hp} {σ : St} {ρ ρ0 : Env} {vs : List Nat}
theorem SlR.at {σ' : St} {i : Nat} {s : Sl} (h : SlR K cm G F H σ i s) (e : σ'[i]? = σ[i]?) : SlR K cm G F H σ' i s := by
  cases s with
  | no => trivial
  | val d => obtain ⟨v, h1, r⟩ := h; exact ⟨v, by rw [e]; exact h1, r⟩
  | own d => obtain ⟨v, h1, r⟩ := h; exact ⟨v, by rw [e]; exact h1, r⟩
  | par d => obtain ⟨v, h1, r⟩ := h; exact ⟨v, by rw [e]; exact h1, r⟩
theorem ER.wipe (er : ER K cm G F H σ ρ) (vs : List Nat) : ER K cm G F H (wipe σ vs) (wipeE ρ vs) where
  sub := er.sub
  f0 := er.f0
  h0 := er.h0
  live := er.live
  nf := er.nf
  slot := fun i s e => by
    by_cases c : i ∈ vs
    · rw [wipeE_in c e]; trivial
    · rw [wipeE_out c] at e
      exact (er.slot i s e).at (wipe_out c)
  inj := fun i j s t ei ej os ot eq => by
    by_cases ci : i ∈ vs
    · rw [wipeE_in ci ei] at os; cases os
    · by_cases cj : j ∈ vs
      · rw [wipeE_in cj ej] at ot; cases ot
      · rw [wipeE_out ci] at ei
        rw [wipeE_out cj] at ej
        rw [wipe_out ci, wipe_out cj] at eq
        exact er.inj i j s t ei ej os ot eq
  len := by rw [wipeE_length, wipe_length]; exact er.len
/-- behind a comprehension the slots of its names are as they were -/
theorem ER.rest {H1 : Hp} (er0 : ER K cm G F1 H1 σ ρ0) (x : Ext F1 F) (hv : valsAt ρ0 vs = true) (er : ER K cm G F H (L2.wipe σ vs) (wipeE ρ vs)) : ER K cm G F H σ (restE ρ0 ρ vs) where
  sub := er.sub
  f0 := er.f0
  h0 := er.h0
  live := er.live
  nf := er.nf
  slot := fun i s e => by
    by_cases c : i ∈ vs
    · have es := restE_in c e
      have hh := List.all_eq_true.mp hv i c
      cases q : ρ0[i]? with
      | none => rw [q] at es; rw [es]; trivial
      | some s0 =>
        rw [q] at es hh
        have es : s = s0 := es
        subst es
        have hs := er0.slot i s q
        cases s with
        | no => trivial
        | val d => obtain ⟨v, h1, r⟩ := hs; exact ⟨v, h1, r.ext x⟩
        | own d => cases hh
        | par d => cases hh
    · rw [restE_out c] at e
      exact (er.slot i s (by rw [wipeE_out c]; exact e)).at (wipe_out c).symm
  inj := fun i j s t ei ej os ot eq => by
    have key : ∀ k u, (restE ρ0 ρ vs)[k]? = some u → owns u = true → k ∉ vs := fun k u e o c => by
      have es := restE_in c e
      have hh := List.all_eq_true.mp hv k c
      cases q : ρ0[k]? with
      | none => rw [q] at es; rw [es] at o; cases o
      | some s0 =>
        rw [q] at es hh
        have es : u = s0 := es
        subst es
        cases u with
        | no => cases o
        | val _ => cases o
        | own _ => cases hh
        | par _ => cases hh
    have ci := key i s ei os
    have cj := key j t ej ot
    rw [restE_out ci] at ei
    rw [restE_out cj] at ej
    exact er.inj i j s t (by rw [wipeE_out ci]; exact ei) (by rw [wipeE_out cj]; exact ej) os ot (by rw [wipe_out ci, wipe_out cj]; exact eq)
  len := by
    have := er.len
    rw [wipeE_length, wipe_length] at this
    rw [restE_length]; exact this
end
def compF (gs : GS) (ft : M Bool) (fe : M D) (vs : List Nat) : List D → List D → M (List D)
  | [], acc => M.ret acc
  | d :: ds, acc => fun ρ => (gs d (wipeE ρ vs)).bind fun ρ1 => match ft ρ1 with
    | some (.ok true, ρ2) => match fe ρ2 with
      | some (.ok x, ρ3) => if acc.length < sizeLine then compF gs ft fe vs ds (acc ++ [x]) ρ3 else none
      | _ => none
    | some (.ok false, ρ2) => compF gs ft fe vs ds acc ρ2
    | _ => none
def compK (gs : GS) (ft : M Bool) (fe : M D) (vs : List Nat) (ds : List D) : M D := fun ρ1 => if valsAt ρ1 vs = true then match compF gs ft fe vs ds [] ρ1 with
  | some (.ok xs, ρ2) => some (.ok (.lst xs), restE ρ1 ρ2 vs)
  | _ => none else none
def compD (fi : M (List D)) (gs : GS) (ft : M Bool) (fe : M D) (vs : List Nat) : M D := M.bind fi fun ds => compK gs ft fe vs ds
abbrev W0 : WX := fun _ _ _ _ => False
section
variable {X : Cx} {cm : Str → Option Addr} {W : WX} {pos : Pos} {elt tg iter : Expr} {ifs : List Expr} {scope : Scope} {own : List (Str × Nat)} {fi : M (List D)} {gs : GS} {ft : M Bool} {fe : M D} {ts : List Nat}
theorem jd_lc {wi : TI} (vs : List Nat) (hts : ∀ j ∈ ts, j ∈ vs) (ji : Jd X cm W (rW X.K cm) wi fi) :
    Jd X cm W (rF X.K cm) (tLc wi (canG X.K cm ts gs) (canE X.K cm W0 rB ft) (canE X.K cm W0 (rV X.K cm) fe) vs) (compD fi gs ft fe vs) := by
  unfold compD
  refine JdP.bindS (rel1 := rW X.K cm) (t1 := wi) (t2 := fun J σ H1 Q => ∀ D, H1 D = none → ∃ W : Nat → Nat → Hp → Prop, (∃ m, W 0 m (upd H1 D (.lst []))) ∧ ∀ i m H, W i m H →
    (J.stop i H ∧ Q (V.ref D) H) ∨ (J.go i H ∧ ∃ Nx : Hp → Prop, (∀ H', Nx H' → ∃ m', m' < m ∧ W (i + 1) m' H') ∧ ∀ x H', J.yld i H x H' → (canG X.K cm ts gs) x (wipe σ vs) H' fun σ2 H2 => wipe σ2 vs = wipe σ vs ∧ (canE X.K cm W0 rB ft) σ2 H2 fun b H3 =>
      if b = true then (canE X.K cm W0 (rV X.K cm) fe) σ2 H3 fun y H4 => ∃ acc, H4 D = some (.lst acc) ∧ acc.length < sizeLine ∧ Nx (upd H4 D (.lst (acc ++ [y]))) else Nx H3)) stable_true ji fun ds J => ?_
  intro G F1 H1 σ ρ1 r ρ' er1 hp hf Q hQ Dl hD
  obtain ⟨_, hw⟩ := hp
  have hw : WalkD X.K cm J F1 ds := hw
  unfold compK at hf
  by_cases hv : valsAt ρ1 vs = true
  · rw [if_pos hv] at hf
    cases q : compF gs ft fe vs ds [] ρ1 with
    | none => rw [q] at hf; cases hf
    | some pr =>
      obtain ⟨ra, ρe⟩ := pr
      rw [q] at hf
      cases ra with
      | exc x => cases hf
      | ok xs =>
        cases hf
        have hG0 : G.H0 Dl = none := by
          cases z : G.H0 Dl with
          | none => rfl
          | some o => exact absurd hD (er1.live Dl (by rw [z]; simp))
        have hF1 : F1 Dl = none := er1.sub.free hD
        have uno : ∀ (i : Nat) (s : Sl), ρ1[i]? = some s → owns s = true → σ[i]? ≠ some (some (V.ref Dl)) := fun i s e os z => by
          have hs := er1.slot i s e
          cases s with
          | own d =>
            obtain ⟨a, e2, _, r⟩ := hs
            rw [z] at e2
            have : Dl = a := V.ref.inj (Option.some.inj (Option.some.inj e2))
            subst this
            obtain ⟨o, q⟩ := r.some
            rw [hD] at q; cases q
          | par d =>
            obtain ⟨a, e2, _, r⟩ := hs
            rw [z] at e2
            have : Dl = a := V.ref.inj (Option.some.inj (Option.some.inj e2))
            subst this
            obtain ⟨o, q⟩ := r.some
            rw [hD] at q; cases q
          | _ => cases os
        have unoW : ∀ {ρx : Env} {σx : St}, (∀ (i : Nat) (s : Sl), ρx[i]? = some s → owns s = true → σx[i]? ≠ some (some (V.ref Dl))) →
            ∀ (i : Nat) (s : Sl), (wipeE ρx vs)[i]? = some s → owns s = true → (wipe σx vs)[i]? ≠ some (some (V.ref Dl)) := fun {ρx σx} h i s e os z => by
          by_cases c : i ∈ vs
          · rw [wipeE_in c e] at os; cases os
          · rw [wipeE_out c] at e
            rw [wipe_out c] at z
            exact h i s e os z
        refine ⟨fun i m H => m = ds.length - i ∧ i ≤ ds.length ∧ ∃ F ρ acc, ER X.K cm G F H (wipe σ vs) (wipeE ρ vs) ∧ Ext F1 F ∧ F Dl = none ∧
            (∀ (i : Nat) (s : Sl), (wipeE ρ vs)[i]? = some s → owns s = true → (wipe σ vs)[i]? ≠ some (some (V.ref Dl))) ∧ (∃ ys, H Dl = some (.lst ys) ∧ Rps X.K cm F acc ys) ∧ compF gs ft fe vs (ds.drop i) acc ρ = some (.ok xs, ρe),
          ⟨ds.length, by simp, Nat.zero_le _, F1, ρ1, [], (er1.wipe vs).other hF1 hG0 (unoW uno), Ext.refl F1, hF1, unoW uno, ⟨[], upd_same, .nil⟩, q⟩, ?_⟩
        rintro i m H ⟨rfl, hi, F, ρ, acc, er, x, hFD, un, ⟨ys, hHD, rys⟩, hk⟩
        obtain ⟨w1, w2⟩ := hw i F H x er.sub
        by_cases hlt : i < ds.length
        · have hd : ds[i]? = some ds[i] := List.getElem?_eq_getElem hlt
          obtain ⟨go, yl⟩ := w1 _ hd
          rw [List.drop_eq_getElem_cons hlt] at hk
          have hk : ((gs ds[i] (wipeE ρ vs)).bind fun ρ1 => match ft ρ1 with
            | some (R.ok true, ρ2) => match fe ρ2 with
              | some (R.ok x, ρ3) => if acc.length < sizeLine then compF gs ft fe vs (ds.drop (i + 1)) (acc ++ [x]) ρ3 else none
              | _ => none
            | some (R.ok false, ρ2) => compF gs ft fe vs (ds.drop (i + 1)) acc ρ2
            | _ => none) = some (R.ok xs, ρe) := hk
          refine .inr ⟨go, fun H' => ∃ F ρ acc, ER X.K cm G F H' (wipe σ vs) (wipeE ρ vs) ∧ Ext F1 F ∧ F Dl = none ∧
            (∀ (i : Nat) (s : Sl), (wipeE ρ vs)[i]? = some s → owns s = true → (wipe σ vs)[i]? ≠ some (some (V.ref Dl))) ∧ (∃ ys, H' Dl = some (.lst ys) ∧ Rps X.K cm F acc ys) ∧ compF gs ft fe vs (ds.drop (i + 1)) acc ρ = some (.ok xs, ρe),
            fun H' h => ⟨ds.length - (i + 1), by omega, rfl, by omega, h⟩, fun v H' hy => ?_⟩
          obtain ⟨F', gr, rv⟩ := yl v H' hy
          have er' := er.grow gr
          have x' : Ext F1 F' := x.trans (Ext.of gr.f)
          have hHD' : H' Dl = some (.lst ys) := gr.h _ _ hHD
          have hFD' : F' Dl = none := gr.nf Dl (by rw [hHD]; simp) hFD
          have rys' : Rps X.K cm F' acc ys := rys.ext (Ext.of gr.f)
          cases q : gs ds[i] (wipeE ρ vs) with
          | none => rw [q] at hk; cases hk
          | some ρ2 =>
            rw [q] at hk
            have hk : (match ft ρ2 with
              | some (R.ok true, ρ2) => match fe ρ2 with
                | some (R.ok x, ρ3) => if acc.length < sizeLine then compF gs ft fe vs (ds.drop (i + 1)) (acc ++ [x]) ρ3 else none
                | _ => none
              | some (R.ok false, ρ2) => compF gs ft fe vs (ds.drop (i + 1)) acc ρ2
              | _ => none) = some (R.ok xs, ρe) := hk
            refine ⟨inn G F' H' (wipe σ vs) (wipeE ρ vs), F', wipeE ρ vs, ρ2, ds[i], er'.inner, rv, q, fun σ2 er2 l2 a2 => ?_⟩
            have ew : wipe σ2 vs = wipe σ vs := by
              rw [wipe_agree l2 fun j hj => a2 j fun z => hj (hts j z)]
              exact wipe_idem σ vs
            refine ⟨ew, ?_⟩
            cases q2 : ft ρ2 with
            | none => rw [q2] at hk; cases hk
            | some pr =>
              obtain ⟨rb, ρ3⟩ := pr
              rw [q2] at hk
              refine ⟨_, F', ρ2, rb, ρ3, er2, q2, ?_⟩
              intro F3 H3 er3 x3
              cases rb with
              | exc z => cases hk
              | ok b =>
                rintro b' rfl
                cases b with
                | false =>
                  have er3o := er'.outer er3
                  have u3 := er3.unowned hHD' un
                  refine ⟨F3, ρ3, acc, ?_, x'.trans x3, er3.unfrozen hHD' hFD' un, ?_, ⟨ys, er3.kept hHD' un, rys'.ext x3⟩, hk⟩
                  · rw [← ew]; exact er3o.wipe vs
                  · rw [← ew]; exact unoW u3
                | true =>
                  have hk : (match fe ρ3 with
                    | some (R.ok x, ρ3) => if acc.length < sizeLine then compF gs ft fe vs (ds.drop (i + 1)) (acc ++ [x]) ρ3 else none
                    | _ => none) = some (R.ok xs, ρe) := hk
                  cases q3 : fe ρ3 with
                  | none => rw [q3] at hk; cases hk
                  | some pr =>
                    obtain ⟨rc, ρ4⟩ := pr
                    rw [q3] at hk
                    refine ⟨_, F3, ρ3, rc, ρ4, er3, q3, ?_⟩
                    intro F4 H4 er4 x4
                    cases rc with
                    | exc z => cases hk
                    | ok d =>
                      intro y hy
                      have hy : Rp X.K cm F4 d y := hy
                      have hk : (if acc.length < sizeLine then compF gs ft fe vs (ds.drop (i + 1)) (acc ++ [d]) ρ4 else none) = some (R.ok xs, ρe) := hk
                      by_cases c : acc.length < sizeLine
                      · rw [if_pos c] at hk
                        have er4o := er'.outer er4
                        have u4 := er4.unowned hHD' un
                        have f4 := er4.unfrozen hHD' hFD' un
                        have rr : Rps X.K cm F4 acc ys := (rys'.ext x3).ext x4
                        refine ⟨ys, er4.kept hHD' un, by rw [← rr.length]; exact c, F4, ρ4, acc ++ [d], ?_, (x'.trans x3).trans x4, f4, ?_, ⟨ys ++ [y], upd_same, rr.append (.cons hy .nil)⟩, hk⟩
                        · rw [← ew]; exact (er4o.wipe vs).other f4 hG0 (unoW u4)
                        · rw [← ew]; exact unoW u4
                      · rw [if_neg c] at hk; cases hk
        · have e0 : i = ds.length := by omega
          subst e0
          rw [List.drop_length] at hk
          cases hk
          refine .inl ⟨w2 (Nat.le_refl _), ?_⟩
          refine hQ F H (ER.rest er1 x hv er) x (.ref Dl) ⟨Dl, rfl, .inl hG0, ⟨hFD, ys, hHD, rys⟩, fun j s e os z => ?_⟩
          by_cases c : j ∈ vs
          · have es := restE_in c e
            have hh := List.all_eq_true.mp hv j c
            cases q0 : ρ1[j]? with
            | none => rw [q0] at es; rw [es] at os; cases os
            | some s0 =>
              rw [q0] at es hh
              have es : s = s0 := es
              subst es
              cases s with
              | no => cases os
              | val _ => cases os
              | own _ => cases hh
              | par _ => cases hh
          · rw [restE_out c] at e
            exact un j s (by rw [wipeE_out c]; exact e) os (by rw [wipe_out c]; exact z)
  · rw [if_neg hv] at hf; cases hf
theorem pf_lc (own : List (Str × Nat)) (hc : X.calm = true) (hN : X.N.Nodup) (hi : PId X cm W tg iter fi) (ok : BlkOk X.N X.env.scope scope own)
    (hg : ∀ (s : Shared) (H : Hp) (C : Addr) (cl : List (Str × Addr)) (fp : List Addr), PGd (X.blk s H scope (compEnvC scope cl C X.env) fp) cm tg ts gs) (ht : ∀ (s : Shared) (H : Hp) (C : Addr) (cl : List (Str × Addr)) (fp : List Addr), PTsd (X.blk s H scope (compEnvC scope cl C X.env) fp) cm W0 ifs ft)
    (he : ∀ (s : Shared) (H : Hp) (C : Addr) (cl : List (Str × Addr)) (fp : List Addr), PD (X.blk s H scope (compEnvC scope cl C X.env) fp) cm W0 elt fe) (hts : ∀ j ∈ ts, j ∈ own.map (·.2) := by decide) (hs : ∀ x, foldedSetIterable iter X.env x = pure x := by intro _; rfl) :
    PF X cm W (.ListComp elt [⟨tg, iter, ifs, 0⟩] scope pos) (compD fi gs ft fe (own.map (·.2))) := by
  obtain ⟨wi, pi, ji⟩ := hi
  exact ⟨_, pe_lc hc hN pi ok (fun s H C cl fp => (hg s H C cl fp).can) (fun s H C cl fp => (ht s H C cl fp).can) (fun s H C cl fp => (he s H C cl fp).can) hs, jd_lc _ hts ji⟩
/-- y = [..], a new list that y owns -/
theorem psd_setLcO {i : Nat} {y : Str} {py spos : Pos} (own : List (Str × Nat)) (hc : X.calm = true) (hN : X.N.Nodup) (hy : X.N[i]? = some y) (hyl : X.env.scope.names.lookup y = some .local)
    (hsw : swapsWith (.ListComp elt [⟨tg, iter, ifs, 0⟩] scope pos) (some (.Name y py)) spos.line X.env = pure true) (hi : PId X cm W tg iter fi) (ok : BlkOk X.N X.env.scope scope own)
    (hg : ∀ (s : Shared) (H : Hp) (C : Addr) (cl : List (Str × Addr)) (fp : List Addr), PGd (X.blk s H scope (compEnvC scope cl C X.env) fp) cm tg ts gs) (ht : ∀ (s : Shared) (H : Hp) (C : Addr) (cl : List (Str × Addr)) (fp : List Addr), PTsd (X.blk s H scope (compEnvC scope cl C X.env) fp) cm W0 ifs ft)
    (he : ∀ (s : Shared) (H : Hp) (C : Addr) (cl : List (Str × Addr)) (fp : List Addr), PD (X.blk s H scope (compEnvC scope cl C X.env) fp) cm W0 elt fe) (hts : ∀ j ∈ ts, j ∈ own.map (·.2) := by decide) (hs : ∀ x, foldedSetIterable iter X.env x = pure x := by intro _; rfl) :
    PSd X cm W (.Assign [.Name y py] (.ListComp elt [⟨tg, iter, ifs, 0⟩] scope pos) spos) (exps (compD fi gs ft fe (own.map (·.2))) (setOw i)) := by
  obtain ⟨wi, pi, ji⟩ := hi
  refine ⟨_, ps_setLc (i := i) (g := canG X.K cm ts gs) (tt := canE X.K cm W0 rB ft) (te := canE X.K cm W0 (rV X.K cm) fe) hc hN hy hyl hsw pi ok (fun s H C cl fp => (hg s H C cl fp).can) (fun s H C cl fp => (ht s H C cl fp).can) (fun s H C cl fp => (he s H C cl fp).can) hs, ?_⟩
  refine jst_exp (t2 := fun v D σ H => gName i v σ H D.nx) (jd_lc _ hts ji) fun d v G F H σ ρ r ρ' er hv hk D hD => ?_
  obtain ⟨a, rfl, h⟩ := hv
  unfold setOw at hk
  by_cases c : i < ρ.length
  · rw [if_pos c] at hk; cases hk
    exact hD F H _ (er.setO c h) (Ext.refl F)
  · rw [if_neg c] at hk; cases hk
/-- y = [..] -/
theorem psd_setLc {i : Nat} {y : Str} {py spos : Pos} (own : List (Str × Nat)) (hc : X.calm = true) (hN : X.N.Nodup) (hy : X.N[i]? = some y) (hyl : X.env.scope.names.lookup y = some .local)
    (hsw : swapsWith (.ListComp elt [⟨tg, iter, ifs, 0⟩] scope pos) (some (.Name y py)) spos.line X.env = pure true) (hi : PId X cm W tg iter fi) (ok : BlkOk X.N X.env.scope scope own)
    (hg : ∀ (s : Shared) (H : Hp) (C : Addr) (cl : List (Str × Addr)) (fp : List Addr), PGd (X.blk s H scope (compEnvC scope cl C X.env) fp) cm tg ts gs) (ht : ∀ (s : Shared) (H : Hp) (C : Addr) (cl : List (Str × Addr)) (fp : List Addr), PTsd (X.blk s H scope (compEnvC scope cl C X.env) fp) cm W0 ifs ft)
    (he : ∀ (s : Shared) (H : Hp) (C : Addr) (cl : List (Str × Addr)) (fp : List Addr), PD (X.blk s H scope (compEnvC scope cl C X.env) fp) cm W0 elt fe) (hts : ∀ j ∈ ts, j ∈ own.map (·.2) := by decide) (hs : ∀ x, foldedSetIterable iter X.env x = pure x := by intro _; rfl) :
    PSd X cm W (.Assign [.Name y py] (.ListComp elt [⟨tg, iter, ifs, 0⟩] scope pos) spos) (exps (compD fi gs ft fe (own.map (·.2))) (setV i)) := by
  obtain ⟨wi, pi, ji⟩ := hi
  refine ⟨_, ps_setLc (i := i) (g := canG X.K cm ts gs) (tt := canE X.K cm W0 rB ft) (te := canE X.K cm W0 (rV X.K cm) fe) hc hN hy hyl hsw pi ok (fun s H C cl fp => (hg s H C cl fp).can) (fun s H C cl fp => (ht s H C cl fp).can) (fun s H C cl fp => (he s H C cl fp).can) hs, ?_⟩
  refine jst_exp (t2 := fun v D σ H => gName i v σ H D.nx) (jd_fresh (jd_lc _ hts ji)) fun d v G F H σ ρ r ρ' er hv hk D hD => ?_
  unfold setV at hk
  by_cases c : i < ρ.length
  · rw [if_pos c] at hk; cases hk
    exact hD F H _ (er.setV c hv) (Ext.refl F)
  · rw [if_neg c] at hk; cases hk
end
end Pd

/-! Pd8: the promise of a def, and its calls. -/
namespace Pd
open PySem PySem.Spec L2
open PyProof.Rows (envOfC)

/-- the arguments behind a def's run -/
def backA : List Sl → List Sl → Option (List Sl)
  | [], _ => some []
  | .val d :: ss, _ :: ρ => (backA ss ρ).map fun t => .val d :: t
  | .par _ :: ss, .par d :: ρ => (backA ss ρ).map fun t => .par d :: t
  | _, _ => none
/-- a def by its body: n slots -/
def fnD (np n : Nat) (g : SM) (ss : List Sl) : Option (SR × List Sl) := if ss.length = np then (match g (ss ++ List.replicate (n - ss.length) .no) with
  | some (.nx, ρ) => (backA ss ρ).map fun t => (.ret (.val .non), t)
  | some (.ret s, ρ) => (backA ss ρ).map fun t => (.ret s, t)
  | some (.exc x, ρ) => (backA ss ρ).map fun t => (.exc x, t)
  | _ => none) else none
abbrev FD := List Sl → Option (SR × List Sl)
def entry (vs : List V) (pa : Addr → Prop) (F H : Hp) : Gd := ⟨vs, pa, fun _ => False, F, H⟩
def FPost (K : PySem.W.Frag) (cm : Str → Option Addr) (G : Gd) (σ : St) (ss' : List Sl) (r : SR) (Q : VK) (E : XK) : Prop :=
  ∀ F' H', ER K cm G F' H' σ ss' → match r with
    | .ret (.val d) => ∀ v, Rp K cm F' d v → Q v H'
    | .ret (.own d) => ∀ a, Hand K cm G F' H' σ ss' a d → Q (.ref a) H'
    | .exc x => ∀ cv dx, XR K cm F' x cv dx → E cv dx H'
    | _ => False
def spD (K : PySem.W.Frag) (cm : Str → Option Addr) (np : Nat) (m : FD) : Sp := fun vs H Q E =>
  ∃ (F : Hp) (ss ss' : List Sl) (r : SR) (pa : Addr → Prop), vs.length = np ∧ ER K cm (entry vs pa F H) F H (vs.map some) ss ∧ m ss = some (r, ss') ∧ FPost K cm (entry vs pa F H) (vs.map some) ss' r Q E
theorem backA_at : ∀ {ss ρ ss' : List Sl}, backA ss ρ = some ss' → ss'.length = ss.length ∧ ∀ (i : Nat) (s : Sl), ss'[i]? = some s → (∃ d, s = .val d ∧ ss[i]? = some (.val d)) ∨ (∃ d, s = .par d ∧ ρ[i]? = some (.par d))
  | [], ρ, ss', h => by
    cases h
    exact ⟨rfl, fun i s e => by simp at e⟩
  | .val d :: ss, x :: ρ, ss', h => by
    have h : (backA ss ρ).map (fun t => Sl.val d :: t) = some ss' := h
    cases q : backA ss ρ with
    | none => rw [q] at h; cases h
    | some t =>
      rw [q] at h; cases h
      obtain ⟨l, a⟩ := backA_at q
      refine ⟨by simp [l], fun i s e => ?_⟩
      cases i with
      | zero => cases e; exact .inl ⟨d, rfl, rfl⟩
      | succ i => simpa using a i s (by simpa using e)
  | .par d0 :: ss, .par d :: ρ, ss', h => by
    have h : (backA ss ρ).map (fun t => Sl.par d :: t) = some ss' := h
    cases q : backA ss ρ with
    | none => rw [q] at h; cases h
    | some t =>
      rw [q] at h; cases h
      obtain ⟨l, a⟩ := backA_at q
      refine ⟨by simp [l], fun i s e => ?_⟩
      cases i with
      | zero => cases e; exact .inr ⟨d, rfl, rfl⟩
      | succ i => simpa using a i s (by simpa using e)
  | .val d :: ss, [], ss', h => nomatch h
  | .par d :: ss, [], ss', h => nomatch h
  | .par d :: ss, .no :: ρ, ss', h => nomatch h
  | .par d :: ss, .val _ :: ρ, ss', h => nomatch h
  | .par d :: ss, .own _ :: ρ, ss', h => nomatch h
  | .no :: ss, ρ, ss', h => by cases ρ <;> cases h
  | .own d :: ss, ρ, ss', h => by cases ρ <;> cases h
section
variable {P : Program} {w : World} {K : PySem.W.Frag} {mg : Str → Option Value} {base : Heap} {cm : Str → Option Addr}
theorem start_at {N : List Str} {vs : List V} {i : Nat} {v : Option V} (h : (vs.map some)[i]? = some v) : (start N vs)[i]? = some v := by
  unfold L2.start
  rw [List.getElem?_append_left]
  · exact h
  · exact (List.getElem?_eq_some_iff.mp h).1
theorem ER.enter {G : Gd} {F H : Hp} {vs : List V} {ss : List Sl} {N : List Str} (er : ER K cm G F H (vs.map some) ss) : ER K cm G F H (start N vs) (ss ++ List.replicate (N.length - ss.length) .no) := by
  have hl : ss.length = vs.length := by have := er.len; rw [List.length_map] at this; exact this
  have at_ : ∀ (i : Nat) (s : Sl), (ss ++ List.replicate (N.length - ss.length) Sl.no)[i]? = some s → ss[i]? = some s ∨ s = .no := fun i s e => by
    by_cases c : i < ss.length
    · rw [List.getElem?_append_left c] at e; exact .inl e
    · rw [List.getElem?_append_right (by omega)] at e
      exact .inr (List.eq_of_mem_replicate (List.mem_of_getElem? e))
  refine ⟨er.sub, er.f0, er.h0, er.live, er.nf, fun i s e => ?_, fun i j s t ei ej os ot eq => ?_, ?_⟩
  · rcases at_ i s e with e | rfl
    · have hs := er.slot i s e
      cases s with
      | no => trivial
      | val d => obtain ⟨v, h1, r⟩ := hs; exact ⟨v, start_at h1, r⟩
      | own d => obtain ⟨v, h1, r⟩ := hs; exact ⟨v, start_at h1, r⟩
      | par d => obtain ⟨v, h1, r⟩ := hs; exact ⟨v, start_at h1, r⟩
    · trivial
  · rcases at_ i s ei with ei | rfl
    · rcases at_ j t ej with ej | rfl
      · have hi : i < vs.length := by rw [← hl]; exact (List.getElem?_eq_some_iff.mp ei).1
        have hj : j < vs.length := by rw [← hl]; exact (List.getElem?_eq_some_iff.mp ej).1
        refine er.inj i j s t ei ej os ot ?_
        have e1 : (vs.map some)[i]? = some (some vs[i]) := by rw [List.getElem?_map, List.getElem?_eq_getElem hi]; rfl
        have e2 : (vs.map some)[j]? = some (some vs[j]) := by rw [List.getElem?_map, List.getElem?_eq_getElem hj]; rfl
        rw [start_at e1, start_at e2] at eq
        rw [e1, e2, eq]
      · cases ot
    · cases os
  · unfold L2.start
    rw [List.length_append, List.length_append, List.length_replicate, List.length_replicate, List.length_map, hl]
/-- the arguments of a def behind its run -/
theorem ER.leave {vs : List V} {pa : Addr → Prop} {F H F' H' : Hp} {ss ss' : List Sl} {σ' : St} {ρ' : Env} (er : ER K cm (entry vs pa F H) F H (vs.map some) ss) (er' : ER K cm (entry vs pa F H) F' H' σ' ρ') (hb : backA ss ρ' = some ss') :
    ER K cm (entry vs pa F H) F' H' (vs.map some) ss' := by
  obtain ⟨hl, ha⟩ := backA_at hb
  refine ⟨er'.sub, er'.f0, er'.h0, er'.live, er'.nf, fun i s e => ?_, fun i j s t ei ej os ot eq => ?_, by rw [hl]; exact er.len⟩
  · rcases ha i s e with ⟨d, rfl, e1⟩ | ⟨d, rfl, e1⟩
    · obtain ⟨v, h1, r⟩ := er.slot i _ e1
      exact ⟨v, h1, r.ext er'.f0⟩
    · obtain ⟨a, h1, q, r⟩ := er'.slot i _ e1
      have q1 : vs[i]? = some (.ref a) := q.1
      exact ⟨a, by rw [List.getElem?_map, q1]; rfl, q, r⟩
  · have key : ∀ (k : Nat) (u : Sl), ss'[k]? = some u → owns u = true → ∃ (d : D) (a : Addr), ρ'[k]? = some (.par d) ∧ σ'[k]? = some (some (.ref a)) ∧ (vs.map some)[k]? = some (some (V.ref a)) := fun k u e o => by
      rcases ha k u e with ⟨d, rfl, _⟩ | ⟨d, rfl, e1⟩
      · cases o
      · obtain ⟨a, h1, q, r⟩ := er'.slot k _ e1
        have q1 : vs[k]? = some (.ref a) := q.1
        exact ⟨d, a, e1, h1, by rw [List.getElem?_map, q1]; rfl⟩
    obtain ⟨d, a, e1, h1, g1⟩ := key i s ei os
    obtain ⟨d2, b, e2, h2, g2⟩ := key j t ej ot
    refine er'.inj i j _ _ e1 e2 rfl rfl ?_
    rw [g1, g2] at eq
    rw [h1, h2, eq]
theorem ok_def {x qual : Str} {st : Stmt} {f : Addr} {fd : FuncData} {N ps : List Str} {k : Nat} {g : SM} (F : Fun K x qual st f fd) (S : FnScope N ps (defScope st))
    (hb : ∀ (cdv : Value) (A : Around) (outer : List PySem.Env) (s : Shared) (H : Hp) (E : XK), Room k (A.deeper (envOfC qual (defScope st) s.heap.objs.size f cdv)) →
      PSsd (cxOf (L2.CX P w) P w K mg base N qual (defScope st) f cdv A outer s H E) cm (fun cls d _ H => E cls d H) (defBody st) g) :
    FnOk P w K mg base (L2.CX P w) (k + 1) f fd ps (spD K cm ps.length (fnD ps.length N.length g)) := by
  refine F.okX S (fun vs H Q E h => ?_) (fun cdv A outer s H vs Q E hr h => ?_)
  · obtain ⟨_, _, _, _, _, hl, _⟩ := h
    exact hl
  · obtain ⟨F0, ss, ss', r, pa, hl, er, hm, hp⟩ := h
    obtain ⟨t, p, j⟩ := hb cdv A outer s H E hr
    refine ⟨t, p, ?_⟩
    unfold fnD at hm
    rw [if_pos (by have := er.len; rw [List.length_map, hl] at this; exact this)] at hm
    cases q : g (ss ++ List.replicate (N.length - ss.length) .no) with
    | none => rw [q] at hm; cases hm
    | some pr =>
      obtain ⟨r1, ρ1⟩ := pr
      rw [q] at hm
      refine j (entry vs pa F0 H) F0 H (start N vs) _ r1 ρ1 er.enter q _ fun F' H' σ' er' x' => ?_
      cases r1 with
      | nx =>
        have hm : (backA ss ρ1).map (fun t => (SR.ret (.val .non), t)) = some (r, ss') := hm
        cases qb : backA ss ρ1 with
        | none => rw [qb] at hm; cases hm
        | some t => rw [qb] at hm; cases hm; exact hp F' H' (er.leave er' qb) .non .non
      | ret s =>
        have hm : (backA ss ρ1).map (fun t => (SR.ret s, t)) = some (r, ss') := hm
        cases qb : backA ss ρ1 with
        | none => rw [qb] at hm; cases hm
        | some t =>
          rw [qb] at hm; cases hm
          have hz := hp F' H' (er.leave er' qb)
          cases s with
          | no => exact hz
          | par d => exact hz
          | val d => exact hz
          | own d =>
            refine fun a ha => hz a ⟨ha.1, ha.2.1, fun i s e os z => ?_⟩
            obtain ⟨_, hat⟩ := backA_at qb
            rcases hat i s e with ⟨d, rfl, _⟩ | ⟨d, rfl, e1⟩
            · cases os
            · obtain ⟨b, h1, q, _⟩ := er'.slot i _ e1
              have q1 : vs[i]? = some (.ref b) := q.1
              rw [List.getElem?_map, q1] at z
              have : b = a := V.ref.inj (Option.some.inj (Option.some.inj z))
              subst this
              exact ha.2.2 i _ e1 rfl h1
      | exc x =>
        have hm : (backA ss ρ1).map (fun t => (SR.exc x, t)) = some (r, ss') := hm
        cases qb : backA ss ρ1 with
        | none => rw [qb] at hm; cases hm
        | some t => rw [qb] at hm; cases hm; exact hp F' H' (er.leave er' qb)
      | brk => cases hm
      | cnt => cases hm
end
/-! ### a call -/
def slotsOf : List Op → List Nat
  | [] => []
  | .s i :: os => i :: slotsOf os
  | .v _ :: os => slotsOf os
def argS (ρ : Env) : List Op → Option (List Sl)
  | [] => some []
  | .v d :: os => (argS ρ os).map fun t => .val d :: t
  | .s i :: os => (res ρ (.s i)).bind fun d => (argS ρ os).map fun t => .par d :: t
def isS (j : Nat) : Op → Bool
  | .s i => i == j
  | .v _ => false
def setKind : Sl → D → Sl
  | .own _, d => .own d
  | .par _, d => .par d
  | s, _ => s
def inTo (s : Sl) : Option Sl → Sl
  | some (.par d) => setKind s d
  | _ => s
def putB (ρ : Env) (os : List Op) (ss : List Sl) : Env := ρ.mapIdx fun j s => match os.findIdx? (isS j) with
  | none => s
  | some k => inTo s ss[k]?
def callM (m : FD) (os : List Op) : Env → Option (SR × Env) := fun ρ => (argS ρ os).bind fun ss => if (slotsOf os).Nodup then (m ss).bind fun p => some (p.1, putB ρ os p.2) else none
/-- what a call gives: a value, or a new object -/
def rS (K : PySem.W.Frag) (cm : Str → Option Addr) : Rel Sl V := fun G F H σ ρ s v => match s with
  | .val d => Rp K cm F d v
  | .own d => rF K cm G F H σ ρ d v
  | _ => False
def toR : SR → Option (R Sl)
  | .ret (.val d) => some (.ok (.val d))
  | .ret (.own d) => some (.ok (.own d))
  | .exc x => some (.exc x)
  | _ => none
def callR (m : FD) (os : List Op) : M Sl := fun ρ => (callM m os ρ).bind fun p => (toR p.1).map fun r => (r, p.2)
section
variable {K : PySem.W.Frag} {cm : Str → Option Addr} {G : Gd} {F H : Hp} {σ : St} {ρ : Env}
theorem argS_at : ∀ {os : List Op} {ss : List Sl}, argS ρ os = some ss → ss.length = os.length ∧ ∀ (k : Nat) (s : Sl), ss[k]? = some s → (∃ d, s = .val d ∧ os[k]? = some (.v d)) ∨ (∃ d i, s = .par d ∧ os[k]? = some (.s i) ∧ res ρ (.s i) = some d)
  | [], ss, h => by cases h; exact ⟨rfl, fun k s e => by simp at e⟩
  | .v d :: os, ss, h => by
    have h : (argS ρ os).map (fun t => Sl.val d :: t) = some ss := h
    cases q : argS ρ os with
    | none => rw [q] at h; cases h
    | some t =>
      rw [q] at h; cases h
      obtain ⟨l, a⟩ := argS_at q
      refine ⟨by simp [l], fun k s e => ?_⟩
      cases k with
      | zero => cases e; exact .inl ⟨d, rfl, rfl⟩
      | succ k => simpa using a k s (by simpa using e)
  | .s i :: os, ss, h => by
    have h : ((res ρ (.s i)).bind fun d => (argS ρ os).map fun t => Sl.par d :: t) = some ss := h
    cases q0 : res ρ (.s i) with
    | none => rw [q0] at h; cases h
    | some d =>
      rw [q0] at h
      have h : (argS ρ os).map (fun t => Sl.par d :: t) = some ss := h
      cases q : argS ρ os with
      | none => rw [q] at h; cases h
      | some t =>
        rw [q] at h; cases h
        obtain ⟨l, a⟩ := argS_at q
        refine ⟨by simp [l], fun k s e => ?_⟩
        cases k with
        | zero => cases e; exact .inr ⟨d, i, rfl, rfl, q0⟩
        | succ k => simpa using a k s (by simpa using e)
theorem slots_nodup : ∀ {os : List Op} {k l i : Nat}, (slotsOf os).Nodup → os[k]? = some (.s i) → os[l]? = some (.s i) → k = l
  | [], k, l, i, _, h, _ => by simp at h
  | .v d :: os, k, l, i, hn, h, h' => by
    cases k with
    | zero => cases h
    | succ k => cases l with
      | zero => cases h'
      | succ l => exact congrArg (· + 1) (slots_nodup (os := os) hn (by simpa using h) (by simpa using h'))
  | .s j :: os, k, l, i, hn, h, h' => by
    have hn' := List.nodup_cons.mp hn
    have mem : ∀ {os : List Op} {k : Nat}, os[k]? = some (.s i) → i ∈ slotsOf os := by
      intro os
      induction os with
      | nil => intro k h; simp at h
      | cons o os ih =>
        intro k h
        cases k with
        | zero => cases h; exact List.mem_cons_self
        | succ k =>
          have := ih (k := k) (by simpa using h)
          cases o with
          | v _ => exact this
          | s _ => exact List.mem_cons_of_mem _ this
    cases k with
    | zero =>
      cases h
      cases l with
      | zero => rfl
      | succ l => exact absurd (mem (os := os) (k := l) (by simpa using h')) hn'.1
    | succ k => cases l with
      | zero =>
        cases h'
        exact absurd (mem (os := os) (k := k) (by simpa using h)) hn'.1
      | succ l => exact congrArg (· + 1) (slots_nodup (os := os) hn'.2 (by simpa using h) (by simpa using h'))
theorem find_none {os : List Op} {j k : Nat} (h : os.findIdx? (isS j) = none) : os[k]? ≠ some (.s j) := fun e => by
  have := List.findIdx?_eq_none_iff.mp h (.s j) (List.mem_of_getElem? e)
  simp [isS] at this
theorem find_some {os : List Op} {j k : Nat} (h : os.findIdx? (isS j) = some k) : os[k]? = some (.s j) := by
  obtain ⟨hk, h1, _⟩ := List.findIdx?_eq_some_iff_getElem.mp h
  rw [List.getElem?_eq_getElem hk]
  cases q : os[k] with
  | v d => rw [q] at h1; cases h1
  | s i =>
    rw [q] at h1
    have : i = j := by simpa [isS] using h1
    rw [this]
theorem paired_get {α β : Type} {P : α → β → Prop} : ∀ {xs : List α} {ys : List β} {k : Nat} {x : α}, Paired P xs ys → xs[k]? = some x → ∃ y, ys[k]? = some y ∧ P x y
  | _, _, _, _, .nil, h => by simp at h
  | _, _, 0, _, .cons h _, e => by cases e; exact ⟨_, rfl, h⟩
  | _, _, k + 1, _, .cons _ r, e => by
    obtain ⟨y, h1, h2⟩ := paired_get (k := k) r (by simpa using e)
    exact ⟨y, by simpa using h1, h2⟩
theorem paired_len {α β : Type} {P : α → β → Prop} : ∀ {xs : List α} {ys : List β}, Paired P xs ys → xs.length = ys.length
  | _, _, .nil => rfl
  | _, _, .cons _ r => by simp [paired_len r]
/-- the addresses of the arguments that the caller's slots own -/
def paOf (σ : St) (os : List Op) : Addr → Prop := fun a => ∃ i : Nat, Op.s i ∈ os ∧ σ[i]? = some (some (.ref a))
theorem res_slot {i : Nat} {d : D} (h : res ρ (.s i) = some d) : ρ[i]? = some (.own d) ∨ ρ[i]? = some (.par d) := by
  have h : (ρ[i]?).bind ownOf = some d := h
  cases q : ρ[i]? with
  | none => rw [q] at h; cases h
  | some s =>
    rw [q] at h
    have h : ownOf s = some d := h
    cases s with
    | own d' => cases h; exact .inl rfl
    | par d' => cases h; exact .inr rfl
    | _ => cases h
theorem ER.own_of (er : ER K cm G F H σ ρ) {i : Nat} {d : D} (h : res ρ (.s i) = some d) : ∃ a, σ[i]? = some (some (.ref a)) ∧ OwnR K cm F H a d ∧ (Free G a ∨ G.pa a) := by
  rcases res_slot h with e | e
  · obtain ⟨a, h1, q, r⟩ := er.slot i _ e; exact ⟨a, h1, r, .inl q⟩
  · obtain ⟨a, h1, q, r⟩ := er.slot i _ e; exact ⟨a, h1, r, .inr q.2⟩
/-- into the callee -/
theorem ER.into {os : List Op} {vs : List V} {ss : List Sl} (er : ER K cm G F H σ ρ) (hv : Paired (rO K cm G F H σ ρ) os vs) (ha : argS ρ os = some ss) (hn : (slotsOf os).Nodup) :
    ER K cm (entry vs (paOf σ os) F H) F H (vs.map some) ss := by
  obtain ⟨hl, hat⟩ := argS_at ha
  have hlen := paired_len hv
  have par_at : ∀ (k : Nat) (d : D), ss[k]? = some (.par d) → ∃ (i : Nat) (a : Addr), os[k]? = some (.s i) ∧ σ[i]? = some (some (.ref a)) ∧ vs[k]? = some (.ref a) ∧ OwnR K cm F H a d := fun k d e => by
    rcases hat k _ e with ⟨d', e1, _⟩ | ⟨d', i, e1, e2, e3⟩
    · cases e1
    · cases e1
      obtain ⟨a, h1, r, _⟩ := er.own_of e3
      obtain ⟨y, h2, h3⟩ := paired_get hv e2
      have h3 : σ[i]? = some (some y) := h3
      rw [h1] at h3
      have : y = .ref a := (Option.some.inj (Option.some.inj h3)).symm
      subst this
      exact ⟨i, a, e2, h1, h2, r⟩
  refine ⟨er.sub, Ext.refl F, fun _ _ h _ _ => h, fun _ h => h, fun _ _ h _ => h, fun k s e => ?_, fun k l s t ek el os' ot eq => ?_, by rw [List.length_map, hl, hlen]⟩
  · rcases hat k s e with ⟨d, rfl, e1⟩ | ⟨d, i, rfl, e1, e2⟩
    · obtain ⟨y, h2, h3⟩ := paired_get hv e1
      exact ⟨y, by rw [List.getElem?_map, h2]; rfl, h3⟩
    · obtain ⟨i', a, e3, h1, h2, r⟩ := par_at k d e
      exact ⟨a, by rw [List.getElem?_map, h2]; rfl, ⟨h2, i', List.mem_of_getElem? e3, h1⟩, r⟩
  · rcases hat k s ek with ⟨d, rfl, _⟩ | ⟨d, i, rfl, _, _⟩
    · cases os'
    · rcases hat l t el with ⟨d2, rfl, _⟩ | ⟨d2, j, rfl, _, _⟩
      · cases ot
      · obtain ⟨i1, a, e1, h1, g1, _⟩ := par_at k d ek
        obtain ⟨i2, b, e2, h2, g2, _⟩ := par_at l d2 el
        rw [List.getElem?_map, List.getElem?_map, g1, g2] at eq
        have : a = b := V.ref.inj (Option.some.inj (Option.some.inj eq))
        subst this
        have o1 : res ρ (.s i1) = some d := by
          rcases hat k _ ek with ⟨_, z, _⟩ | ⟨_, _, z, z1, z2⟩
          · cases z
          · cases z; rw [e1] at z1; cases z1; exact z2
        have o2 : res ρ (.s i2) = some d2 := by
          rcases hat l _ el with ⟨_, z, _⟩ | ⟨_, _, z, z1, z2⟩
          · cases z
          · cases z; rw [e2] at z1; cases z1; exact z2
        have ei : i1 = i2 := by
          rcases res_slot o1 with r1 | r1 <;> rcases res_slot o2 with r2 | r2 <;> exact er.inj i1 i2 _ _ r1 r2 rfl rfl (h1.trans h2.symm)
        subst ei
        exact slots_nodup hn e1 e2
/-- back from the callee -/
theorem ER.back {os : List Op} {vs : List V} {ss ss' : List Sl} {F' H' : Hp} (er : ER K cm G F H σ ρ) (hv : Paired (rO K cm G F H σ ρ) os vs) (ha : argS ρ os = some ss) (hn : (slotsOf os).Nodup)
    (hl' : ss'.length = ss.length) (hk : ∀ (k : Nat) (s : Sl), ss'[k]? = some s → (∃ d, s = .val d ∧ ss[k]? = some (.val d)) ∨ (∃ d d0, s = .par d ∧ ss[k]? = some (.par d0)))
    (er' : ER K cm (entry vs (paOf σ os) F H) F' H' (vs.map some) ss') : ER K cm G F' H' σ (putB ρ os ss') := by
  obtain ⟨hl, hat⟩ := argS_at ha
  have pa_of : ∀ {b}, paOf σ os b → ∃ i d, Op.s i ∈ os ∧ σ[i]? = some (some (.ref b)) ∧ res ρ (.s i) = some d ∧ (Free G b ∨ G.pa b) := fun {b} ⟨i, hm, h1⟩ => by
    obtain ⟨k, hk1⟩ := List.mem_iff_getElem?.mp hm
    have hk2 : k < ss.length := by rw [hl]; exact (List.getElem?_eq_some_iff.mp hk1).1
    rcases hat k _ (List.getElem?_eq_getElem hk2) with ⟨d, _, e1⟩ | ⟨d, i2, _, e1, e2⟩
    · rw [hk1] at e1; cases e1
    · rw [hk1] at e1; cases e1
      obtain ⟨a, g1, _, g2⟩ := er.own_of e2
      rw [h1] at g1
      have : b = a := V.ref.inj (Option.some.inj (Option.some.inj g1))
      subst this
      exact ⟨i, d, hm, h1, e2, g2⟩
  have at_ : ∀ (j : Nat) (s : Sl), (putB ρ os ss')[j]? = some s → ∃ s0, ρ[j]? = some s0 ∧ s = (match os.findIdx? (isS j) with
      | none => s0
      | some k => inTo s0 ss'[k]?) := fun j s e => by
    unfold putB at e
    rw [List.getElem?_mapIdx] at e
    cases q : ρ[j]? with
    | none => rw [q] at e; cases e
    | some s0 =>
      rw [q] at e
      exact ⟨s0, rfl, (Option.some.inj e).symm⟩
  have ow : ∀ (j : Nat) (s : Sl), (putB ρ os ss')[j]? = some s → owns s = true → ∃ s0, ρ[j]? = some s0 ∧ owns s0 = true := fun j s e o => by
    obtain ⟨s0, h0, h1⟩ := at_ j s e
    refine ⟨s0, h0, ?_⟩
    have sk : ∀ z, owns (inTo s0 z) = owns s0 := fun z => by
      unfold inTo
      split
      · cases s0 <;> rfl
      · rfl
    rw [h1] at o
    split at o
    · exact o
    · rw [sk] at o; exact o
  refine ⟨er'.sub, er.f0.trans er'.f0, fun b o h n m => ?_, fun b h => er'.live b (er.live b h), fun b h n m => er'.nf b (er.live b h) (er.nf b h n m) (fun z => z), fun j s e => ?_, fun i j s t ei ej os1 ot eq => ?_, ?_⟩
  · refine er'.h0 b o (er.h0 b o h n m) (fun z => ?_) (fun z => z)
    obtain ⟨_, _, _, _, _, q⟩ := pa_of z
    rcases q with q | q
    · rcases q with q | q
      · rw [q] at h; cases h
      · exact m q
    · exact n q
  · obtain ⟨s0, h0, h1⟩ := at_ j s e
    have hs0 := er.slot j s0 h0
    -- an argument's slot
    have argc : ∀ (k : Nat) (d : D), os.findIdx? (isS j) = some k → ss'[k]? = some (.par d) → ∀ a : Addr, σ[j]? = some (some (.ref a)) → OwnR K cm F' H' a d := fun k d f1 f2 a ha1 => by
      obtain ⟨b, g1, q, r⟩ := er'.slot k _ f2
      have g2 : vs[k]? = some (.ref b) := q.1
      obtain ⟨y, h2, h3⟩ := paired_get hv (find_some f1)
      have h3 : σ[j]? = some (some y) := h3
      rw [g2] at h2; cases h2
      rw [ha1] at h3
      have : a = b := V.ref.inj (Option.some.inj (Option.some.inj h3))
      subst this
      exact r
    -- no argument's slot
    have keep : ∀ (a : Addr) (d : D), σ[j]? = some (some (.ref a)) → OwnR K cm F H a d → owns s0 = true → os.findIdx? (isS j) = none → OwnR K cm F' H' a d := fun a d ha1 r o f1 => by
      obtain ⟨ob, hob⟩ := r.some
      have np : ¬ paOf σ os a := fun z => by
        obtain ⟨i, d', hm, h2, h3, _⟩ := pa_of z
        have ei : i = j := by
          rcases res_slot h3 with r1 | r1 <;> exact er.inj i j _ _ r1 h0 rfl o (h2.trans ha1.symm)
        subst ei
        obtain ⟨k, hk1⟩ := List.mem_iff_getElem?.mp hm
        exact find_none f1 hk1
      exact r.mono er'.f0 ((er'.h0 a ob hob np (fun z => z)).trans hob.symm) (er'.nf a (by show H a ≠ none; rw [hob]; simp) r.1 (fun z => z))
    cases f1 : os.findIdx? (isS j) with
    | none =>
      rw [f1] at h1
      have h1 : s = s0 := h1
      subst h1
      cases s with
      | no => trivial
      | val d => obtain ⟨v, g1, r⟩ := hs0; exact ⟨v, g1, r.ext er'.f0⟩
      | own d => obtain ⟨a, g1, q, r⟩ := hs0; exact ⟨a, g1, q, keep a d g1 r rfl f1⟩
      | par d => obtain ⟨a, g1, q, r⟩ := hs0; exact ⟨a, g1, q, keep a d g1 r rfl f1⟩
    | some k =>
      rw [f1] at h1
      have hk0 := find_some f1
      have hkl : k < ss'.length := by rw [hl', hl]; exact (List.getElem?_eq_some_iff.mp hk0).1
      have hss : ∃ d0, ss[k]? = some (.par d0) := by
        have hk2 : k < ss.length := by omega
        rcases hat k _ (List.getElem?_eq_getElem hk2) with ⟨d, _, e1⟩ | ⟨d, i2, e0, e1, e2⟩
        · rw [hk0] at e1; cases e1
        · exact ⟨d, by rw [List.getElem?_eq_getElem hk2, e0]⟩
      obtain ⟨d0, hss⟩ := hss
      rcases hk k _ (List.getElem?_eq_getElem hkl) with ⟨d, _, e1⟩ | ⟨d, _, e0, _⟩
      · rw [hss] at e1; cases e1
      · have f2 : ss'[k]? = some (.par d) := by rw [List.getElem?_eq_getElem hkl, e0]
        have h1 : s = inTo s0 ss'[k]? := h1
        rw [f2] at h1
        have h1 : s = setKind s0 d := h1
        cases s0 with
        | no => rw [h1]; trivial
        | val d' => obtain ⟨v, g1, r⟩ := hs0; rw [h1]; exact ⟨v, g1, r.ext er'.f0⟩
        | own d' => obtain ⟨a, g1, q, r⟩ := hs0; rw [h1]; exact ⟨a, g1, q, argc k d f1 f2 a g1⟩
        | par d' => obtain ⟨a, g1, q, r⟩ := hs0; rw [h1]; exact ⟨a, g1, q, argc k d f1 f2 a g1⟩
  · obtain ⟨s0, h0, o0⟩ := ow i s ei os1
    obtain ⟨t0, h1, o1⟩ := ow j t ej ot
    exact er.inj i j s0 t0 h0 h1 o0 o1 eq
  · unfold putB
    rw [List.length_mapIdx]; exact er.len
end
/-! ### the call as an expression -/
def PSl (X : Cx) (cm : Str → Option Addr) (W : WX) (e : Expr) (f : M Sl) : Prop := ∃ t : TE, PE X e t ∧ Jd X cm W (rS X.K cm) t f
/-- what a def's run leaves of its arguments: the same kinds -/
def Tame (m : FD) : Prop := ∀ ss r ss', m ss = some (r, ss') → ss'.length = ss.length ∧ ∀ (k : Nat) (s : Sl), ss'[k]? = some s → (∃ d, s = .val d ∧ ss[k]? = some (.val d)) ∨ (∃ d d0, s = .par d ∧ ss[k]? = some (.par d0))
theorem backA_tame : ∀ {ss ρ ss' : List Sl}, backA ss ρ = some ss' → ss'.length = ss.length ∧ ∀ (k : Nat) (s : Sl), ss'[k]? = some s → (∃ d, s = .val d ∧ ss[k]? = some (.val d)) ∨ (∃ d d0, s = .par d ∧ ss[k]? = some (.par d0))
  | [], ρ, ss', h => by
    cases h
    exact ⟨rfl, fun i s e => by simp at e⟩
  | .val d :: ss, x :: ρ, ss', h => by
    have h : (backA ss ρ).map (fun t => Sl.val d :: t) = some ss' := h
    cases q : backA ss ρ with
    | none => rw [q] at h; cases h
    | some t =>
      rw [q] at h; cases h
      obtain ⟨l, a⟩ := backA_tame q
      refine ⟨by simp [l], fun i s e => ?_⟩
      cases i with
      | zero => cases e; exact .inl ⟨d, rfl, rfl⟩
      | succ i => simpa using a i s (by simpa using e)
  | .par d0 :: ss, .par d :: ρ, ss', h => by
    have h : (backA ss ρ).map (fun t => Sl.par d :: t) = some ss' := h
    cases q : backA ss ρ with
    | none => rw [q] at h; cases h
    | some t =>
      rw [q] at h; cases h
      obtain ⟨l, a⟩ := backA_tame q
      refine ⟨by simp [l], fun i s e => ?_⟩
      cases i with
      | zero => cases e; exact .inr ⟨d, d0, rfl, rfl⟩
      | succ i => simpa using a i s (by simpa using e)
  | .val d :: ss, [], ss', h => nomatch h
  | .par d :: ss, [], ss', h => nomatch h
  | .par d :: ss, .no :: ρ, ss', h => nomatch h
  | .par d :: ss, .val _ :: ρ, ss', h => nomatch h
  | .par d :: ss, .own _ :: ρ, ss', h => nomatch h
  | .no :: ss, ρ, ss', h => by cases ρ <;> cases h
  | .own d :: ss, ρ, ss', h => by cases ρ <;> cases h
theorem fnD_len {np n : Nat} {g : SM} {ss : List Sl} {p : SR × List Sl} (h : fnD np n g ss = some p) : ss.length = np := by
  unfold fnD at h
  by_cases c : ss.length = np
  · exact c
  · rw [if_neg c] at h; cases h
theorem fnD_tame (np n : Nat) (g : SM) : Tame (fnD np n g) := by
  intro ss r ss' h
  have hl := fnD_len h
  unfold fnD at h
  rw [if_pos hl] at h
  split at h
  · rename_i ρ q
    cases qb : backA ss ρ with
    | none => rw [qb] at h; cases h
    | some t => rw [qb] at h; cases h; exact backA_tame qb
  · rename_i s ρ q
    cases qb : backA ss ρ with
    | none => rw [qb] at h; cases h
    | some t => rw [qb] at h; cases h; exact backA_tame qb
  · rename_i x ρ q
    cases qb : backA ss ρ with
    | none => rw [qb] at h; cases h
    | some t => rw [qb] at h; cases h; exact backA_tame qb
  · cases h
section
variable {X : Cx} {cm : Str → Option Addr} {W : WX} {pos p : Pos} {e : Expr} {es : List Expr} {fs : M (List Op)} {k np : Nat} {f : Addr} {fd : FuncData} {ps : List Str} {m : FD} {x : Str}
def callS (m : FD) (fs : M (List Op)) : M Sl := M.bind fs fun os => callR m os
/-- a promise at the values of operands -/
theorem jd_sp (hm : Tame m) (hnp : ∀ ss p, m ss = some p → ss.length = np) {os : List Op} {vs : List V} :
    JdP X cm W (fun G F H σ ρ => rOs X.K cm G F H σ ρ os vs) (rS X.K cm) (fun σ H Q => spD X.K cm np m vs H Q (WE W σ)) (callR m os) := by
  intro G F H σ ρ r ρ' er hv hf Q hQ
  have hv : Paired (rO X.K cm G F H σ ρ) os vs := hv
  have hf : (callM m os ρ).bind (fun p => (toR p.1).map fun r => (r, p.2)) = some (r, ρ') := hf
  cases q : callM m os ρ with
  | none => rw [q] at hf; cases hf
  | some pr =>
    obtain ⟨r1, ρ1⟩ := pr
    rw [q] at hf
    have hf : (toR r1).map (fun r => (r, ρ1)) = some (r, ρ') := hf
    have q : (argS ρ os).bind (fun ss => if (slotsOf os).Nodup then (m ss).bind fun p => some (p.1, putB ρ os p.2) else none) = some (r1, ρ1) := q
    cases qa : argS ρ os with
    | none => rw [qa] at q; cases q
    | some ss =>
      rw [qa] at q
      have q : (if (slotsOf os).Nodup then (m ss).bind fun p => some (p.1, putB ρ os p.2) else none) = some (r1, ρ1) := q
      by_cases hn : (slotsOf os).Nodup
      · rw [if_pos hn] at q
        cases qm : m ss with
        | none => rw [qm] at q; cases q
        | some pm =>
          obtain ⟨r2, ss'⟩ := pm
          rw [qm] at q
          have q : some (r2, putB ρ os ss') = some (r1, ρ1) := q
          cases q
          obtain ⟨tl, tk⟩ := hm ss r1 ss' qm
          refine ⟨F, ss, ss', r1, paOf σ os, by rw [← paired_len hv, ← (argS_at qa).1]; exact hnp ss _ qm, er.into hv qa hn, qm, fun F' H' er' => ?_⟩
          have erb := er.back hv qa hn tl tk er'
          cases r1 with
          | nx => cases hf
          | brk => cases hf
          | cnt => cases hf
          | exc z =>
            cases hf
            exact hQ F' H' erb er'.f0
          | ret s =>
            cases s with
            | no => cases hf
            | par d => cases hf
            | val d =>
              cases hf
              exact hQ F' H' erb er'.f0
            | own d =>
              cases hf
              intro a ha
              obtain ⟨h1, h2, h3⟩ := ha
              refine hQ F' H' erb er'.f0 (.ref a) ⟨a, rfl, ?_, h2, fun i s e os1 z => ?_⟩
              · have hH : H a = none := h1.resolve_right (fun z => z)
                refine .inl ?_
                cases z : G.H0 a with
                | none => rfl
                | some o => exact absurd hH (er.live a (by rw [z]; simp))
              · have hH : H a = none := h1.resolve_right (fun z => z)
                have hs := erb.slot i s e
                -- what the caller's slots own stood before
                have old : ∃ s0, ρ[i]? = some s0 ∧ owns s0 = true := by
                  unfold putB at e
                  rw [List.getElem?_mapIdx] at e
                  cases q0 : ρ[i]? with
                  | none => rw [q0] at e; cases e
                  | some s0 =>
                    rw [q0] at e
                    refine ⟨s0, rfl, ?_⟩
                    have e := (Option.some.inj e).symm
                    have sk : ∀ z, owns (inTo s0 z) = owns s0 := fun z => by
                      unfold inTo
                      split
                      · cases s0 <;> rfl
                      · rfl
                    rw [e] at os1
                    split at os1
                    · exact os1
                    · rw [sk] at os1; exact os1
                obtain ⟨s0, q0, o0⟩ := old
                have hs0 := er.slot i s0 q0
                cases s0 with
                | no => cases o0
                | val _ => cases o0
                | own d0 =>
                  obtain ⟨b, g1, _, r⟩ := hs0
                  rw [z] at g1
                  have : a = b := V.ref.inj (Option.some.inj (Option.some.inj g1))
                  subst this
                  obtain ⟨o, q⟩ := r.some
                  rw [hH] at q; cases q
                | par d0 =>
                  obtain ⟨b, g1, _, r⟩ := hs0
                  rw [z] at g1
                  have : a = b := V.ref.inj (Option.some.inj (Option.some.inj g1))
                  subst this
                  obtain ⟨o, q⟩ := r.some
                  rw [hH] at q; cases q
      · rw [if_neg hn] at q; cases q
theorem psl_call {ds : List Value} (F : FnOk X.prog X.w X.K X.mg X.base (L2.CX X.prog X.w) k f fd ps (spD X.K cm np m)) (hm : Tame m) (hnp : ∀ ss p, m ss = some p → ss.length = np) (tk : Takes X W) (hr : Room k X.A) (hg : Gl X x) (hmg : X.mg x = some (.ref f)) (hk : PySem.W.keepIn X.K (.ref f) = true) (hb : Binds X.K fd ps [])
    (ha : PAs X cm W (e :: es) fs) (hdb : (x == ("__debug__" : Str)) = false := by decide) (he : starEach (e :: es) X.env = (false, eval e X.env) :: starEach es X.env := by rfl) (hpl : (backTo pos (starEach es X.env)).any (·.1) = false := by rfl) :
    PSl X cm W (.Call (.Name x p) (e :: es) [] pos) (callS m fs) := by
  obtain ⟨t, pa, j⟩ := ha
  refine ⟨_, pe_callS F hr hg hmg hk hb (fun σ => passAt tk σ) pa hdb he hpl, ?_⟩
  unfold callS
  exact JdP.bindS (rel1 := rOs X.K cm) (t1 := t) (t2 := fun vs σ H Q => spD X.K cm np m vs H Q (WE W σ)) stable_true j fun os vs => (jd_sp hm hnp).weak fun _ _ _ _ _ h => h.2
def sVal : Sl → M D
  | .val d => M.ret d
  | .own d => M.ret d
  | _ => M.fail
def sOwn : Sl → M D
  | .own d => M.ret d
  | _ => M.fail
/-- a call's value, a new object frozen -/
theorem pd_ofS {f : M Sl} (h : PSl X cm W e f) : PD X cm W e (M.bind f sVal) := by
  obtain ⟨t, p, j⟩ := h
  refine ⟨t, p, ?_⟩
  intro G F H σ ρ r ρ' er _ hf Q hQ
  unfold M.bind at hf
  cases q : f ρ with
  | none => rw [q] at hf; cases hf
  | some pr =>
    obtain ⟨ra, ρ1⟩ := pr
    rw [q] at hf
    cases ra with
    | exc z =>
      cases hf
      refine j G F H σ ρ (.exc z) _ er trivial q Q fun F' H' er' x' => hQ F' H' er' x'
    | ok s =>
      cases s with
      | no => cases hf
      | par _ => cases hf
      | val d =>
        cases hf
        exact j G F H σ ρ (.ok (.val d)) _ er trivial q Q fun F' H' er' x' => hQ F' H' er' x'
      | own d =>
        cases hf
        refine j G F H σ ρ (.ok (.own d)) _ er trivial q Q fun F' H' er' x' v hv => ?_
        exact freeze_new er' hv fun F2 er2 x2 hr => hQ F2 H' er2 (x'.trans x2) v hr
theorem pf_ofS {f : M Sl} (h : PSl X cm W e f) : PF X cm W e (M.bind f sOwn) := by
  obtain ⟨t, p, j⟩ := h
  refine ⟨t, p, ?_⟩
  intro G F H σ ρ r ρ' er _ hf Q hQ
  unfold M.bind at hf
  cases q : f ρ with
  | none => rw [q] at hf; cases hf
  | some pr =>
    obtain ⟨ra, ρ1⟩ := pr
    rw [q] at hf
    cases ra with
    | exc z =>
      cases hf
      exact j G F H σ ρ (.exc z) _ er trivial q Q fun F' H' er' x' => hQ F' H' er' x'
    | ok s =>
      cases s with
      | no => cases hf
      | par _ => cases hf
      | val d => cases hf
      | own d =>
        cases hf
        exact j G F H σ ρ (.ok (.own d)) _ er trivial q Q fun F' H' er' x' => hQ F' H' er' x'
end
end Pd

/-! Pd9: products, quotients, powers, isinstance, globals, lists that a slot owns, join. -/
namespace Pd
open PySem PySem.Spec L2

/-! ### ints -/
def mulG : D → D → Option D
  | .int i, .int j => if i.natAbs.log2 + j.natAbs.log2 < 1000000 then some (.int (i * j)) else none
  | .lst xs, .int k => if -(2 ^ 63) ≤ k ∧ k < 2 ^ 63 ∧ xs.length * k.toNat ≤ sizeLine then some (.lst (List.replicate k.toNat xs).flatten) else none
  | _, _ => none
def rMulD : R2 := fun x y H Q => rI CMulW (fun i j => .int (i * j)) x y H Q ∨ rRep x y H Q
theorem op_mulD {X : Cx} : OpR X (binaryOp .Mult) rMulD := op_mulW.or op_rep
section
variable {K : PySem.W.Frag} {cm : Str → Option Addr}
theorem Rps.rep {F : Hp} {ds : List D} {vs : List V} (h : Rps K cm F ds vs) : ∀ k : Nat, Rps K cm F (List.replicate k ds).flatten (List.replicate k vs).flatten
  | 0 => .nil
  | k + 1 => by
    rw [List.replicate_succ, List.replicate_succ, List.flatten_cons, List.flatten_cons]
    exact h.append (Rps.rep h k)
theorem od_mul : OpD K cm rMulD mulG := by
  intro F H x y dx dy d s hx hy hg Q k
  cases dx with
  | int i =>
    cases dy with
    | int j =>
      have hg2 : (if i.natAbs.log2 + j.natAbs.log2 < 1000000 then some (D.int (i * j)) else none) = some d := hg
      by_cases c : i.natAbs.log2 + j.natAbs.log2 < 1000000
      · rw [if_pos c] at hg2; cases hg2
        exact .inl ⟨i, j, hx.int, hy.int, c, k F H _ (Grow.refl s) (.int _)⟩
      · rw [if_neg c] at hg2; cases hg2
    | _ => cases hg
  | lst es =>
    cases dy with
    | int j =>
      have hg2 : (if -(2 ^ 63) ≤ j ∧ j < 2 ^ 63 ∧ es.length * j.toNat ≤ sizeLine then some (D.lst (List.replicate j.toNat es).flatten) else none) = some d := hg
      by_cases c : -(2 ^ 63) ≤ j ∧ j < 2 ^ 63 ∧ es.length * j.toNat ≤ sizeLine
      · rw [if_pos c] at hg2; cases hg2
        obtain ⟨a, xs, e1, h1, r1⟩ := hx.lst s
        refine .inr ⟨a, j, xs, e1, hy.int, h1, c.1, c.2.1, by rw [← r1.length]; exact c.2.2, fun p hp => ?_⟩
        have g := Grow.new (o := .lst (List.replicate j.toNat xs).flatten) s hp
        exact k _ _ _ g (.lst upd_same ((r1.rep j.toNat).ext (Ext.of g.f)))
      · rw [if_neg c] at hg2; cases hg2
    | _ => cases hg
  | _ => cases dy <;> cases hg
def fdivG : D → D → Option D := intG (fun _ j => decide (0 < j) && decide (j.natAbs.log2 < 9000)) (fun i j => i / j)
theorem od_fdiv : OpD K cm (rI CDivW fun i j => .int (i / j)) fdivG := od_int fun i j h => by
  have := (Bool.and_eq_true _ _).mp h
  exact ⟨of_decide_eq_true this.1, of_decide_eq_true this.2⟩
def modG : D → D → Option D := intG (fun _ j => decide (0 < j)) (fun i j => i % j)
theorem od_mod : OpD K cm (rI (fun _ j => 0 < j) fun i j => .int (i % j)) modG := od_int fun i j h => of_decide_eq_true h
def subG : D → D → Option D := intG (fun _ _ => true) (fun i j => i - j)
theorem od_sub : OpD K cm (rI0 fun i j => .int (i - j)) subG := by
  intro F H x y dx dy d s hx hy hg Q k
  cases dx with
  | int i => cases dy with
    | int j => cases hg; exact ⟨i, j, hx.int, hy.int, k F H _ (Grow.refl s) (.int _)⟩
    | _ => cases hg
  | _ => cases dy <;> cases hg
def CPowW (i j : Int) : Prop := 0 ≤ j ∧ (Builtin.Int.intBits i : Int) * j ≤ 2 ^ 27
theorem op_powW {X : Cx} : OpR X (binaryOp .Pow) (rI CPowW fun i j => .int (i ^ j.toNat)) := opI fun _ _ _ _ _ _ _ hc q => PyProof.Rows.pow_int hc.1 hc.2 q
def powG : D → D → Option D := intG (fun i j => decide (0 ≤ j) && decide ((Builtin.Int.intBits i : Int) * j ≤ 2 ^ 27)) (fun i j => i ^ j.toNat)
theorem od_pow : OpD K cm (rI CPowW fun i j => .int (i ^ j.toNat)) powG := od_int fun i j h => by
  have := (Bool.and_eq_true _ _).mp h
  exact ⟨of_decide_eq_true this.1, of_decide_eq_true this.2⟩
end
section
variable {X : Cx} {cm : Str → Option Addr} {W : WX} {pos p q : Pos} {a e : Expr} {fo : M Op} {fd : M D} {fds : M (List D)} {x : Str}
def app1 (g : D → Option D) (f : M Op) : M D := M.bind f fun o ρ => (res ρ o).bind fun d => (g d).bind fun z => some (.ok z, ρ)
def negG : D → Option D
  | .int i => some (.int (-i))
  | _ => none
theorem jd_app1 {t : TE} {t2 : V → St → Hp → VK → Prop} {g : D → Option D} (j : Jd X cm W (rO X.K cm) t fo)
    (h : ∀ (F H : Hp) (σ : St) (v : V) (d z : D), Same F H → Rv X.K cm F H d v → g d = some z → ∀ Q : VK, (∀ F' H' v, Grow F H F' H' → Rp X.K cm F' z v → Q v H') → t2 v σ H Q) : Jd X cm W (rV X.K cm) (fun σ H Q => t σ H fun v H1 => t2 v σ H1 Q) (app1 g fo) := by
  unfold app1
  refine JdP.bindS (rel1 := rO X.K cm) (t1 := t) (t2 := t2) stable_true j fun o v => ?_
  refine jd_fin fun G F H σ ρ r ρ' er hp hf => ?_
  obtain ⟨_, ho⟩ := hp
  have hf : ((res ρ o).bind fun d => (g d).bind fun z => some (R.ok z, ρ)) = some (r, ρ') := hf
  cases e1 : res ρ o with
  | none => rw [e1] at hf; cases hf
  | some d =>
    rw [e1] at hf
    have hf : ((g d).bind fun z => some (R.ok z, ρ)) = some (r, ρ') := hf
    cases e2 : g d with
    | none => rw [e2] at hf; cases hf
    | some z =>
      rw [e2] at hf; cases hf
      exact ⟨z, rfl, rfl, fun Q k => h F H σ v d z er.sub (rO_res ho (Ext.refl F) er e1) e2 Q k⟩
theorem pd_neg (ha : PO X cm W a fo) : PD X cm W (.UnaryOp .USub a pos) (app1 negG fo) := by
  obtain ⟨t, p, j⟩ := ha
  refine ⟨_, pe_un un_neg p, jd_app1 (t2 := fun v _ H Q => rU (fun i => .int (-i)) v H Q) j fun F H σ v d z s hv hg Q k => ?_⟩
  cases d with
  | int i => cases hg; exact ⟨i, hv.int, k F H _ (Grow.refl s) (.int _)⟩
  | _ => cases hg
/-! ### a name of the module -/
theorem pd_glob {v : V} {u : Value} {d : D} (hg : Gl X x) (hm : X.mg x = some u) (r : RelV v u) (hd : ∀ F, Rp X.K cm F d v) (hdb : (x == ("__debug__" : Str)) = false := by decide) : PD X cm W (.Name x pos) (M.ret d) := ⟨_, pe_glob hg hm r hdb, jd_const (fun _ _ _ h => h) hd⟩
/-! ### isinstance, built-in types -/
def tyName : D → Option String
  | .non => some "NoneType"
  | .bl _ => some "bool"
  | .int _ => some "int"
  | .str _ => some "str"
  | .tup _ => some "tuple"
  | .frt _ => some "tuple"
  | .lst _ => some "list"
  | .frl _ => some "list"
  | .dk _ => some "dict"
  | _ => none
theorem tyx_of {K : PySem.W.Frag} {F H : Hp} {d : D} {v : V} {n : String} (s : Same F H) (h : Rv K cm F H d v) (e : tyName d = some n) : TyX K H v (.type n) := by
  cases d with
  | non => cases e; rw [h.non]; exact .base .non
  | bl b => cases e; rw [h.bl]; exact .base (.bl b)
  | int i => cases e; rw [h.int]; exact .base (.int i)
  | str i => cases e; rw [h.str]; exact .base (.str i)
  | tup ds =>
    cases e
    obtain ⟨a, xs, rfl, h1, _⟩ := h.tupX s
    exact .base (.tup (s _ _ h1))
  | lst ds =>
    cases e
    obtain ⟨a, xs, rfl, h1, _⟩ := h.lst s
    exact .base (.lst h1)
  | frl ds =>
    cases e
    obtain ⟨a, xs, rfl, h1, _⟩ := h.frl s
    rcases h1 with (h1 | ⟨o, h1⟩) | ⟨o, its, n, h1, h2, _⟩
    · exact .base (.lst h1)
    · exact .base (.frz h1)
    · exact .kList h1 h2
  | frt ds =>
    cases e
    obtain ⟨a, xs, rfl, h1, _⟩ := h.frt s
    rcases h1 with (h1 | ⟨o, h1⟩) | ⟨o, its, n, h1, h2, _⟩
    · exact .base (.tup h1)
    · exact .fTuple h1
    · exact .kTuple h1 h2
  | dk kvs =>
    cases e
    rcases h with h | ⟨a, rfl, _, h⟩
    · cases h with
      | dk h _ _ =>
        obtain ⟨o, h1, h2⟩ := h
        rcases un_dK h2 with rfl | ⟨ob, rfl⟩
        · exact .base (.dK (s _ _ h1))
        · exact .fDict (s _ _ h1)
    · obtain ⟨ks, h1, _⟩ := h
      exact .base (.dK h1)
  | _ => cases e
def isiG (T : String) (d : D) : Option D := (tyName d).bind fun a => (kitB a T).map .bl
theorem pd_isi {T : String} {y : Str} (hg : Gl X "isinstance") (hm : X.mg "isinstance" = none) (hg2 : Gl X y) (hm2 : X.mg y = none) (hv : bootBuiltins y = some (.type T)) (he : PO X cm W e fo)
    (hn : y ≠ "__name__" := by decide) (hdb : (y == ("__debug__" : Str)) = false := by decide)
    (hs : starEach (e :: [.Name y q]) X.env = (false, eval e X.env) :: starEach [.Name y q] X.env := by rfl) (hs2 : starEach (.Name y q :: []) X.env = (false, eval (.Name y q) X.env) :: starEach [] X.env := by rfl)
    (hpl : (backTo pos (starEach [.Name y q] X.env)).any (·.1) = false := by rfl) : PD X cm W (.Call (.Name "isinstance" p) [e, .Name y q] [] pos) (app1 (isiG T) fo) := by
  obtain ⟨t, pe, j⟩ := he
  have hb : PE X (.Name y q) (tC (.ty T)) := pe_bltn hg2 hm2 hv (show RelV (.ty T) (.type T) from rfl) hn hdb
  refine ⟨_, pe_callB call_isi hg hm (by decide +kernel) (pa_cons pe (pa_cons hb pa_nil hs2) hs) (by decide) (by decide) hs hpl, ?_⟩
  refine jd_app1 (t2 := fun v σ H Q => rIsi X.K [v, .ty T] H Q) j fun F H σ v d z s hv hg Q k => ?_
  have hg : (tyName d).bind (fun a => (kitB a T).map D.bl) = some z := hg
  cases e1 : tyName d with
  | none => rw [e1] at hg; cases hg
  | some n =>
    rw [e1] at hg
    have hg : (kitB n T).map D.bl = some z := hg
    cases e2 : kitB n T with
    | none => rw [e2] at hg; cases hg
    | some b =>
      rw [e2] at hg; cases hg
      exact ⟨v, .ty T, .type n, .type T, b, rfl, .ty T, tyx_of s hv e1, kit_ty e2, k F H _ (Grow.refl s) (.bl _)⟩
/-! ### what a slot owns is changed -/
def putC (ρ : Env) (i : Nat) (c : D) : Env := ρ.set i (setKind ((ρ[i]?).getD .no) c)
theorem ER.write {K : PySem.W.Frag} {G : Gd} {F H : Hp} {σ : St} {ρ : Env} {i : Nat} {c c' : D} {a : Addr} {o : HO} (er : ER K cm G F H σ ρ) (h : res ρ (.s i) = some c) (ha : σ[i]? = some (some (.ref a))) (hf : F a = none) (ho : OwnAt K cm F (upd H a o) a c') :
    ER K cm G F (upd H a o) σ (putC ρ i c') := by
  have hsl := res_slot h
  have hi : i < ρ.length := by
    rcases hsl with e | e <;> exact (List.getElem?_eq_some_iff.mp e).1
  have free : Free G a ∨ G.pa a := by
    obtain ⟨b, h1, _, q⟩ := er.own_of h
    rw [ha] at h1
    have : a = b := V.ref.inj (Option.some.inj (Option.some.inj h1))
    subst this
    exact q
  have hne : ∀ b u, G.H0 b = some u → ¬ G.pa b → ¬ G.fr b → b ≠ a := fun b u e n m z => by
    subst z
    rcases free with (q | q) | q
    · rw [q] at e; cases e
    · exact m q
    · exact n q
  have oth : ∀ (j : Nat) (s : Sl) (b : Addr), j ≠ i → ρ[j]? = some s → owns s = true → σ[j]? = some (some (.ref b)) → b ≠ a := fun j s b c e os hb z => by
    subst z
    rcases hsl with e2 | e2 <;> exact c (er.inj j i _ _ e e2 os rfl (hb.trans ha.symm))
  refine ⟨fun b u e => by rw [upd_ne (ne_of_none e hf)]; exact er.sub b u e, er.f0, fun b u e n m => by rw [upd_ne (hne b u e n m)]; exact er.h0 b u e n m, fun b e => ?_, er.nf, fun j s e => ?_, fun j k s t ej ek os ot eq => ?_, ?_⟩
  · by_cases z : b = a
    · subst z; rw [upd_same]; simp
    · rw [upd_ne z]; exact er.live b e
  · unfold putC at e
    by_cases z : j = i
    · subst z
      rw [set_self hi] at e
      have e := (Option.some.inj e).symm
      rcases hsl with e2 | e2
      · rw [e2] at e
        have e : s = .own c' := e
        subst e
        obtain ⟨b, h1, q, _⟩ := er.slot j _ e2
        rw [ha] at h1
        have : a = b := V.ref.inj (Option.some.inj (Option.some.inj h1))
        subst this
        exact ⟨a, ha, q, hf, ho⟩
      · rw [e2] at e
        have e : s = .par c' := e
        subst e
        obtain ⟨b, h1, q, _⟩ := er.slot j _ e2
        rw [ha] at h1
        have : a = b := V.ref.inj (Option.some.inj (Option.some.inj h1))
        subst this
        exact ⟨a, ha, q, hf, ho⟩
    · rw [List.getElem?_set_ne (Ne.symm z)] at e
      have hs := er.slot j s e
      cases s with
      | no => trivial
      | val d => exact hs
      | own d => obtain ⟨b, h1, q, r⟩ := hs; exact ⟨b, h1, q, r.mono (Ext.refl F) (upd_ne (oth j _ b z e rfl h1)) r.1⟩
      | par d => obtain ⟨b, h1, q, r⟩ := hs; exact ⟨b, h1, q, r.mono (Ext.refl F) (upd_ne (oth j _ b z e rfl h1)) r.1⟩
  · have key : ∀ (l : Nat) (u : Sl), (putC ρ i c')[l]? = some u → owns u = true → ∃ u0, ρ[l]? = some u0 ∧ owns u0 = true := fun l u e o => by
      unfold putC at e
      by_cases z : l = i
      · subst z
        rcases hsl with e2 | e2
        · exact ⟨_, e2, rfl⟩
        · exact ⟨_, e2, rfl⟩
      · rw [List.getElem?_set_ne (Ne.symm z)] at e
        exact ⟨u, e, o⟩
    obtain ⟨s0, h0, o0⟩ := key j s ej os
    obtain ⟨t0, h1, o1⟩ := key k t ek ot
    exact er.inj j k s0 t0 h0 h1 o0 o1 eq
  · unfold putC
    rw [List.length_set]; exact er.len
/-- a method of an owned thing: its content and the answer -/
def MtO (K : PySem.W.Frag) (cm : Str → Option Addr) (r : V → List V → Hp → VK → Prop) (g : D → List D → Option (D × D)) : Prop :=
  ∀ (F H : Hp) (a : Addr) (c c' d : D) (ds : List D) (vs : List V), Same F H → F a = none → OwnAt K cm F H a c → Rps K cm F ds vs → g c ds = some (c', d) → ∀ Q : VK, (∀ o v, OwnAt K cm F (upd H a o) a c' → Rp K cm F d v → Q v (upd H a o)) → r (.ref a) vs H Q
def ownT : D → Option String
  | .lst _ => some "list"
  | .dk _ => some "dict"
  | .dt _ => some "dict"
  | _ => none
theorem tyV_own {K : PySem.W.Frag} {F H : Hp} {a : Addr} {c : D} {T : String} (h : OwnAt K cm F H a c) (e : ownT c = some T) : tyV K T (.ref a) H := by
  cases c with
  | lst ds => cases e; obtain ⟨xs, h, _⟩ := h; exact .inl ⟨rfl, xs, SqL.of h⟩
  | dk ds => cases e; obtain ⟨xs, h, _⟩ := h; exact .inr (.inr (.inl ⟨rfl, .inl ⟨xs, h⟩⟩))
  | dt ds => cases e; obtain ⟨xs, h, _⟩ := h; exact .inr (.inr (.inl ⟨rfl, .inr ⟨xs, h⟩⟩))
  | _ => cases e
/-- slot i is an owned T; then the arguments; then the method -/
def ownM (i : Nat) (T : String) (g : D → List D → Option (D × D)) (fds : M (List D)) : M D := fun ρ => match (res ρ (.s i)).bind ownT with
  | none => none
  | some T' => if T' = T then M.bind fds (fun ds ρ => (res ρ (.s i)).bind fun c => (g c ds).bind fun p => some (.ok p.2, putC ρ i p.1)) ρ else none
theorem jd_ownM {T : String} {rm : V → List V → Hp → VK → Prop} {g : D → List D → Option (D × D)} {t : TA} (i : Nat) (hm : MtO X.K cm rm g) (j : Jd X cm W (rVs X.K cm) t fds) :
    Jd X cm W (rV X.K cm) (fun σ H Q => tVar i σ H fun x H1 => tyV X.K T x H1 ∧ t σ H1 fun xs H2 => rm x xs H2 Q) (ownM i T g fds) := by
  intro G F H σ ρ r ρ' er _ hf Q hQ
  unfold ownM at hf
  cases q : (res ρ (.s i)).bind ownT with
  | none => rw [q] at hf; cases hf
  | some T' =>
    rw [q] at hf
    have hf : (if T' = T then M.bind fds (fun ds ρ => (res ρ (.s i)).bind fun c => (g c ds).bind fun p => some (R.ok p.2, putC ρ i p.1)) ρ else none) = some (r, ρ') := hf
    by_cases c : T' = T
    · rw [if_pos c] at hf
      have hf0 := hf
      subst c
      cases q0 : res ρ (.s i) with
      | none => rw [q0] at q; cases q
      | some c0 =>
        rw [q0] at q
        obtain ⟨a, ha, ow, _⟩ := er.own_of q0
        refine ⟨.ref a, ha, tyV_own ow.2 q, ?_⟩
        refine JdP.bindS (P := fun _ _ _ σ _ => σ[i]? = some (some (.ref a))) (rel1 := rVs X.K cm) (rel2 := rV X.K cm) (t1 := t) (t2 := fun xs σ H2 Q => rm (.ref a) xs H2 Q) (fun _ _ _ _ _ _ _ _ h _ => h) (j.weak fun _ _ _ _ _ _ => trivial) (fun ds vs => ?_) G F H σ ρ r ρ' er ha hf0 Q hQ
        intro G F H σ ρ r ρ' er hp hf Q hQ
        obtain ⟨ha, hv⟩ := hp
        have hf : ((res ρ (.s i)).bind fun c => (g c ds).bind fun p => some (R.ok p.2, putC ρ i p.1)) = some (r, ρ') := hf
        cases e1 : res ρ (.s i) with
        | none => rw [e1] at hf; cases hf
        | some c =>
          rw [e1] at hf
          have hf : ((g c ds).bind fun p => some (R.ok p.2, putC ρ i p.1)) = some (r, ρ') := hf
          cases e2 : g c ds with
          | none => rw [e2] at hf; cases hf
          | some p =>
            obtain ⟨c', d⟩ := p
            rw [e2] at hf; cases hf
            obtain ⟨b, hb, ow, _⟩ := er.own_of e1
            rw [ha] at hb
            have : a = b := V.ref.inj (Option.some.inj (Option.some.inj hb))
            subst this
            exact hm F H a c c' d ds vs er.sub ow.1 ow.2 hv e2 Q fun o v ho rv => hQ F (upd H a o) (er.write e1 ha ow.1 ho) (Ext.refl F) v rv
    · rw [if_neg c] at hf; cases hf
theorem pd_ownM {T id : String} {name : Str} {apos cpos xp : Pos} {r : V → List V → Hp → VK → Prop} {g : D → List D → Option (D × D)} {es : List Expr} (i : Nat) (pa : PlainAttrs T) (slot : Slot T name id) (hty : typeOf (.builtin id) = pure (.type "method_descriptor")) (hm : MtR X id r) (hd : MtO X.K cm r g) (ha : PVs X cm W (e :: es) fds)
    (hN : X.N[i]? = some x := by rfl) (hv : Vis X.env.scope x := by first | exact Or.inl rfl | exact Or.inr (Or.inl rfl) | exact Or.inr (Or.inr rfl)) (hdb : (x == ("__debug__" : Str)) = false := by decide) (hcd : (x == ("__classdict__" : Str)) = false := by decide)
    (hbase : attributeBase (.Name x xp) name X.env (eval (.Name x xp) X.env) = eval (.Name x xp) X.env := by rfl)
    (hfew : ((backTo cpos (starEach (e :: es) X.env)).all (fun x => !x.1) && (backToKw cpos (keywordEach [] X.env)).all (fun x => x.1.isSome)
      && decide ((e :: es).length + ([] : List Keyword).length + (if ([] : List Keyword).isEmpty then 0 else 1) < 30)) = true := by rfl)
    (hline : (apos.endLine == cpos.line) = true := by rfl) (hs : starEach (e :: es) X.env = (false, eval e X.env) :: starEach es X.env := by rfl) (hplain : (backTo cpos (starEach es X.env)).any (·.1) = false := by rfl) :
    PD X cm W (.Call (.Attribute (.Name x xp) name apos) (e :: es) [] cpos) (ownM i T g fds) := by
  obtain ⟨t, p, j⟩ := ha
  exact ⟨_, pe_bm pa slot hty hm (pe_var hN hv hdb hcd) p hbase hfew hline hs hplain, jd_ownM i hd j⟩
theorem pd_ownM0 {T id : String} {name : Str} {apos cpos xp : Pos} {r : V → List V → Hp → VK → Prop} {g : D → List D → Option (D × D)} (i : Nat) (pa : PlainAttrs T) (slot : Slot T name id) (hty : typeOf (.builtin id) = pure (.type "method_descriptor")) (hm : MtR X id r) (hd : MtO X.K cm r g)
    (hN : X.N[i]? = some x := by rfl) (hv : Vis X.env.scope x := by first | exact Or.inl rfl | exact Or.inr (Or.inl rfl) | exact Or.inr (Or.inr rfl)) (hdb : (x == ("__debug__" : Str)) = false := by decide) (hcd : (x == ("__classdict__" : Str)) = false := by decide)
    (hbase : attributeBase (.Name x xp) name X.env (eval (.Name x xp) X.env) = eval (.Name x xp) X.env := by rfl) (hline : (apos.endLine == cpos.line) = true := by rfl) :
    PD X cm W (.Call (.Attribute (.Name x xp) name apos) [] [] cpos) (ownM i T g (M.ret [])) := by
  refine ⟨_, pe_bm0 pa slot hty hm (pe_var hN hv hdb hcd) hbase hline, ?_⟩
  have := jd_ownM (X := X) (cm := cm) (W := W) (T := T) (fds := M.ret []) (t := tNil) i hd (fun G F H σ ρ r ρ' er _ hf Q hQ => by
    cases hf
    exact hQ F H er (Ext.refl F) [] .nil)
  exact this
end
/-! ### the methods of lists -/
def appendG : D → List D → Option (D × D)
  | .lst ds, [d] => if ds.length < sizeLine then some (.lst (ds ++ [d]), .non) else none
  | _, _ => none
def popG : D → List D → Option (D × D)
  | .lst ds, [] => (ds[ds.length - 1]?).map fun d => (.lst ds.dropLast, d)
  | _, _ => none
def popAtG : D → List D → Option (D × D)
  | .lst ds, [.int i] => if -(2 ^ 63) ≤ i ∧ i < 2 ^ 63 then (seqIndex? i ds.length).bind fun k => (ds[k]?).map fun d => (.lst (ds.eraseIdx k), d) else none
  | _, _ => none
def extendG : D → List D → Option (D × D)
  | .lst ds, [.lst es] => if ds.length + es.length ≤ sizeLine then some (.lst (ds ++ es), .non) else none
  | _, _ => none
section
variable {K : PySem.W.Frag} {cm : Str → Option Addr}
theorem Rps.dropLast {F : Hp} : ∀ {ds : List D} {vs : List V}, Rps K cm F ds vs → Rps K cm F ds.dropLast vs.dropLast
  | _, _, .nil => .nil
  | _, _, .cons h .nil => .nil
  | _, _, .cons h (.cons h2 r) => .cons h (Rps.dropLast (.cons h2 r))
theorem Rps.eraseIdx {F : Hp} : ∀ {ds : List D} {vs : List V} (k : Nat), Rps K cm F ds vs → Rps K cm F (ds.eraseIdx k) (vs.eraseIdx k)
  | _, _, _, .nil => .nil
  | _, _, 0, .cons h r => r
  | _, _, k + 1, .cons h r => .cons h (Rps.eraseIdx k r)
theorem mo_append : MtO K cm rAppend appendG := by
  intro F H a c c' d ds vs s hf ho hv hg Q k
  match c, ds, hg, ho, hv with
  | .lst es, [x], hg, ⟨xs, h1, r1⟩, .cons hx .nil =>
    have hg : (if es.length < sizeLine then some (D.lst (es ++ [x]), D.non) else none) = some (c', d) := hg
    by_cases c : es.length < sizeLine
    · rw [if_pos c] at hg; cases hg
      exact ⟨a, xs, _, rfl, rfl, h1, by rw [← r1.length]; exact c, k _ _ ⟨_, upd_same, r1.append (.cons hx .nil)⟩ .non⟩
    · rw [if_neg c] at hg; cases hg
theorem mo_pop : MtO K cm rPop popG := by
  intro F H a c c' d ds vs s hf ho hv hg Q k
  match c, ds, hg, ho, hv with
  | .lst es, [], hg, ⟨xs, h1, r1⟩, .nil =>
    have hg : (es[es.length - 1]?).map (fun d => (D.lst es.dropLast, d)) = some (c', d) := hg
    cases q : es[es.length - 1]? with
    | none => rw [q] at hg; cases hg
    | some x =>
      rw [q] at hg; cases hg
      obtain ⟨y, hy, ry⟩ := r1.getD q
      exact ⟨a, xs, y, rfl, rfl, h1, by rw [← r1.length]; exact hy, k _ _ ⟨_, upd_same, r1.dropLast⟩ ry⟩
theorem mo_popAt : MtO K cm rPopAt popAtG := by
  intro F H a c c' d ds vs s hf ho hv hg Q k
  match c, ds, hg, ho, hv with
  | .lst es, [.int i], hg, ⟨xs, h1, r1⟩, .cons hx .nil =>
    have hg : (if -(2 ^ 63) ≤ i ∧ i < 2 ^ 63 then (seqIndex? i es.length).bind fun k => (es[k]?).map fun d => (D.lst (es.eraseIdx k), d) else none) = some (c', d) := hg
    by_cases c : -(2 ^ 63) ≤ i ∧ i < 2 ^ 63
    · rw [if_pos c] at hg
      cases q : seqIndex? i es.length with
      | none => rw [q] at hg; cases hg
      | some n =>
        rw [q] at hg
        have hg : (es[n]?).map (fun d => (D.lst (es.eraseIdx n), d)) = some (c', d) := hg
        cases q2 : es[n]? with
        | none => rw [q2] at hg; cases hg
        | some x =>
          rw [q2] at hg; cases hg
          cases hx
          obtain ⟨y, hy, ry⟩ := r1.getD q2
          exact ⟨a, xs, i, n, y, rfl, rfl, h1, c.1, c.2, by rw [← r1.length]; exact q, hy, k _ _ ⟨_, upd_same, r1.eraseIdx n⟩ ry⟩
    · rw [if_neg c] at hg; cases hg
theorem mo_extend : MtO K cm rExtend extendG := by
  intro F H a c c' d ds vs s hf ho hv hg Q k
  match c, ds, hg, ho, hv with
  | .lst es, [.lst gs], hg, ⟨xs, h1, r1⟩, .cons hx .nil =>
    have hg : (if es.length + gs.length ≤ sizeLine then some (D.lst (es ++ gs), D.non) else none) = some (c', d) := hg
    by_cases c : es.length + gs.length ≤ sizeLine
    · rw [if_pos c] at hg; cases hg
      cases hx with
      | lst h2 r2 => exact ⟨a, _, xs, _, rfl, rfl, h1, s _ _ h2, by rw [← r1.length, ← r2.length]; exact c, k _ _ ⟨_, upd_same, r1.append r2⟩ .non⟩
    · rw [if_neg c] at hg; cases hg
end
/-! ### xs[i] = e -/
section
variable {X : Cx} {cm : Str → Option Addr} {W : WX} {pos : Pos} {e ie : Expr} {fe fi : M D} {x : Str}
def storeS (i : Nat) (g : D → D → D → Option D) (fe fi : M D) : SM := exps fe fun d ρ => match res ρ (.s i) with
  | none => none
  | some _ => exps fi (fun k ρ1 => (res ρ1 (.s i)).bind fun c => (g c k d).bind fun c' => some (.nx, putC ρ1 i c')) ρ
/-- the content behind a store -/
def StO (K : PySem.W.Frag) (cm : Str → Option Addr) (rset : TSet) (g : D → D → D → Option D) : Prop :=
  ∀ (F H : Hp) (a : Addr) (c c' k d : D) (kv v : V), Same F H → F a = none → OwnAt K cm F H a c → Rp K cm F k kv → Rp K cm F d v → g c k d = some c' → ∀ Q : Hp → Prop, (∀ o, OwnAt K cm F (upd H a o) a c' → Q (upd H a o)) → rset (.ref a) kv v H Q
def setLG : D → D → D → Option D
  | .lst ds, .int j, d => (ixN ds.length j).map fun n => .lst (ds.set n d)
  | _, _, _ => none
theorem so_list {K : PySem.W.Frag} : StO K cm rSetL setLG := by
  intro F H a c c' k d kv v s hf ho hk hd hg Q kk
  match c, k, hg, ho, hk with
  | .lst es, .int j, hg, ⟨xs, h1, r1⟩, .int _ =>
    have hg : (ixN es.length j).map (fun n => D.lst (es.set n d)) = some c' := hg
    cases q : ixN es.length j with
    | none => rw [q] at hg; cases hg
    | some n =>
      rw [q] at hg; cases hg
      exact ⟨a, xs, j, n, rfl, rfl, h1, by rw [← r1.length]; exact q, kk _ ⟨_, upd_same, Rps.set hd n r1⟩⟩
theorem jst_store {te ti : TE} {rset : TSet} {g : D → D → D → Option D} (i : Nat) (je : Jd X cm W (rV X.K cm) te fe) (ji : Jd X cm W (rV X.K cm) ti fi) (hg : StO X.K cm rset g) :
    Jst X cm W (fun D σ H => te σ H fun v H1 => tVar i σ H1 fun ov H2 => ti σ H2 fun k H3 => rset ov k v H3 fun H4 => D.nx σ H4) (storeS i g fe fi) := by
  unfold storeS
  refine jst_exp (t2 := fun v D σ H1 => tVar i σ H1 fun ov H2 => ti σ H2 fun k H3 => rset ov k v H3 fun H4 => D.nx σ H4) je fun d v G F H σ ρ r ρ' er hv hk D hD => ?_
  have hv : Rp X.K cm F d v := hv
  cases q0 : res ρ (.s i) with
  | none => rw [q0] at hk; cases hk
  | some c0 =>
    rw [q0] at hk
    have hk : exps fi (fun k ρ1 => (res ρ1 (.s i)).bind fun c => (g c k d).bind fun c' => some (SR.nx, putC ρ1 i c')) ρ = some (r, ρ') := hk
    obtain ⟨a, ha, _, _⟩ := er.own_of q0
    refine ⟨.ref a, ha, ?_⟩
    unfold exps at hk
    cases q : fi ρ with
    | none => rw [q] at hk; cases hk
    | some pr =>
      obtain ⟨ri, ρ1⟩ := pr
      rw [q] at hk
      refine ji G F H σ ρ ri ρ1 er trivial q _ fun F1 H1 er1 x1 => ?_
      cases ri with
      | exc z => cases hk; exact hD F1 H1 σ er1 x1
      | ok k =>
        intro kv hkv
        have hkv : Rp X.K cm F1 k kv := hkv
        have hk : ((res ρ1 (.s i)).bind fun c => (g c k d).bind fun c' => some (SR.nx, putC ρ1 i c')) = some (r, ρ') := hk
        cases e1 : res ρ1 (.s i) with
        | none => rw [e1] at hk; cases hk
        | some c =>
          rw [e1] at hk
          have hk : ((g c k d).bind fun c' => some (SR.nx, putC ρ1 i c')) = some (r, ρ') := hk
          cases e2 : g c k d with
          | none => rw [e2] at hk; cases hk
          | some c' =>
            rw [e2] at hk; cases hk
            obtain ⟨b, hb, ow, _⟩ := er1.own_of e1
            rw [ha] at hb
            have : a = b := V.ref.inj (Option.some.inj (Option.some.inj hb))
            subst this
            exact hg F1 H1 a c c' k d kv v er1.sub ow.1 ow.2 hkv (hv.ext x1) e2 _ fun o ho => hD F1 (upd H1 a o) σ (er1.write e1 ha ow.1 ho) x1
theorem psd_setIx {pos' xp : Pos} (i : Nat) (he : PD X cm W e fe) (hi : PD X cm W ie fi) (hN : X.N[i]? = some x := by rfl) (hv : Vis X.env.scope x := by first | exact Or.inl rfl | exact Or.inr (Or.inl rfl) | exact Or.inr (Or.inr rfl)) (hdb : (x == ("__debug__" : Str)) = false := by decide) (hcd : (x == ("__classdict__" : Str)) = false := by decide)
    (hp : ∀ {to ti : TE}, PE X (.Name x xp) to → PE X ie ti → PG X (.Subscript (.Name x xp) ie pos') (gSub to ti rSetL) := by intro _ _ ho hi; exact pg_sub ho hi set_list)
    (hs : swapsWithSole [.Subscript (.Name x xp) ie pos'] e pos.line X.env = pure false := by rfl) (hw : swappedStores [.Subscript (.Name x xp) ie pos'] e X.env = pure none := by rfl)
    (h1 : (assignEach [.Subscript (.Name x xp) ie pos'] X.env).map (·.2) = [assign (.Subscript (.Name x xp) ie pos') X.env] := by rfl) :
    PSd X cm W (.Assign [.Subscript (.Name x xp) ie pos'] e pos) (storeS i setLG fe fi) := by
  obtain ⟨te, pe, je⟩ := he
  obtain ⟨ti, pi, ji⟩ := hi
  exact ⟨_, ps_asg pe (hp (pe_var hN hv hdb hcd) pi) hs hw h1, jst_store i je ji so_list⟩
/-! ### sep.join(list of texts) -/
def strsOf : List D → Option (List Str)
  | [] => some []
  | .str b :: ds => (strsOf ds).map fun bs => b :: bs
  | _ => none
theorem strsOf_rps {K : PySem.W.Frag} {F : Hp} : ∀ {ds : List D} {vs : List V} {bs : List Str}, Rps K cm F ds vs → strsOf ds = some bs → vs = bs.map V.str
  | _, _, _, .nil, e => by cases e; rfl
  | .str b :: ds, _, bs, .cons h r, e => by
    have e : ((strsOf ds).map fun bs => b :: bs) = some bs := e
    cases q : strsOf ds with
    | none => rw [q] at e; cases e
    | some cs => rw [q] at e; cases e; cases h; rw [strsOf_rps r q]; rfl
def joinG : D → D → Option D
  | .str a, d => (seqOf d).bind fun ds => (strsOf ds).bind fun ys => if (ys.map (·.length)).sum + ys.length * a.length ≤ 16777216 then some (.str (Txt.join a ys)) else none
  | _, _ => none
def joinD (f : M D) (g : M Op) : M D := M.bind f fun s => match s with
  | .str a => M.bind g fun o ρ => (res ρ o).bind fun d => (joinG (.str a) d).bind fun z => some (.ok z, ρ)
  | _ => M.fail
theorem pd_join {apos : Pos} {o : Expr} {fs : M D} {fo : M Op} (ho : PD X cm W o fs) (he : PO X cm W e fo) (hs : starEach [e] X.env = [(false, eval e X.env)] := by rfl) (hbase : attributeBase o "join" X.env (eval o X.env) = eval o X.env := by rfl) (hline : (apos.endLine == pos.line) = true := by rfl) :
    PD X cm W (.Call (.Attribute o "join" apos) [e] [] pos) (joinD fs fo) := by
  obtain ⟨t, p, j⟩ := ho
  obtain ⟨u, p2, j2⟩ := he
  refine ⟨_, pe_join p p2 hs hbase hline, ?_⟩
  unfold joinD
  refine JdP.bindS (rel1 := rV X.K cm) (t1 := t) (t2 := fun x σ H Q => (∃ z, x = V.str z) ∧ u σ H fun y H2 => ∃ a p, ∃ ys : List Str, x = .str a ∧ [y] = [V.ref p] ∧ (SqL X.K H2 p (ys.map V.str) ∨ SqT X.K H2 p (ys.map V.str)) ∧
      (ys.map (·.length)).sum + ys.length * a.length ≤ 16777216 ∧ Q (V.str (Txt.join a ys)) H2) stable_true j fun s x => ?_
  intro G F H σ ρ r ρ' er hp hf Q hQ
  obtain ⟨_, hr⟩ := hp
  cases s with
  | str a =>
    cases hr
    refine ⟨⟨a, rfl⟩, ?_⟩
    refine JdP.bindS (P := fun _ _ _ _ _ => True) (rel1 := rO X.K cm) (rel2 := rV X.K cm) (t1 := u) (t2 := fun y σ H2 Q => ∃ a' p, ∃ ys : List Str, V.str a = .str a' ∧ [y] = [V.ref p] ∧ (SqL X.K H2 p (ys.map V.str) ∨ SqT X.K H2 p (ys.map V.str)) ∧
      (ys.map (·.length)).sum + ys.length * a'.length ≤ 16777216 ∧ Q (V.str (Txt.join a' ys)) H2) stable_true j2 (fun o y => ?_) G F H σ ρ r ρ' er trivial hf Q hQ
    refine jd_fin fun G F H σ ρ r ρ' er hp hf => ?_
    obtain ⟨_, ho⟩ := hp
    have hf : ((res ρ o).bind fun d => (joinG (.str a) d).bind fun z => some (R.ok z, ρ)) = some (r, ρ') := hf
    cases e1 : res ρ o with
    | none => rw [e1] at hf; cases hf
    | some d =>
      rw [e1] at hf
      have hf : ((joinG (.str a) d).bind fun z => some (R.ok z, ρ)) = some (r, ρ') := hf
      cases e2 : joinG (.str a) d with
      | none => rw [e2] at hf; cases hf
      | some z =>
        rw [e2] at hf; cases hf
        have e2 : ((seqOf d).bind fun ds => (strsOf ds).bind fun ys => if (ys.map (·.length)).sum + ys.length * a.length ≤ 16777216 then some (D.str (Txt.join a ys)) else none) = some z := e2
        cases e3 : seqOf d with
        | none => rw [e3] at e2; cases e2
        | some ds =>
          rw [e3] at e2
          have e2 : ((strsOf ds).bind fun ys => if (ys.map (·.length)).sum + ys.length * a.length ≤ 16777216 then some (D.str (Txt.join a ys)) else none) = some z := e2
          cases e4 : strsOf ds with
          | none => rw [e4] at e2; cases e2
          | some ys =>
            rw [e4] at e2
            have e2 : (if (ys.map (·.length)).sum + ys.length * a.length ≤ 16777216 then some (D.str (Txt.join a ys)) else none) = some z := e2
            by_cases c : (ys.map (·.length)).sum + ys.length * a.length ≤ 16777216
            · rw [if_pos c] at e2; cases e2
              obtain ⟨b, xs, rfl, h1, r⟩ := (rO_res ho (Ext.refl F) er e1).seq er.sub e3
              rw [strsOf_rps r e4] at h1
              exact ⟨_, rfl, rfl, fun Q k => ⟨a, b, ys, rfl, rfl, h1, c, k F H _ (Grow.refl er.sub) (.str _)⟩⟩
            · rw [if_neg c] at e2; cases e2
  | _ => cases hf
end
end Pd

/-! Pd10: is of bools, in among nested data, list(range(..)), defs with a star. -/
namespace Pd
open PySem PySem.Spec L2
open PyProof.Rows (envOfC)

section
variable {K : PySem.W.Frag} {cm : Str → Option Addr}
def isBG : D → D → Option D
  | .bl a, .bl b => some (.bl (decide (a = b)))
  | _, _ => none
theorem od_isB : OpD K cm rIsB isBG := by
  intro F H x y dx dy d s hx hy hg Q k
  cases dx with
  | bl i => cases dy with
    | bl j => cases hg; exact ⟨i, j, hx.bl, hy.bl, k F H _ (Grow.refl s) (.bl _)⟩
    | _ => cases hg
  | _ => cases dy <;> cases hg
/-- x in a list of nested data -/
def inDB (x y : D) : Option Bool := match lisOf y with
  | none => none
  | some l => (toPy x).bind fun p => (toPys l).bind fun ps => if SeqAt.shaped p = true ∧ SeqAt.shaped (.list ps) = true then some (ps.any fun z => PyData.eqv z p) else none
def inDG (x y : D) : Option D := (inDB x y).map .bl
def notInDG (x y : D) : Option D := (inDB x y).map fun k => .bl (!k)
theorem inDB_case {F H : Hp} {x y : V} {dx dy : D} {b : Bool} (s : Same F H) (hx : Rv K cm F H dx x) (hy : Rv K cm F H dy y) (h : inDB dx dy = some b) :
    ∃ d ds, Dp K H x d ∧ Dp K H y (.list ds) ∧ SeqAt.shaped d = true ∧ SeqAt.shaped (.list ds) = true ∧ b = ds.any fun z => PyData.eqv z d := by
  unfold inDB at h
  cases q : lisOf dy with
  | none => rw [q] at h; cases h
  | some l =>
    rw [q] at h
    have h : ((toPy dx).bind fun p => (toPys l).bind fun ps => if SeqAt.shaped p = true ∧ SeqAt.shaped (.list ps) = true then some (ps.any fun z => PyData.eqv z p) else none) = some b := h
    cases q1 : toPy dx with
    | none => rw [q1] at h; cases h
    | some p =>
      rw [q1] at h
      have h : ((toPys l).bind fun ps => if SeqAt.shaped p = true ∧ SeqAt.shaped (.list ps) = true then some (ps.any fun z => PyData.eqv z p) else none) = some b := h
      cases q2 : toPys l with
      | none => rw [q2] at h; cases h
      | some ps =>
        rw [q2] at h
        have h : (if SeqAt.shaped p = true ∧ SeqAt.shaped (.list ps) = true then some (ps.any fun z => PyData.eqv z p) else none) = some b := h
        by_cases c : SeqAt.shaped p = true ∧ SeqAt.shaped (.list ps) = true
        · rw [if_pos c] at h; cases h
          refine ⟨p, ps, hx.dp s q1, hy.dp s ?_, c.1, c.2, rfl⟩
          cases dy with
          | lst es => cases q; show (toPys l).map PyData.list = _; rw [q2]; rfl
          | frl es => cases q; show (toPys l).map PyData.list = _; rw [q2]; rfl
          | _ => cases q
        · rw [if_neg c] at h; cases h
theorem od_inD : OpD K cm (L2.rInD K) inDG := by
  intro F H x y dx dy d s hx hy hg Q k
  unfold inDG at hg
  cases e : inDB dx dy with
  | none => rw [e] at hg; cases hg
  | some b =>
    rw [e] at hg; cases hg
    have k' := k F H _ (Grow.refl s) (.bl b)
    obtain ⟨p, ps, h1, h2, h3, h4, rfl⟩ := inDB_case s hx hy e
    exact ⟨p, ps, h1, h2, h3, h4, k'⟩
theorem od_notInD : OpD K cm (L2.rNotInD K) notInDG := by
  intro F H x y dx dy d s hx hy hg Q k
  unfold notInDG at hg
  cases e : inDB dx dy with
  | none => rw [e] at hg; cases hg
  | some b =>
    rw [e] at hg; cases hg
    have k' := k F H _ (Grow.refl s) (.bl (!b))
    obtain ⟨p, ps, h1, h2, h3, h4, rfl⟩ := inDB_case s hx hy e
    exact ⟨p, ps, h1, h2, h3, h4, k'⟩
end
theorem room65 {k : Nat} {A : Around} (r : Room k A) : A.units + 65 < cLine := by have := r.un; omega
/-! ### list(range(a, b)) -/
section
variable {X : Cx} {cm : Str → Option Addr} {W : WX} {pos p q pos2 : Pos} {a b e : Expr} {fa fb : M D} {es : List Expr}
def rangeL (fa fb : M D) : M D := M.bind fa fun x => M.bind fb fun y => match x, y with
  | .int i, .int j => if -(2 ^ 62) ≤ i ∧ i < 2 ^ 62 ∧ -(2 ^ 62) ≤ j ∧ j < 2 ^ 62 ∧ (j - i).toNat ≤ 2 ^ 24 then M.ret (.lst (rngI i (j - i).toNat)) else M.fail
  | _, _ => M.fail
theorem rngI_rps {K : PySem.W.Frag} {F : Hp} (i j : Int) : Rps K cm F (rngI i (j - i).toNat) (rgV i j) := by
  unfold rngI rgV
  generalize List.range (j - i).toNat = l
  induction l with
  | nil => exact .nil
  | cons x r ih => exact .cons (.int _) ih
theorem pf_listRange (hc : X.calm = true) (hg : Gl X "list") (hm : X.mg "list" = none) (hg2 : Gl X "range") (hm2 : X.mg "range" = none) (ha : PD X cm W a fa) (hb : PD X cm W b fb)
    (na : starEach [a, b] X.env = (false, eval a X.env) :: starEach [b] X.env := by rfl) (nb : starEach [b] X.env = (false, eval b X.env) :: starEach [] X.env := by rfl) (hp : (backTo pos2 (starEach [b] X.env)).any (·.1) = false := by rfl)
    (nl : starEach [.Call (.Name "range" q) [a, b] [] pos2] X.env = (false, eval (.Call (.Name "range" q) [a, b] [] pos2) X.env) :: starEach [] X.env := by rfl) :
    PF X cm W (.Call (.Name "list" p) [.Call (.Name "range" q) [a, b] [] pos2] [] pos) (rangeL fa fb) := by
  obtain ⟨ta, pa, ja⟩ := ha
  obtain ⟨tb, pb, jb⟩ := hb
  refine ⟨_, pe_listRg hc hg hm (prg_2 hg2 hm2 pa pb na nb hp) nl, ?_⟩
  unfold rangeL
  refine JdP.bindS (rel1 := rV X.K cm) (t1 := ta) (t2 := fun x σ H1 Q => tb σ H1 fun y H2 => ∃ i j, x = V.int i ∧ y = V.int j ∧ (RgOk i j ∧ ∀ q, H2 q = none → Q (V.ref q) (upd H2 q (.lst (rgV i j))))) stable_true ja fun dx x => ?_
  refine JdP.bindS (rel1 := rV X.K cm) (t1 := tb) (t2 := fun y σ H2 Q => ∃ i j, x = V.int i ∧ y = V.int j ∧ (RgOk i j ∧ ∀ q, H2 q = none → Q (V.ref q) (upd H2 q (.lst (rgV i j))))) (stable_and stable_true stable_rV) (jb.weak fun _ _ _ _ _ _ => trivial) fun dy y => ?_
  refine jd_finF fun G F H σ ρ r ρ' er hp hf => ?_
  obtain ⟨⟨_, hx⟩, hy⟩ := hp
  have hx : Rp X.K cm F dx x := hx
  have hy : Rp X.K cm F dy y := hy
  match dx, dy, hx, hy, hf with
  | .int i, .int j, .int _, .int _, hf =>
    have hf : (if -(2 ^ 62) ≤ i ∧ i < 2 ^ 62 ∧ -(2 ^ 62) ≤ j ∧ j < 2 ^ 62 ∧ (j - i).toNat ≤ 2 ^ 24 then M.ret (D.lst (rngI i (j - i).toNat)) else M.fail) ρ = some (r, ρ') := hf
    by_cases c : -(2 ^ 62) ≤ i ∧ i < 2 ^ 62 ∧ -(2 ^ 62) ≤ j ∧ j < 2 ^ 62 ∧ (j - i).toNat ≤ 2 ^ 24
    · rw [if_pos c] at hf; cases hf
      exact ⟨_, rfl, rfl, fun Q k => ⟨i, j, rfl, rfl, c, fun q hq => k _ _ _ (Grow.newH er.sub hq) hq (er.sub.free hq) ⟨_, upd_same, rngI_rps i j⟩⟩⟩
    · rw [if_neg c] at hf; cases hf
end
end Pd

/-! Pd11: one promise for all defs; defs with a star. -/
namespace Pd
open PySem PySem.Spec L2
open PyProof.Rows (envOfC)

def spA (K : PySem.W.Frag) (cm : Str → Option Addr) (m : FD) : Sp := fun vs H Q E => spD K cm vs.length m vs H Q E
structure Good (m : FD) : Prop where
  tame : Tame m
theorem fnD_good (np n : Nat) (g : SM) : Good (fnD np n g) := ⟨fnD_tame np n g⟩
abbrev Okf (P : Program) (w : World) (K : PySem.W.Frag) (mg : Str → Option Value) (base : Heap) (cm : Str → Option Addr) (k : Nat) (f : Addr) (m : FD) : Prop := FnR P w K mg base (L2.CX P w) k f (spA K cm m)
section
variable {P : Program} {w : World} {K : PySem.W.Frag} {mg : Str → Option Value} {base : Heap} {cm : Str → Option Addr}
theorem okf_of {f : Addr} {fd : FuncData} {ps : List Str} {k n : Nat} {g : SM} (F : FnOk P w K mg base (L2.CX P w) k f fd ps (spD K cm ps.length (fnD ps.length n g))) (hb : Binds K fd ps []) : Okf P w K mg base cm k f (fnD ps.length n g) := by
  refine (F.raw hb .nil).imp fun vs H Q E h => ?_
  obtain ⟨F0, ss, ss', r, pa, _, er, hm, hp⟩ := h
  have hl := fnD_len hm
  have h2 := er.len
  rw [List.length_map] at h2
  rw [List.append_nil]
  exact ⟨F0, ss, ss', r, pa, by rw [← h2]; exact hl, er, hm, hp⟩
theorem Okf.mono {j k : Nat} {f : Addr} {m : FD} (F : Okf P w K mg base cm j f m) (h : j ≤ k) : Okf P w K mg base cm k f m := FnR.mono F h
end
section
variable {X : Cx} {cm : Str → Option Addr} {W : WX} {pos p : Pos} {e : Expr} {es : List Expr} {fs : M (List Op)} {k : Nat} {f : Addr} {m : FD} {x : Str}
theorem run_fnRS {CX : CXT} {sp : Sp} {E : XK} {pins : List (Addr × Obj)} {s : Shared} {σ : St} {H : Hp} {Q : VK} {us : List Value} {vs : List V} (F : FnR X.prog X.w X.K X.mg X.base CX k f sp) (hr : Room k X.A) (hx : PassesAt CX X σ E) (I : Inv X pins σ H s) (r : Vals vs us) (h : sp vs H Q E) :
    wpAny (model X.prog X.w) X.A (call (.ref f) us) (EP X pins σ Q) X.xe s := by
  refine wpAny_call (codeAny_mono (F X.A X.stack s H us vs Q E hr I.env0 r h) fun r s' hq => ?_)
  cases r with
  | error e => exact hx pins H s e s' I hq
  | ok fl =>
    cases fl with
    | ret u => exact I.after hq
    | next => exact False.elim hq
    | brk => exact False.elim hq
    | cont => exact False.elim hq
theorem pe_callRS {CX : CXT} {sp : Sp} {E : St → XK} {t : TA} (F : FnR X.prog X.w X.K X.mg X.base CX k f sp) (hr : Room k X.A) (hg : Gl X x) (hm : X.mg x = some (.ref f)) (hk : PySem.W.keepIn X.K (.ref f) = true) (hx : ∀ σ, PassesAt CX X σ (E σ))
    (ha : PA X (e :: es) t) (hdb : (x == ("__debug__" : Str)) = false := by decide) (he : starEach (e :: es) X.env = (false, eval e X.env) :: starEach es X.env := by rfl) (hpl : (backTo pos (starEach es X.env)).any (·.1) = false := by rfl) :
    PE X (.Call (.Name x p) (e :: es) [] pos) (tCallS sp E t) := by
  refine ⟨fun pins s σ H Q I h => ?_⟩
  refine wpAny_Call_Name_kw (ld_glob I hg hm ?_ hdb)
  refine PySem.W.callWith_K (h₀ := X.base) I.ok.mod.kin hk (thn (ha.run pos pins s σ H _ I h) fun us s1 ⟨vs, H1, I1, r, q⟩ => ⟨I1.kIn, ?_⟩) he hpl
  exact run_fnRS F hr (hx σ) I1 r q
/-- a call of a def -/
theorem psl_callR (F : Okf X.prog X.w X.K X.mg X.base cm k f m) (hm : Good m) (tk : Takes X W) (hr : Room k X.A) (hg : Gl X x) (hmg : X.mg x = some (.ref f)) (hk : PySem.W.keepIn X.K (.ref f) = true)
    (ha : PAs X cm W (e :: es) fs) (hdb : (x == ("__debug__" : Str)) = false := by decide) (he : starEach (e :: es) X.env = (false, eval e X.env) :: starEach es X.env := by rfl) (hpl : (backTo pos (starEach es X.env)).any (·.1) = false := by rfl) :
    PSl X cm W (.Call (.Name x p) (e :: es) [] pos) (callS m fs) := by
  obtain ⟨t, pa, j⟩ := ha
  refine ⟨_, pe_callRS F hr hg hmg hk (fun σ => passAt tk σ) pa hdb he hpl, ?_⟩
  unfold callS
  refine JdP.bindS (rel1 := rOs X.K cm) (t1 := t) (t2 := fun vs σ H Q => spA X.K cm m vs H Q (WE W σ)) stable_true j fun os vs => ?_
  intro G F0 H σ ρ r ρ' er hp hf Q hQ
  have hv : Paired (rO X.K cm G F0 H σ ρ) os vs := hp.2
  by_cases c : ∃ ss p, argS ρ os = some ss ∧ m ss = some p
  · obtain ⟨ss, pr, qa, qm⟩ := c
    have hl : ss.length = vs.length := by rw [(argS_at qa).1]; exact paired_len hv
    -- the same run, of a def that takes so many
    let m' : FD := fun s => if s.length = vs.length then m s else none
    have hm' : Tame m' := fun s r s' h => by
      by_cases c : s.length = vs.length
      · exact hm.tame s r s' (by rw [← h]; exact (if_pos c).symm)
      · rw [show m' s = none from if_neg c] at h; cases h
    have hf' : callR m' os ρ = some (r, ρ') := by
      rw [← hf]
      show (callM m' os ρ).bind _ = (callM m os ρ).bind _
      have : callM m' os ρ = callM m os ρ := by
        unfold callM
        rw [qa]
        show (if (slotsOf os).Nodup then (m' ss).bind _ else none) = (if (slotsOf os).Nodup then (m ss).bind _ else none)
        rw [show m' ss = m ss from if_pos hl]
      rw [this]
    have z := jd_sp (X := X) (cm := cm) (W := W) (np := vs.length) (vs := vs) hm' (fun s pp h => by
      by_cases c : s.length = vs.length
      · exact c
      · rw [show m' s = none from if_neg c] at h; cases h) G F0 H σ ρ r ρ' er hv hf' Q hQ
    obtain ⟨F1, s1, s2, r1, pa1, h1, h2, h3, h4⟩ := z
    refine ⟨F1, s1, s2, r1, pa1, h1, h2, ?_, h4⟩
    by_cases c : s1.length = vs.length
    · rw [← h3]; exact (if_pos c).symm
    · rw [show m' s1 = none from if_neg c] at h3; cases h3
  · exfalso
    have hf : (callM m os ρ).bind (fun p => (toR p.1).map fun r => (r, p.2)) = some (r, ρ') := hf
    have q : callM m os ρ = none := by
      unfold callM
      cases qa : argS ρ os with
      | none => rfl
      | some ss =>
        show (if (slotsOf os).Nodup then (m ss).bind _ else none) = none
        cases qm : m ss with
        | none => by_cases c : (slotsOf os).Nodup <;> simp [c]
        | some pr => exact absurd ⟨ss, pr, qa, qm⟩ c
    rw [q] at hf; cases hf
end
/-! ### def f(a, .., *v) -/
def valsOf : List Sl → Option (List D)
  | [] => some []
  | .val d :: ss => (valsOf ss).map fun ds => d :: ds
  | _ => none
def starD (j : Nat) (m : FD) : FD := fun ss => (valsOf ss).bind fun ds => if j ≤ ds.length ∧ ds.length ≤ sizeLine then (m ((ds.take j).map .val ++ [.val (.tup (ds.drop j))])).bind fun p => some (p.1, ss) else none
theorem valsOf_at : ∀ {ss : List Sl} {ds : List D}, valsOf ss = some ds → ss = ds.map .val
  | [], ds, h => by cases h; rfl
  | .val d :: ss, ds, h => by
    have h : (valsOf ss).map (fun ds => d :: ds) = some ds := h
    cases q : valsOf ss with
    | none => rw [q] at h; cases h
    | some es => rw [q] at h; cases h; rw [valsOf_at q]; rfl
theorem starD_good {j : Nat} {m : FD} : Good (starD j m) := ⟨fun ss r ss' h => by
  have h : ((valsOf ss).bind fun ds => if j ≤ ds.length ∧ ds.length ≤ sizeLine then (m ((ds.take j).map .val ++ [.val (.tup (ds.drop j))])).bind fun p => some (p.1, ss) else none) = some (r, ss') := h
  cases q : valsOf ss with
  | none => rw [q] at h; cases h
  | some ds =>
    rw [q] at h
    have h : (if j ≤ ds.length ∧ ds.length ≤ sizeLine then (m ((ds.take j).map .val ++ [.val (.tup (ds.drop j))])).bind fun p => some (p.1, ss) else none) = some (r, ss') := h
    by_cases c : j ≤ ds.length ∧ ds.length ≤ sizeLine
    · rw [if_pos c] at h
      cases q2 : m ((ds.take j).map .val ++ [.val (.tup (ds.drop j))]) with
      | none => rw [q2] at h; cases h
      | some p =>
        rw [q2] at h; cases h
        refine ⟨rfl, fun k s e => .inl ?_⟩
        have := valsOf_at q
        rw [this, List.getElem?_map] at e
        cases q3 : ds[k]? with
        | none => rw [q3] at e; cases e
        | some d => rw [q3] at e; cases e; exact ⟨d, rfl, by rw [this, List.getElem?_map, q3]; rfl⟩
    · rw [if_neg c] at h; cases h⟩
section
variable {P : Program} {w : World} {K : PySem.W.Frag} {mg : Str → Option Value} {base : Heap} {cm : Str → Option Addr}
theorem er_vals {vs : List V} {ds : List D} {pa : Addr → Prop} {F H F' H' : Hp} (er : ER K cm (entry vs pa F H) F' H' (vs.map some) (ds.map .val)) : Rps K cm F' ds vs := by
  have hl := er.len
  rw [List.length_map, List.length_map] at hl
  have at_ : ∀ k d, ds[k]? = some d → ∃ v, vs[k]? = some v ∧ Rp K cm F' d v := fun k d e => by
    obtain ⟨v, h1, r⟩ := er.slot k (.val d) (by rw [List.getElem?_map, e]; rfl)
    rw [List.getElem?_map] at h1
    cases q : vs[k]? with
    | none => rw [q] at h1; cases h1
    | some u => rw [q] at h1; cases h1; first | exact ⟨_, rfl, r⟩ | exact ⟨_, q, r⟩
  clear er
  induction ds generalizing vs with
  | nil => cases vs with
    | nil => exact .nil
    | cons _ _ => cases hl
  | cons d ds ih => cases vs with
    | nil => cases hl
    | cons v vs =>
      obtain ⟨u, h1, r⟩ := at_ 0 d rfl
      cases h1
      exact .cons r (ih (by simpa using hl) fun k d e => by simpa using at_ (k + 1) d (by simpa using e))
theorem rps_at {F : Hp} : ∀ {ds : List D} {vs : List V} {k : Nat} {d : D}, Rps K cm F ds vs → ds[k]? = some d → ∃ v, vs[k]? = some v ∧ Rp K cm F d v := fun r h => r.getD h
theorem vals_er {vs : List V} {ds : List D} {pa : Addr → Prop} {F H F' H' : Hp} (r : Rps K cm F' ds vs) (sub : Same F' H') (f0 : Ext F F') (h0 : ∀ b o, H b = some o → ¬ pa b → H' b = some o) (live : ∀ b, H b ≠ none → H' b ≠ none) (nf : ∀ b, H b ≠ none → F b = none → F' b = none) :
    ER K cm (entry vs pa F H) F' H' (vs.map some) (ds.map .val) where
  sub := sub
  f0 := f0
  h0 := fun b o h n _ => h0 b o h n
  live := live
  nf := fun b h n _ => nf b h n
  slot := fun i s e => by
    rw [List.getElem?_map] at e
    cases q : ds[i]? with
    | none => rw [q] at e; cases e
    | some d =>
      rw [q] at e; cases e
      obtain ⟨v, h1, rv⟩ := r.getD q
      exact ⟨v, by rw [List.getElem?_map, h1]; rfl, rv⟩
  inj := fun i j s t e _ os _ _ => by
    rw [List.getElem?_map] at e
    cases q : ds[i]? with
    | none => rw [q] at e; cases e
    | some d => rw [q] at e; cases e; cases os
  len := by rw [List.length_map, List.length_map]; exact r.length
theorem live_up {F H : Hp} {p b : Addr} {o : HO} (gr : Grow F H (upd F p o) (upd H p o)) (h : H b ≠ none) : upd H p o b ≠ none := fun e => by
  cases z : H b with
  | none => exact h z
  | some q => rw [gr.h b q z] at e; cases e
theorem okf_star {x qual pv : Str} {st : Stmt} {f : Addr} {fd : FuncData} {N ps : List Str} {k : Nat} {g : SM} (F : Fun K x qual st f fd) (S : FnScope N (ps ++ [pv]) (defScope st))
    (hbd : ∀ (kV doc pm : Value) (an : Option Addr) (cdv ct : Value) (us rest : List Value), us.length = ps.length → bindArgs (PySem.W.fnOf x qual (defArgs st) (defBody st) (defScope st) .none kV doc pm an cdv ct) ⟨us ++ rest, []⟩ = (newTuple rest >>= fun t => pure (ps.zip us ++ [(pv, t)])))
    (hb : ∀ (cdv : Value) (A : Around) (outer : List PySem.Env) (s : Shared) (H : Hp) (E : XK), Room k (A.deeper (envOfC qual (defScope st) s.heap.objs.size f cdv)) →
      PSsd (cxOf (L2.CX P w) P w K mg base N qual (defScope st) f cdv A outer s H E) cm (fun cls d _ H => E cls d H) (defBody st) g) :
    Okf P w K mg base cm (k + 1) f (starD ps.length (fnD (ps.length + 1) N.length g)) := by
  obtain ⟨oc, od, kV, doc, pm, an, cdv, ct, osl, rfl, lk, hcd⟩ := F.ex
  have G := ok_def (P := P) (w := w) (mg := mg) (base := base) (cm := cm) F S hb
  have base1 := StX.fn_star (P := P) (w := w) (mg := mg) (base := base) (k := k) (pv := pv) (ps := ps) (sp := spD K cm (ps ++ [pv]).length (fnD (ps ++ [pv]).length N.length g)) (CX := L2.CX P w) lk hcd S StX.cxUp (fun us rest hl => hbd kV doc pm an cdv ct us rest hl) (fun A outer s H vs Q E hr h => by
    obtain ⟨F0, ss, ss', r, pa, hl, er, hm, hp⟩ := h
    obtain ⟨t, p, j⟩ := hb cdv A outer s H E hr
    refine ⟨t, p, ?_⟩
    have hm2 := hm
    unfold fnD at hm
    rw [if_pos (fnD_len hm2)] at hm
    cases q : g (ss ++ List.replicate (N.length - ss.length) .no) with
    | none => rw [q] at hm; cases hm
    | some pr =>
      obtain ⟨r1, ρ1⟩ := pr
      rw [q] at hm
      refine j (entry vs pa F0 H) F0 H (start N vs) _ r1 ρ1 er.enter q _ fun F' H' σ' er' x' => ?_
      cases r1 with
      | nx =>
        have hm : (backA ss ρ1).map (fun t => (SR.ret (.val .non), t)) = some (r, ss') := hm
        cases qb : backA ss ρ1 with
        | none => rw [qb] at hm; cases hm
        | some t => rw [qb] at hm; cases hm; exact hp F' H' (er.leave er' qb) .non .non
      | ret s =>
        have hm : (backA ss ρ1).map (fun t => (SR.ret s, t)) = some (r, ss') := hm
        cases qb : backA ss ρ1 with
        | none => rw [qb] at hm; cases hm
        | some t =>
          rw [qb] at hm; cases hm
          have hz := hp F' H' (er.leave er' qb)
          cases s with
          | no => exact hz
          | par d => exact hz
          | val d => exact hz
          | own d =>
            refine fun a ha => hz a ⟨ha.1, ha.2.1, fun i s e os z => ?_⟩
            obtain ⟨_, hat⟩ := backA_at qb
            rcases hat i s e with ⟨d, rfl, _⟩ | ⟨d, rfl, e1⟩
            · cases os
            · obtain ⟨b, h1, q, _⟩ := er'.slot i _ e1
              have q1 : vs[i]? = some (.ref b) := q.1
              rw [List.getElem?_map, q1] at z
              have : b = a := V.ref.inj (Option.some.inj (Option.some.inj z))
              subst this
              exact ha.2.2 i _ e1 rfl h1
      | exc x =>
        have hm : (backA ss ρ1).map (fun t => (SR.exc x, t)) = some (r, ss') := hm
        cases qb : backA ss ρ1 with
        | none => rw [qb] at hm; cases hm
        | some t => rw [qb] at hm; cases hm; exact hp F' H' (er.leave er' qb)
      | brk => cases hm
      | cnt => cases hm)
  refine FnR.imp base1 fun vs H Q E h => ?_
  obtain ⟨F0, ss, ss', r, pa, hl, er, hm, hp⟩ := h
  have hm : ((valsOf ss).bind fun ds => if ps.length ≤ ds.length ∧ ds.length ≤ sizeLine then (fnD (ps.length + 1) N.length g ((ds.take ps.length).map .val ++ [.val (.tup (ds.drop ps.length))])).bind fun p => some (p.1, ss) else none) = some (r, ss') := hm
  cases q : valsOf ss with
  | none => rw [q] at hm; cases hm
  | some ds =>
    rw [q] at hm
    have hm : (if ps.length ≤ ds.length ∧ ds.length ≤ sizeLine then (fnD (ps.length + 1) N.length g ((ds.take ps.length).map .val ++ [.val (.tup (ds.drop ps.length))])).bind fun p => some (p.1, ss) else none) = some (r, ss') := hm
    by_cases c : ps.length ≤ ds.length ∧ ds.length ≤ sizeLine
    · rw [if_pos c] at hm
      cases q2 : fnD (ps.length + 1) N.length g ((ds.take ps.length).map .val ++ [.val (.tup (ds.drop ps.length))]) with
      | none => rw [q2] at hm; cases hm
      | some pr =>
        obtain ⟨r2, s2⟩ := pr
        rw [q2] at hm; cases hm
        have es := valsOf_at q
        rw [es] at er hp
        have rr := er_vals er
        have hlen := rr.length
        refine ⟨vs.take ps.length, vs.drop ps.length, (List.take_append_drop _ _).symm, by rw [List.length_take]; omega, by rw [List.length_drop]; omega, fun p hp0 => ?_⟩
        have hfp : F0 p = none := er.sub.free hp0
        have gr := Grow.new (o := .tup (vs.drop ps.length)) er.sub hp0
        have r2s : Rps K cm (upd F0 p (HO.tup (vs.drop ps.length))) (ds.take ps.length ++ [.tup (ds.drop ps.length)]) (vs.take ps.length ++ [V.ref p]) :=
          ((rr.take _).ext (Ext.of gr.f)).append (.cons (.tup upd_same ((rr.drop _).ext (Ext.of gr.f))) .nil)
        have q3 : fnD (ps ++ [pv]).length N.length g ((ds.take ps.length ++ [D.tup (ds.drop ps.length)]).map Sl.val) = some (r2, s2) := by
          rw [List.map_append, List.length_append]; exact q2
        refine ⟨upd F0 p (.tup (vs.drop ps.length)), (ds.take ps.length ++ [D.tup (ds.drop ps.length)]).map Sl.val, s2, r2, fun _ => False, by rw [List.length_append, List.length_append, List.length_take]; simp; omega,
          vals_er r2s gr.sub (Ext.refl _) (fun _ _ h _ => h) (fun _ h => h) (fun _ _ h => h), q3, fun F' H' er' => ?_⟩
        have hz := hp F' H' (vals_er (rr.ext ((Ext.of gr.f).trans er'.f0)) er'.sub ((Ext.of gr.f).trans er'.f0) (fun b o h _ => er'.h0 b o (gr.h b o h) (fun z => z) (fun z => z)) (fun b h => er'.live b (live_up gr h)) (fun b h n => er'.nf b (live_up gr h) (gr.nf b h n) (fun z => z)))
        cases r2 with
        | nx => exact hz
        | brk => exact hz
        | cnt => exact hz
        | exc x => exact hz
        | ret s =>
          cases s with
          | no => exact hz
          | par d => exact hz
          | val d => exact hz
          | own d =>
            refine fun a ha => hz a ⟨.inl ?_, ha.2.1, fun i s e os z => ?_⟩
            · have h1 : upd H p (HO.tup (vs.drop ps.length)) a = none := ha.1.resolve_right (fun z => z)
              show H a = none
              cases z : H a with
              | none => rfl
              | some o => rw [gr.h a o z] at h1; cases h1
            · rw [List.getElem?_map] at e
              cases q4 : ds[i]? with
              | none => rw [q4] at e; cases e
              | some d => rw [q4] at e; cases e; cases os
    · rw [if_neg c] at hm; cases hm
end
end Pd

/-! Pd12: the law's own promise. -/
namespace Pd
open PySem PySem.Spec L2
open PyProof.Rows (envOfC)
def muI (i : Nat) : Env → Nat := fun ρ => match ρ[i]? with
  | some (.val (.int k)) => k.toNat + 2
  | _ => 0
def spLaw (K : PySem.W.Frag) : Sp := fun vs H Q _ => ∃ (a : Addr) (ns : List Int), vs = [.ref a] ∧ ns.length ≤ 63 ∧ SqL K H a (ns.map V.int) ∧ ∀ H', Q (.bl true) H'
theorem ints_rps {K : PySem.W.Frag} {cm : Str → Option Addr} {H : Hp} : ∀ ns : List Int, Rps K cm H (ns.map .int) (ns.map V.int)
  | [] => .nil
  | n :: ns => .cons (.int n) (ints_rps ns)
section
variable {P : Program} {w : World} {K : PySem.W.Frag} {mg : Str → Option Value} {base : Heap} {cm : Str → Option Addr}
theorem law_end {k : Nat} {f : Addr} {fd : FuncData} {ps : List Str} {m : FD} (F : FnOk P w K mg base (L2.CX P w) k f fd ps (spD K cm 1 m)) (hm : ∀ ns : List Int, ns.length ≤ 63 → ∃ ss', m [.val (.frl (ns.map .int))] = some (.ret (.val (.bl true)), ss')) :
    FnOk P w K mg base (L2.CX P w) k f fd ps (spLaw K) := by
  refine F.imp fun vs H Q E h => ?_
  obtain ⟨a, ns, rfl, hl, hS, q⟩ := h
  obtain ⟨ss', e⟩ := hm ns hl
  refine ⟨H, [.val (.frl (ns.map .int))], ss', _, fun _ => False, rfl, ?_, e, fun F' H' er' v hv => ?_⟩
  · have r : Rps K cm H [.frl (ns.map .int)] [.ref a] := .cons (.frl hS (ints_rps ns)) .nil
    exact vals_er r (Same.refl H) (Ext.refl H) (fun _ _ h _ => h) (fun _ h => h) (fun _ _ h => h)
  · cases hv; exact q H'
theorem cx_never {H : Hp} {s : Shared} {e : Value} {s' : Shared} (h : L2.CX P w [] H s (fun _ _ _ => False) e s') : False := by
  unfold L2.CX at h
  obtain ⟨_, _, _, _, _, _, _, _, _, _, _, _, z⟩ := h
  exact z
end
end Pd

/-! Pd13: reckoning with the shallow terms. -/
namespace Pd
open PySem PySem.Spec L2
section
variable {α β : Type} {ρ ρ1 ρ2 ρ3 : Env}
theorem bind_ev {m : M α} {k : α → M β} {a : α} (h : m ρ = some (.ok a, ρ1)) : M.bind m k ρ = k a ρ1 := by unfold M.bind; rw [h]
theorem exps_ev {m : M α} {k : α → SM} {a : α} (h : m ρ = some (.ok a, ρ1)) : exps m k ρ = k a ρ1 := by unfold exps; rw [h]
theorem seqS_nx {g h : SM} (e : g ρ = some (.nx, ρ1)) : seqS g h ρ = h ρ1 := by unfold seqS; rw [e]
theorem seqS_ret {g h : SM} {s : Sl} (e : g ρ = some (.ret s, ρ1)) : seqS g h ρ = some (.ret s, ρ1) := by unfold seqS; rw [e]
theorem fnD_ret {np n : Nat} {g : SM} {ss ss' : List Sl} {s : Sl} (hl : ss.length = np) (h : g (ss ++ List.replicate (n - ss.length) .no) = some (.ret s, ρ)) (hb : backA ss ρ = some ss') : fnD np n g ss = some (.ret s, ss') := by
  unfold fnD; rw [if_pos hl, h]; simp only []; rw [hb]; rfl
theorem fnD_nx {np n : Nat} {g : SM} {ss ss' : List Sl} (hl : ss.length = np) (h : g (ss ++ List.replicate (n - ss.length) .no) = some (.nx, ρ)) (hb : backA ss ρ = some ss') : fnD np n g ss = some (.ret (.val .non), ss') := by
  unfold fnD; rw [if_pos hl, h]; simp only []; rw [hb]; rfl
theorem loopW_step {c : M Bool} {b : SM} {n : Nat} (hc : c ρ = some (.ok true, ρ1)) (hb : b ρ1 = some (.nx, ρ2)) : loopW c b (n + 1) ρ = loopW c b n ρ2 := by
  unfold loopW; rw [hc]; simp only []; rw [hb]; cases n <;> rfl
theorem loopW_end {c : M Bool} {b : SM} {n : Nat} (hc : c ρ = some (.ok false, ρ1)) : loopW c b (n + 1) ρ = some (.nx, ρ1) := by
  unfold loopW; rw [hc]
theorem loopF_nx {gs : GS} {b : SM} {d : D} {ds : List D} (hg : gs d ρ = some ρ1) (hb : b ρ1 = some (.nx, ρ2)) : loopF gs b (d :: ds) ρ = loopF gs b ds ρ2 := by
  show ((gs d ρ).bind fun ρ1 => match b ρ1 with
    | some (SR.nx, ρ2) => loopF gs b ds ρ2
    | some (SR.cnt, ρ2) => loopF gs b ds ρ2
    | some (SR.brk, ρ2) => some (SR.nx, ρ2)
    | x => x) = _
  rw [hg]
  show (match b ρ1 with
    | some (SR.nx, ρ2) => loopF gs b ds ρ2
    | some (SR.cnt, ρ2) => loopF gs b ds ρ2
    | some (SR.brk, ρ2) => some (SR.nx, ρ2)
    | x => x) = _
  rw [hb]
theorem loopF_ret {gs : GS} {b : SM} {d : D} {ds : List D} {s : Sl} (hg : gs d ρ = some ρ1) (hb : b ρ1 = some (.ret s, ρ2)) : loopF gs b (d :: ds) ρ = some (.ret s, ρ2) := by
  show ((gs d ρ).bind fun ρ1 => match b ρ1 with
    | some (SR.nx, ρ2) => loopF gs b ds ρ2
    | some (SR.cnt, ρ2) => loopF gs b ds ρ2
    | some (SR.brk, ρ2) => some (SR.nx, ρ2)
    | x => x) = _
  rw [hg]
  show (match b ρ1 with
    | some (SR.nx, ρ2) => loopF gs b ds ρ2
    | some (SR.cnt, ρ2) => loopF gs b ds ρ2
    | some (SR.brk, ρ2) => some (SR.nx, ρ2)
    | x => x) = _
  rw [hb]
/-- a loop whose body keeps I -/
theorem loopF_inv {gs : GS} {b : SM} (I : Env → Prop) : ∀ (ds : List D) (ρ : Env), I ρ → (∀ d ∈ ds, ∀ ρ, I ρ → ∃ ρ1 ρ2, gs d ρ = some ρ1 ∧ b ρ1 = some (.nx, ρ2) ∧ I ρ2) → ∃ ρ', loopF gs b ds ρ = some (.nx, ρ') ∧ I ρ'
  | [], ρ, hi, _ => ⟨ρ, rfl, hi⟩
  | d :: ds, ρ, hi, h => by
    obtain ⟨ρ1, ρ2, h1, h2, h3⟩ := h d (List.mem_cons_self ..) ρ hi
    obtain ⟨ρ', h4, h5⟩ := loopF_inv I ds ρ2 h3 fun d' m => h d' (List.mem_cons_of_mem _ m)
    exact ⟨ρ', by rw [loopF_nx h1 h2]; exact h4, h5⟩
/-- a comprehension that keeps I and gives what R says -/
theorem compF_rel {gs : GS} {ft : M Bool} {fe : M D} {vs : List Nat} (I : Nat → Env → Prop) (R : D → List D → Prop) : ∀ (ds acc : List D) (ρ : Env), I ds.length ρ → acc.length + ds.length ≤ sizeLine →
    (∀ d ∈ ds, ∀ n ρ, I (n + 1) ρ → ∃ ρ1, gs d (wipeE ρ vs) = some ρ1 ∧ ((∃ ρ2 x ρ3, ft ρ1 = some (.ok true, ρ2) ∧ fe ρ2 = some (.ok x, ρ3) ∧ R d [x] ∧ I n ρ3) ∨ (∃ ρ2, ft ρ1 = some (.ok false, ρ2) ∧ R d [] ∧ I n ρ2))) →
    ∃ xs ρ', compF gs ft fe vs ds acc ρ = some (.ok (acc ++ xs.flatten), ρ') ∧ Paired R ds xs ∧ I 0 ρ'
  | [], acc, ρ, hi, _, _ => ⟨[], ρ, by simp [compF, M.ret], .nil, hi⟩
  | d :: ds, acc, ρ, hi, hl, h => by
    obtain ⟨ρ1, h1, h2⟩ := h d (List.mem_cons_self ..) ds.length ρ hi
    have hl' : acc.length + (ds.length + 1) ≤ sizeLine := hl
    rcases h2 with ⟨ρ2, x, ρ3, h2, h3, h4, h5⟩ | ⟨ρ2, h2, h4, h5⟩
    · obtain ⟨xs, ρ', e1, e2, e3⟩ := compF_rel I R ds (acc ++ [x]) ρ3 h5 (by rw [List.length_append, List.length_singleton]; omega) fun d' m => h d' (List.mem_cons_of_mem _ m)
      refine ⟨[x] :: xs, ρ', ?_, .cons h4 e2, e3⟩
      unfold compF
      rw [h1]
      show (match ft ρ1 with
        | some (.ok true, ρ2) => match fe ρ2 with
          | some (.ok x, ρ3) => if acc.length < sizeLine then compF gs ft fe vs ds (acc ++ [x]) ρ3 else none
          | _ => none
        | some (.ok false, ρ2) => compF gs ft fe vs ds acc ρ2
        | _ => none) = _
      rw [h2]
      simp only []
      rw [h3]
      simp only []
      rw [if_pos (by omega), e1]
      simp
    · obtain ⟨xs, ρ', e1, e2, e3⟩ := compF_rel I R ds acc ρ2 h5 (by omega) fun d' m => h d' (List.mem_cons_of_mem _ m)
      refine ⟨[] :: xs, ρ', ?_, .cons h4 e2, e3⟩
      unfold compF
      rw [h1]
      show (match ft ρ1 with
        | some (.ok true, ρ2) => match fe ρ2 with
          | some (.ok x, ρ3) => if acc.length < sizeLine then compF gs ft fe vs ds (acc ++ [x]) ρ3 else none
          | _ => none
        | some (.ok false, ρ2) => compF gs ft fe vs ds acc ρ2
        | _ => none) = _
      rw [h2]
      simp only []
      rw [e1]
      simp
/-- a comprehension of pure steps: what p keeps, by h -/
theorem compF_pure {gs : GS} {ft : M Bool} {fe : M D} {vs : List Nat} (ρ0 : Env) (p : D → Bool) (h : D → D) : ∀ (ds acc : List D) (ρ : Env), wipeE ρ vs = ρ0 → acc.length + ds.length ≤ sizeLine →
    (∀ d ∈ ds, ∃ ρ1, gs d ρ0 = some ρ1 ∧ (∃ ρ2, ft ρ1 = some (.ok (p d), ρ2) ∧ (p d = true → ∃ ρ3, fe ρ2 = some (.ok (h d), ρ3) ∧ wipeE ρ3 vs = ρ0) ∧ (p d = false → wipeE ρ2 vs = ρ0))) →
    ∃ ρ', compF gs ft fe vs ds acc ρ = some (.ok (acc ++ (ds.filter p).map h), ρ') ∧ wipeE ρ' vs = ρ0 := by
  intro ds acc ρ hw hl hh
  obtain ⟨xs, ρ', e1, e2, e3⟩ := compF_rel (gs := gs) (ft := ft) (fe := fe) (vs := vs) (fun _ ρ => wipeE ρ vs = ρ0) (fun d x => x = if p d = true then [h d] else []) ds acc ρ hw hl fun d m _ ρ hi => by
    obtain ⟨ρ1, h1, ρ2, h2, h3, h4⟩ := hh d m
    refine ⟨ρ1, by rw [hi]; exact h1, ?_⟩
    by_cases c : p d = true
    · obtain ⟨ρ3, h5, h6⟩ := h3 c
      exact .inl ⟨ρ2, h d, ρ3, by rw [h2, c], h5, by rw [if_pos c], h6⟩
    · have c' : p d = false := by simpa using c
      exact .inr ⟨ρ2, by rw [h2, c'], by rw [if_neg c], h4 c'⟩
  refine ⟨ρ', ?_, e3⟩
  rw [e1]
  have : xs.flatten = (ds.filter p).map h := by
    clear e1 hl hh
    induction e2 with
    | nil => rfl
    | @cons d x ds xs h1 _ ih =>
      rw [List.flatten_cons, ih, h1, List.filter_cons]
      by_cases c : p d = true <;> simp [c]
  rw [this]
theorem compK_ev {gs : GS} {ft : M Bool} {fe : M D} {vs : List Nat} {ds xs : List D} (hv : valsAt ρ vs = true) (h : compF gs ft fe vs ds [] ρ = some (.ok xs, ρ1)) : compK gs ft fe vs ds ρ = some (.ok (.lst xs), restE ρ ρ1 vs) := by
  unfold compK; rw [if_pos hv, h]
theorem compD_ev {fi : M (List D)} {gs : GS} {ft : M Bool} {fe : M D} {vs : List Nat} {ds xs : List D} (hi : fi ρ = some (.ok ds, ρ1)) (hv : valsAt ρ1 vs = true) (h : compF gs ft fe vs ds [] ρ1 = some (.ok xs, ρ2)) : compD fi gs ft fe vs ρ = some (.ok (.lst xs), restE ρ1 ρ2 vs) := by
  unfold compD; rw [bind_ev hi, compK_ev hv h]
theorem restE_back {vs : List Nat} (h : wipeE ρ1 vs = wipeE ρ vs) : restE ρ ρ1 vs = ρ := by
  have hl : ρ1.length = ρ.length := by rw [← wipeE_length ρ1 vs, h, wipeE_length]
  refine List.ext_getElem? fun i => ?_
  by_cases c : i ∈ vs
  · cases q : (restE ρ ρ1 vs)[i]? with
    | none =>
      have := List.getElem?_eq_none_iff.mp q
      rw [restE_length, hl] at this
      rw [List.getElem?_eq_none_iff.mpr this]
    | some s =>
      have e := restE_in c q
      have : i < ρ.length := by
        have := (List.getElem?_eq_some_iff.mp q).1
        rw [restE_length, hl] at this; exact this
      rw [e, List.getElem?_eq_getElem this]; rfl
  · rw [restE_out c, ← wipeE_out (ρ := ρ1) c, h, wipeE_out c]
theorem compD_pure {fi : M (List D)} {gs : GS} {ft : M Bool} {fe : M D} {vs : List Nat} {ds : List D} (p : D → Bool) (h : D → D) (hi : fi ρ = some (.ok ds, ρ1)) (hv : valsAt ρ1 vs = true) (hl : ds.length ≤ sizeLine)
    (hh : ∀ d ∈ ds, ∃ ρ2, gs d (wipeE ρ1 vs) = some ρ2 ∧ (∃ ρ3, ft ρ2 = some (.ok (p d), ρ3) ∧ (p d = true → ∃ ρ4, fe ρ3 = some (.ok (h d), ρ4) ∧ wipeE ρ4 vs = wipeE ρ1 vs) ∧ (p d = false → wipeE ρ3 vs = wipeE ρ1 vs))) :
    compD fi gs ft fe vs ρ = some (.ok (.lst ((ds.filter p).map h)), ρ1) := by
  obtain ⟨ρ', e1, e2⟩ := compF_pure (wipeE ρ1 vs) p h ds [] ρ1 rfl (by simpa using hl) hh
  rw [List.nil_append] at e1
  rw [compD_ev hi hv e1, restE_back e2]
theorem blsOf_map {α : Type} {f : α → Bool} : ∀ ds : List α, blsOf (ds.map fun d => D.bl (f d)) = some (ds.map f)
  | [] => rfl
  | d :: ds => by
    show (blsOf (ds.map fun d => D.bl (f d))).map (fun bs => f d :: bs) = _
    rw [blsOf_map ds]; rfl
theorem mul_small {i j : Int} (hi : i.natAbs < 2 ^ 64) (hj : j.natAbs < 2 ^ 64) : mulG (.int i) (.int j) = some (.int (i * j)) := by
  have h : ∀ x : Int, x.natAbs < 2 ^ 64 → x.natAbs.log2 < 64 := fun x h => by
    by_cases z : x.natAbs = 0
    · rw [z]; decide
    · exact (Nat.log2_lt z).mpr h
  have h1 := h i hi
  have h2 := h j hj
  show (if i.natAbs.log2 + j.natAbs.log2 < 1000000 then some (D.int (i * j)) else none) = _
  rw [if_pos (by omega)]
theorem fdiv_small {i j : Int} (h0 : 0 < j) (h : j < 2 ^ 64) : fdivG (.int i) (.int j) = some (.int (i / j)) := by
  have h1 : j.natAbs < 2 ^ 64 := by omega
  have h2 : j.natAbs.log2 < 64 := (Nat.log2_lt (by omega)).mpr h1
  have h3 : j.natAbs.log2 < 9000 := by omega
  show (if (decide (0 < j) && decide (j.natAbs.log2 < 9000)) = true then some (D.int (i / j)) else none) = _
  rw [if_pos (by simp [h0, h3])]
theorem mod_pos {i j : Int} (h0 : 0 < j) : modG (.int i) (.int j) = some (.int (i % j)) := by
  show (if decide (0 < j) = true then some (D.int (i % j)) else none) = _
  rw [if_pos (by simp [h0])]
theorem rangeL_ev {fa fb : M D} {i j : Int} (ha : fa ρ = some (.ok (.int i), ρ1)) (hb : fb ρ1 = some (.ok (.int j), ρ2)) (h1 : -(2 ^ 62) ≤ i) (h2 : i < 2 ^ 62) (h3 : -(2 ^ 62) ≤ j) (h4 : j < 2 ^ 62) (h5 : (j - i).toNat ≤ 2 ^ 24) : rangeL fa fb ρ = some (.ok (.lst (rngI i (j - i).toNat)), ρ2) := by
  unfold rangeL
  rw [bind_ev ha, bind_ev hb]
  show (if -(2 ^ 62) ≤ i ∧ i < 2 ^ 62 ∧ -(2 ^ 62) ≤ j ∧ j < 2 ^ 62 ∧ (j - i).toNat ≤ 2 ^ 24 then M.ret (D.lst (rngI i (j - i).toNat)) else M.fail) ρ2 = _
  rw [if_pos ⟨h1, h2, h3, h4, h5⟩]; rfl
theorem lgb {j : Int} (h0 : 0 < j) (h : j < 2 ^ 64) : j.natAbs.log2 < 9000 := by
  have h1 : j.natAbs < 2 ^ 64 := by omega
  have h2 : j.natAbs.log2 < 64 := (Nat.log2_lt (by omega)).mpr h1
  omega
theorem kb_int_int : kitB "int" "int" = some true := by decide +kernel
theorem kb_int_bool : kitB "int" "bool" = some false := by decide +kernel
theorem kb_int_tuple : kitB "int" "tuple" = some false := by decide +kernel
theorem kb_int_str : kitB "int" "str" = some false := by decide +kernel
theorem kb_bool_int : kitB "bool" "int" = some true := by decide +kernel
theorem kb_bool_bool : kitB "bool" "bool" = some true := by decide +kernel
theorem kb_bool_tuple : kitB "bool" "tuple" = some false := by decide +kernel
theorem kb_bool_str : kitB "bool" "str" = some false := by decide +kernel
theorem kb_NoneType_int : kitB "NoneType" "int" = some false := by decide +kernel
theorem kb_NoneType_bool : kitB "NoneType" "bool" = some false := by decide +kernel
theorem kb_NoneType_tuple : kitB "NoneType" "tuple" = some false := by decide +kernel
theorem kb_NoneType_str : kitB "NoneType" "str" = some false := by decide +kernel
theorem kb_str_int : kitB "str" "int" = some false := by decide +kernel
theorem kb_str_bool : kitB "str" "bool" = some false := by decide +kernel
theorem kb_str_tuple : kitB "str" "tuple" = some false := by decide +kernel
theorem kb_str_str : kitB "str" "str" = some true := by decide +kernel
theorem kb_tuple_int : kitB "tuple" "int" = some false := by decide +kernel
theorem kb_tuple_bool : kitB "tuple" "bool" = some false := by decide +kernel
theorem kb_tuple_tuple : kitB "tuple" "tuple" = some true := by decide +kernel
theorem kb_tuple_str : kitB "tuple" "str" = some false := by decide +kernel
theorem kb_list_int : kitB "list" "int" = some false := by decide +kernel
theorem kb_list_bool : kitB "list" "bool" = some false := by decide +kernel
theorem kb_list_tuple : kitB "list" "tuple" = some false := by decide +kernel
theorem kb_list_str : kitB "list" "str" = some false := by decide +kernel
theorem kb_dict_int : kitB "dict" "int" = some false := by decide +kernel
theorem kb_dict_bool : kitB "dict" "bool" = some false := by decide +kernel
theorem kb_dict_tuple : kitB "dict" "tuple" = some false := by decide +kernel
theorem kb_dict_str : kitB "dict" "str" = some false := by decide +kernel
theorem gcd_step {l r : Int} (h1 : 0 ≤ l) (h2 : 0 ≤ r) : Int.gcd (r % l) l = Int.gcd l r := by
  obtain ⟨L, rfl⟩ := Int.eq_ofNat_of_zero_le h1
  obtain ⟨R, rfl⟩ := Int.eq_ofNat_of_zero_le h2
  show Nat.gcd (R % L) L = Nat.gcd L R
  exact (Nat.gcd_rec L R).symm
end
end Pd

namespace Pd
open PySem PySem.Spec L2
open PyProof.Rows (envOfC)
namespace K01
def topS (i : Nat) : Stmt := PySem.Challenge.pw_waysapart_k01_whole_fractions_in_lowest.main.body.getD i (.Pass ⟨0, 0, 0, 0⟩)
/-! _law_dice -/
abbrev st__law_dice : Stmt := topS 20
theorem sc__law_dice : FnScope ["script", "at", "cell", "great", "left", "mixed"] ["script", "at"] (defScope st__law_dice) := ⟨rfl, rfl, rfl, by decide +kernel, rfl, by decide +kernel, by decide +kernel⟩
def g__law_dice : SM := (seqS (exps (op2 addG (toO (op2 mulG (toO (M.ret (.int 97))) (nameO 1))) (toO (M.ret (.int 53)))) (setV 2))
    (seqS (exps (asB (op2 ltG (nameO 1) (toO (callD (one lenG) (consO (nameO 0) (M.ret [])))))) fun k => if k = true then (exps (op2 ixG (nameO 0) (nameO 1)) (setV 2)) else skipS)
    (seqS (exps (op2 modG (toO (callD (one intF) (consO (toO (callD (one absG) (consO (nameO 2) (M.ret [])))) (M.ret [])))) (toO (op2 powG (toO (op2 powG (toO (M.ret (.int 10))) (toO (M.ret (.int 60))))) (toO (M.ret (.int 10)))))) (setV 3))
    (seqS (exps (op2 fdivG (nameO 3) (toO (op2 powG (toO (M.ret (.int 10))) (toO (M.ret (.int 18)))))) (setV 4))
    (seqS (exps (op2 addG (toO (op2 addG (toO (op2 addG (toO (op2 mulG (toO (op2 modG (nameO 3) (toO (M.ret (.int 2147482951))))) (toO (M.ret (.int 61291))))) (toO (op2 mulG (toO (M.ret (.int 3517))) (nameO 1))))) (toO (op2 mulG (toO (M.ret (.int 71))) (toO (callD (one intF) (consO (toO (op2 ltG (nameO 2) (toO (M.ret (.int 0))))) (M.ret [])))))))) (toO (M.ret (.int 83)))) (setV 5))
    (exps (lstD (consD (frzAt 4) (consD (op2 modG (nameO 5) (toO (M.ret (.int 2147482949)))) (consD (M.ret (.int 0)) (M.ret []))))) fun d ρ => some (.ret (.own d), ρ)))))))
def m__law_dice : FD := fnD 2 6 g__law_dice
theorem good__law_dice : Good m__law_dice := fnD_good 2 6 g__law_dice
section
variable {P : Program} {w : World} {K : PySem.W.Frag} {mg : Str → Option Value} {base : Heap} {cm : Str → Option Addr}
theorem ok__law_dice {a__law_dice : Addr} {d__law_dice : FuncData} (F__law_dice : Fun K "_law_dice" "_law_dice" st__law_dice a__law_dice d__law_dice) (b_int : mg "int" = none) (b_abs : mg "abs" = none) (b_len : mg "len" = none) : Okf P w K mg base cm 1 a__law_dice m__law_dice :=
  okf_of (ps := ["script", "at"]) (ok_def (N := ["script", "at", "cell", "great", "left", "mixed"]) F__law_dice sc__law_dice fun cdv A outer s H E hr =>
    (pss_cons' (psd_set 2 sc__law_dice.nd (pd_op op_addD od_add (po_of (pd_op op_mulD od_mul (po_of pd_int) (po_name 1))) (po_of pd_int)))
    (pss_cons' (psd_if (pb_cmp op_ltC od_cmp (po_name 1) (po_of (pd_callB call_lenS cd_len (by rfl) b_len (by decide +kernel) (pas_cons (po_name 0) pas_nil))) (by with_unfolding_all rfl))
    (pss_one' (psd_set 2 sc__law_dice.nd (pd_ix (po_name 0) (po_name 1))))
    pss_nil')
    (pss_cons' (psd_set 3 sc__law_dice.nd (pd_op op_mod od_mod (po_of (pd_callTy call_int1 cd_int (by rfl) b_int (by decide +kernel) (pas_cons (po_of (pd_callB call_abs cd_abs (by rfl) b_abs (by decide +kernel) (pas_cons (po_name 2) pas_nil))) pas_nil))) (po_of (pd_op op_powW od_pow (po_of (pd_op op_powW od_pow (po_of pd_int) (po_of pd_int))) (po_of pd_int)))))
    (pss_cons' (psd_set 4 sc__law_dice.nd (pd_op op_fdivW od_fdiv (po_name 3) (po_of (pd_op op_powW od_pow (po_of pd_int) (po_of pd_int)))))
    (pss_cons' (psd_set 5 sc__law_dice.nd (pd_op op_addD od_add (po_of (pd_op op_addD od_add (po_of (pd_op op_addD od_add (po_of (pd_op op_mulD od_mul (po_of (pd_op op_mod od_mod (po_name 3) (po_of pd_int))) (po_of pd_int))) (po_of (pd_op op_mulD od_mul (po_of pd_int) (po_name 1))))) (po_of (pd_op op_mulD od_mul (po_of pd_int) (po_of (pd_callTy call_int1 cd_int (by rfl) b_int (by decide +kernel) (pas_cons (po_of (pd_cmp op_ltC od_cmp (po_name 2) (po_of pd_int) (by with_unfolding_all rfl))) pas_nil))))))) (po_of pd_int)))
    (pss_one' (psd_retF (pf_lst (pvs_cons (pd_name 4) (pvs_cons (pd_op op_mod od_mod (po_name 5) (po_of pd_int)) (pvs_cons pd_int pvs_nil)))))))))))) (F__law_dice.binds (ps := ["script", "at"]) fun _ _ _ _ _ _ us hl => match us, hl with | [_, _], _ => rfl)
end
/-! divisor_of -/
abbrev st_divisor_of : Stmt := topS 10
theorem sc_divisor_of : FnScope ["one", "other", "left", "right"] ["one", "other"] (defScope st_divisor_of) := ⟨rfl, rfl, rfl, by decide +kernel, rfl, by decide +kernel, by decide +kernel⟩
def c1_divisor_of : M Bool := asB (op2 gtG (nameO 2) (toO (M.ret (.int 0))))
def b2_divisor_of : SM := (parS 2 3 (consD (op2 modG (nameO 3) (nameO 2)) (consD (frzAt 2) (M.ret []))))
def g_divisor_of : SM := (seqS (parS 2 3 (consD (callD (one absG) (consO (nameO 0) (M.ret []))) (consD (frzAt 1) (M.ret []))))
    (seqS (fun ρ => loopW (c1_divisor_of) b2_divisor_of ((muI 2) ρ) ρ)
    (exps (frzAt 3) fun d ρ => some (.ret (.val d), ρ))))
def m_divisor_of : FD := fnD 2 4 g_divisor_of
theorem good_divisor_of : Good m_divisor_of := fnD_good 2 4 g_divisor_of
section
variable {P : Program} {w : World} {K : PySem.W.Frag} {mg : Str → Option Value} {base : Heap} {cm : Str → Option Addr}
theorem ok_divisor_of {a_divisor_of : Addr} {d_divisor_of : FuncData} (F_divisor_of : Fun K "divisor_of" "divisor_of" st_divisor_of a_divisor_of d_divisor_of) (b_abs : mg "abs" = none) : Okf P w K mg base cm 1 a_divisor_of m_divisor_of :=
  okf_of (ps := ["one", "other"]) (ok_def (N := ["one", "other", "left", "right"]) F_divisor_of sc_divisor_of fun cdv A outer s H E hr =>
    (pss_cons' (psd_par (i := 2) (j := 3) rfl sc_divisor_of.nd (pvs_cons (pd_callB call_abs cd_abs (by rfl) b_abs (by decide +kernel) (pas_cons (po_name 0) pas_nil)) (pvs_cons (pd_name 1) pvs_nil)))
    (pss_cons' (psd_while (muI 2) (passes_of rfl) (pb_cmp op_gtC od_cmp (po_name 2) (po_of pd_int) (by with_unfolding_all rfl))
    (pss_one' (psd_par (i := 2) (j := 3) rfl sc_divisor_of.nd (pvs_cons (pd_op op_mod od_mod (po_name 3) (po_name 2)) (pvs_cons (pd_name 2) pvs_nil)))))
    (pss_one' (psd_ret (pd_name 3)))))) (F_divisor_of.binds (ps := ["one", "other"]) fun _ _ _ _ _ _ us hl => match us, hl with | [_, _], _ => rfl)
end
/-! fraction_in -/
abbrev st_fraction_in : Stmt := topS 12
theorem sc_fraction_in : FnScope ["numerator", "denominator", "common"] ["numerator", "denominator"] (defScope st_fraction_in) := ⟨rfl, rfl, rfl, by decide +kernel, rfl, by decide +kernel, by decide +kernel⟩
def g_fraction_in : SM := (seqS (exps (M.bind (callS m_divisor_of (consO (nameO 0) (consO (nameO 1) (M.ret [])))) sVal) (setV 2))
    (exps (tupD (consD (op2 fdivG (nameO 0) (nameO 2)) (consD (op2 fdivG (nameO 1) (nameO 2)) (M.ret [])))) fun d ρ => some (.ret (.val d), ρ)))
def m_fraction_in : FD := fnD 2 3 g_fraction_in
theorem good_fraction_in : Good m_fraction_in := fnD_good 2 3 g_fraction_in
section
variable {P : Program} {w : World} {K : PySem.W.Frag} {mg : Str → Option Value} {base : Heap} {cm : Str → Option Addr}
theorem ok_fraction_in {a_fraction_in : Addr} {d_fraction_in : FuncData} (F_fraction_in : Fun K "fraction_in" "fraction_in" st_fraction_in a_fraction_in d_fraction_in) {a_divisor_of : Addr} {d_divisor_of : FuncData} (F_divisor_of : Fun K "divisor_of" "divisor_of" st_divisor_of a_divisor_of d_divisor_of) (b_abs : mg "abs" = none) (q_divisor_of : mg "divisor_of" = some (.ref a_divisor_of)) (k_divisor_of : PySem.W.keepIn K (.ref a_divisor_of) = true) : Okf P w K mg base cm 2 a_fraction_in m_fraction_in :=
  okf_of (ps := ["numerator", "denominator"]) (ok_def (N := ["numerator", "denominator", "common"]) F_fraction_in sc_fraction_in fun cdv A outer s H E hr =>
    (pss_cons' (psd_set 2 sc_fraction_in.nd (pd_ofS (psl_callR ((ok_divisor_of F_divisor_of b_abs).mono (by decide)) good_divisor_of (takes_of rfl rfl rfl rfl) hr (by rfl) q_divisor_of k_divisor_of (pas_cons (po_name 0) (pas_cons (po_name 1) pas_nil)))))
    (pss_one' (psd_ret (pd_tup (pvs_cons (pd_op op_fdivW od_fdiv (po_name 0) (po_name 2)) (pvs_cons (pd_op op_fdivW od_fdiv (po_name 1) (po_name 2)) pvs_nil))))))) (F_fraction_in.binds (ps := ["numerator", "denominator"]) fun _ _ _ _ _ _ us hl => match us, hl with | [_, _], _ => rfl)
end
/-! is_integer -/
abbrev st_is_integer : Stmt := topS 7
theorem sc_is_integer : FnScope ["value"] ["value"] (defScope st_is_integer) := ⟨rfl, rfl, rfl, by decide +kernel, rfl, by decide +kernel, by decide +kernel⟩
def g_is_integer : SM := (exps (andD (app1 (isiG "int") (nameO 0)) (notD (app1 (isiG "bool") (nameO 0)))) fun d ρ => some (.ret (.val d), ρ))
def m_is_integer : FD := fnD 1 1 g_is_integer
theorem good_is_integer : Good m_is_integer := fnD_good 1 1 g_is_integer
section
variable {P : Program} {w : World} {K : PySem.W.Frag} {mg : Str → Option Value} {base : Heap} {cm : Str → Option Addr}
theorem ok_is_integer {a_is_integer : Addr} {d_is_integer : FuncData} (F_is_integer : Fun K "is_integer" "is_integer" st_is_integer a_is_integer d_is_integer) (b_isinstance : mg "isinstance" = none) (b_bool : mg "bool" = none) (b_int : mg "int" = none) : Okf P w K mg base cm 1 a_is_integer m_is_integer :=
  okf_of (ps := ["value"]) (ok_def (N := ["value"]) F_is_integer sc_is_integer fun cdv A outer s H E hr =>
    (pss_one' (psd_ret (pd_and (pd_isi (T := "int") (by rfl) b_isinstance (by rfl) b_int (by decide +kernel) (po_name 0)) (pd_one (pd_not (pd_isi (T := "bool") (by rfl) b_isinstance (by rfl) b_bool (by decide +kernel) (po_name 0)))))))) (F_is_integer.binds (ps := ["value"]) fun _ _ _ _ _ _ us hl => match us, hl with | [_], _ => rfl)
end
/-! is_many -/
abbrev st_is_many : Stmt := topS 8
theorem sc_is_many : FnScope ["value"] ["value"] (defScope st_is_many) := ⟨rfl, rfl, rfl, by decide +kernel, rfl, by decide +kernel, by decide +kernel⟩
def g_is_many : SM := (exps (andD (M.bind (callS m_is_integer (consO (nameO 0) (M.ret []))) sVal) (op2 geG (nameO 0) (toO (M.ret (.int 1))))) fun d ρ => some (.ret (.val d), ρ))
def m_is_many : FD := fnD 1 1 g_is_many
theorem good_is_many : Good m_is_many := fnD_good 1 1 g_is_many
section
variable {P : Program} {w : World} {K : PySem.W.Frag} {mg : Str → Option Value} {base : Heap} {cm : Str → Option Addr}
theorem ok_is_many {a_is_many : Addr} {d_is_many : FuncData} (F_is_many : Fun K "is_many" "is_many" st_is_many a_is_many d_is_many) {a_is_integer : Addr} {d_is_integer : FuncData} (F_is_integer : Fun K "is_integer" "is_integer" st_is_integer a_is_integer d_is_integer) (b_isinstance : mg "isinstance" = none) (b_bool : mg "bool" = none) (b_int : mg "int" = none) (q_is_integer : mg "is_integer" = some (.ref a_is_integer)) (k_is_integer : PySem.W.keepIn K (.ref a_is_integer) = true) : Okf P w K mg base cm 2 a_is_many m_is_many :=
  okf_of (ps := ["value"]) (ok_def (N := ["value"]) F_is_many sc_is_many fun cdv A outer s H E hr =>
    (pss_one' (psd_ret (pd_and (pd_ofS (psl_callR ((ok_is_integer F_is_integer b_isinstance b_bool b_int).mono (by decide)) good_is_integer (takes_of rfl rfl rfl rfl) hr (by rfl) q_is_integer k_is_integer (pas_cons (po_name 0) pas_nil))) (pd_one (pd_cmp op_geC od_cmp (po_name 0) (po_of pd_int) (by with_unfolding_all rfl))))))) (F_is_many.binds (ps := ["value"]) fun _ _ _ _ _ _ us hl => match us, hl with | [_], _ => rfl)
end
/-! fraction -/
abbrev st_fraction : Stmt := topS 13
theorem sc_fraction : FnScope ["numerator", "denominator"] ["numerator", "denominator"] (defScope st_fraction) := ⟨rfl, rfl, rfl, by decide +kernel, rfl, by decide +kernel, by decide +kernel⟩
def g_fraction : SM := (seqS (exps (notB (truB (toO (M.bind (callS m_is_integer (consO (nameO 0) (M.ret []))) sVal)))) fun k => if k = true then (fun _ => none) else skipS)
    (seqS (exps (notB (truB (toO (M.bind (callS m_is_many (consO (nameO 1) (M.ret []))) sVal)))) fun k => if k = true then (fun _ => none) else skipS)
    (exps (M.bind (callS m_fraction_in (consO (nameO 0) (consO (nameO 1) (M.ret [])))) sVal) fun d ρ => some (.ret (.val d), ρ))))
def m_fraction : FD := fnD 2 2 g_fraction
theorem good_fraction : Good m_fraction := fnD_good 2 2 g_fraction
section
variable {P : Program} {w : World} {K : PySem.W.Frag} {mg : Str → Option Value} {base : Heap} {cm : Str → Option Addr}
theorem ok_fraction {a_fraction : Addr} {d_fraction : FuncData} (F_fraction : Fun K "fraction" "fraction" st_fraction a_fraction d_fraction) {a_fraction_in : Addr} {d_fraction_in : FuncData} (F_fraction_in : Fun K "fraction_in" "fraction_in" st_fraction_in a_fraction_in d_fraction_in) {a_divisor_of : Addr} {d_divisor_of : FuncData} (F_divisor_of : Fun K "divisor_of" "divisor_of" st_divisor_of a_divisor_of d_divisor_of) (b_abs : mg "abs" = none) (q_divisor_of : mg "divisor_of" = some (.ref a_divisor_of)) (k_divisor_of : PySem.W.keepIn K (.ref a_divisor_of) = true) (q_fraction_in : mg "fraction_in" = some (.ref a_fraction_in)) (k_fraction_in : PySem.W.keepIn K (.ref a_fraction_in) = true) {a_is_many : Addr} {d_is_many : FuncData} (F_is_many : Fun K "is_many" "is_many" st_is_many a_is_many d_is_many) {a_is_integer : Addr} {d_is_integer : FuncData} (F_is_integer : Fun K "is_integer" "is_integer" st_is_integer a_is_integer d_is_integer) (b_isinstance : mg "isinstance" = none) (b_bool : mg "bool" = none) (b_int : mg "int" = none) (q_is_integer : mg "is_integer" = some (.ref a_is_integer)) (k_is_integer : PySem.W.keepIn K (.ref a_is_integer) = true) (q_is_many : mg "is_many" = some (.ref a_is_many)) (k_is_many : PySem.W.keepIn K (.ref a_is_many) = true) : Okf P w K mg base cm 3 a_fraction m_fraction :=
  okf_of (ps := ["numerator", "denominator"]) (ok_def (N := ["numerator", "denominator"]) F_fraction sc_fraction fun cdv A outer s H E hr =>
    (pss_cons' (psd_if (pb_not (pb_truth (po_of (pd_ofS (psl_callR ((ok_is_integer F_is_integer b_isinstance b_bool b_int).mono (by decide)) good_is_integer (takes_of rfl rfl rfl rfl) hr (by rfl) q_is_integer k_is_integer (pas_cons (po_name 0) pas_nil))))))
    (pss_one' psd_never)
    pss_nil')
    (pss_cons' (psd_if (pb_not (pb_truth (po_of (pd_ofS (psl_callR ((ok_is_many F_is_many F_is_integer b_isinstance b_bool b_int q_is_integer k_is_integer).mono (by decide)) good_is_many (takes_of rfl rfl rfl rfl) hr (by rfl) q_is_many k_is_many (pas_cons (po_name 1) pas_nil))))))
    (pss_one' psd_never)
    pss_nil')
    (pss_one' (psd_ret (pd_ofS (psl_callR ((ok_fraction_in F_fraction_in F_divisor_of b_abs q_divisor_of k_divisor_of).mono (by decide)) good_fraction_in (takes_of rfl rfl rfl rfl) hr (by rfl) q_fraction_in k_fraction_in (pas_cons (po_name 0) (pas_cons (po_name 1) pas_nil))))))))) (F_fraction.binds (ps := ["numerator", "denominator"]) fun _ _ _ _ _ _ us hl => match us, hl with | [_, _], _ => rfl)
end
/-! is_fraction -/
abbrev st_is_fraction : Stmt := topS 11
theorem sc_is_fraction : FnScope ["value"] ["value"] (defScope st_is_fraction) := ⟨rfl, rfl, rfl, by decide +kernel, rfl, by decide +kernel, by decide +kernel⟩
def g_is_fraction : SM := (seqS (exps (orB (notB (truB (toO (app1 (isiG "tuple") (nameO 0))))) (orB (asB (op2 neG (toO (callD (one lenG) (consO (nameO 0) (M.ret [])))) (toO (M.ret (.int 2))))) (orB (notB (truB (toO (M.bind (callS m_is_integer (consO (toO (op2 ixG (nameO 0) (toO (M.ret (.int 0))))) (M.ret []))) sVal)))) (notB (truB (toO (M.bind (callS m_is_many (consO (toO (op2 ixG (nameO 0) (toO (M.ret (.int 1))))) (M.ret []))) sVal))))))) fun k => if k = true then (exps (M.ret (.bl false)) fun d ρ => some (.ret (.val d), ρ)) else skipS)
    (exps (op2 eqG (toO (M.bind (callS m_divisor_of (consO (toO (op2 ixG (nameO 0) (toO (M.ret (.int 0))))) (consO (toO (op2 ixG (nameO 0) (toO (M.ret (.int 1))))) (M.ret [])))) sVal)) (toO (M.ret (.int 1)))) fun d ρ => some (.ret (.val d), ρ)))
def m_is_fraction : FD := fnD 1 1 g_is_fraction
theorem good_is_fraction : Good m_is_fraction := fnD_good 1 1 g_is_fraction
section
variable {P : Program} {w : World} {K : PySem.W.Frag} {mg : Str → Option Value} {base : Heap} {cm : Str → Option Addr}
theorem ok_is_fraction {a_is_fraction : Addr} {d_is_fraction : FuncData} (F_is_fraction : Fun K "is_fraction" "is_fraction" st_is_fraction a_is_fraction d_is_fraction) {a_divisor_of : Addr} {d_divisor_of : FuncData} (F_divisor_of : Fun K "divisor_of" "divisor_of" st_divisor_of a_divisor_of d_divisor_of) (b_abs : mg "abs" = none) (q_divisor_of : mg "divisor_of" = some (.ref a_divisor_of)) (k_divisor_of : PySem.W.keepIn K (.ref a_divisor_of) = true) {a_is_many : Addr} {d_is_many : FuncData} (F_is_many : Fun K "is_many" "is_many" st_is_many a_is_many d_is_many) {a_is_integer : Addr} {d_is_integer : FuncData} (F_is_integer : Fun K "is_integer" "is_integer" st_is_integer a_is_integer d_is_integer) (b_isinstance : mg "isinstance" = none) (b_bool : mg "bool" = none) (b_int : mg "int" = none) (q_is_integer : mg "is_integer" = some (.ref a_is_integer)) (k_is_integer : PySem.W.keepIn K (.ref a_is_integer) = true) (q_is_many : mg "is_many" = some (.ref a_is_many)) (k_is_many : PySem.W.keepIn K (.ref a_is_many) = true) (b_len : mg "len" = none) (b_tuple : mg "tuple" = none) : Okf P w K mg base cm 3 a_is_fraction m_is_fraction :=
  okf_of (ps := ["value"]) (ok_def (N := ["value"]) F_is_fraction sc_is_fraction fun cdv A outer s H E hr =>
    (pss_cons' (psd_if (pb_w (pw_or' (pb_not (pb_truth (po_of (pd_isi (T := "tuple") (by rfl) b_isinstance (by rfl) b_tuple (by decide +kernel) (po_name 0))))) (pw_or' (pb_cmp (op_neD hr.units) od_ne (po_of (pd_callB call_lenS cd_len (by rfl) b_len (by decide +kernel) (pas_cons (po_name 0) pas_nil))) (po_of pd_int) (by with_unfolding_all rfl)) (pw_or' (pb_not (pb_truth (po_of (pd_ofS (psl_callR ((ok_is_integer F_is_integer b_isinstance b_bool b_int).mono (by decide)) good_is_integer (takes_of rfl rfl rfl rfl) hr (by rfl) q_is_integer k_is_integer (pas_cons (po_of (pd_ix (po_name 0) (po_of pd_int))) pas_nil)))))) (pw_or1' (pb_not (pb_truth (po_of (pd_ofS (psl_callR ((ok_is_many F_is_many F_is_integer b_isinstance b_bool b_int q_is_integer k_is_integer).mono (by decide)) good_is_many (takes_of rfl rfl rfl rfl) hr (by rfl) q_is_many k_is_many (pas_cons (po_of (pd_ix (po_name 0) (po_of pd_int))) pas_nil)))))))))))
    (pss_one' (psd_ret pd_bl))
    pss_nil')
    (pss_one' (psd_ret (pd_cmp (op_eqD hr.units) od_eq (po_of (pd_ofS (psl_callR ((ok_divisor_of F_divisor_of b_abs).mono (by decide)) good_divisor_of (takes_of rfl rfl rfl rfl) hr (by rfl) q_divisor_of k_divisor_of (pas_cons (po_of (pd_ix (po_name 0) (po_of pd_int))) (pas_cons (po_of (pd_ix (po_name 0) (po_of pd_int))) pas_nil))))) (po_of pd_int) (by with_unfolding_all rfl)))))) (F_is_fraction.binds (ps := ["value"]) fun _ _ _ _ _ _ us hl => match us, hl with | [_], _ => rfl)
end
/-! require_fractions -/
abbrev st_require_fractions : Stmt := topS 14
theorem sc_require_fractions : FnScope ["values", "value"] ["values"] (defScope st_require_fractions) := ⟨rfl, rfl, rfl, by decide +kernel, rfl, by decide +kernel, by decide +kernel⟩
def s1_require_fractions : GS := gV 1
def e2_require_fractions : M D := M.bind (callS m_is_fraction (consO (nameO 1) (M.ret []))) sVal
def l3_require_fractions : M D := compD (walkT (frzAt 0)) (s1_require_fractions) (M.ret true) (e2_require_fractions) [1]
def g_require_fractions : SM := (exps (orB (asB (op2 eqG (toO (callD (one lenG) (consO (nameO 0) (M.ret [])))) (toO (M.ret (.int 0))))) (notB (truB (toO (callD (one allG) (consO (toO (l3_require_fractions)) (M.ret []))))))) fun k => if k = true then (fun _ => none) else skipS)
def m_require_fractions : FD := fnD 1 2 g_require_fractions
theorem good_require_fractions : Good m_require_fractions := fnD_good 1 2 g_require_fractions
section
variable {P : Program} {w : World} {K : PySem.W.Frag} {mg : Str → Option Value} {base : Heap} {cm : Str → Option Addr}
theorem ok_require_fractions {a_require_fractions : Addr} {d_require_fractions : FuncData} (F_require_fractions : Fun K "require_fractions" "require_fractions" st_require_fractions a_require_fractions d_require_fractions) (b_all : mg "all" = none) {a_is_fraction : Addr} {d_is_fraction : FuncData} (F_is_fraction : Fun K "is_fraction" "is_fraction" st_is_fraction a_is_fraction d_is_fraction) {a_divisor_of : Addr} {d_divisor_of : FuncData} (F_divisor_of : Fun K "divisor_of" "divisor_of" st_divisor_of a_divisor_of d_divisor_of) (b_abs : mg "abs" = none) (q_divisor_of : mg "divisor_of" = some (.ref a_divisor_of)) (k_divisor_of : PySem.W.keepIn K (.ref a_divisor_of) = true) {a_is_many : Addr} {d_is_many : FuncData} (F_is_many : Fun K "is_many" "is_many" st_is_many a_is_many d_is_many) {a_is_integer : Addr} {d_is_integer : FuncData} (F_is_integer : Fun K "is_integer" "is_integer" st_is_integer a_is_integer d_is_integer) (b_isinstance : mg "isinstance" = none) (b_bool : mg "bool" = none) (b_int : mg "int" = none) (q_is_integer : mg "is_integer" = some (.ref a_is_integer)) (k_is_integer : PySem.W.keepIn K (.ref a_is_integer) = true) (q_is_many : mg "is_many" = some (.ref a_is_many)) (k_is_many : PySem.W.keepIn K (.ref a_is_many) = true) (b_len : mg "len" = none) (b_tuple : mg "tuple" = none) (q_is_fraction : mg "is_fraction" = some (.ref a_is_fraction)) (k_is_fraction : PySem.W.keepIn K (.ref a_is_fraction) = true) : Okf P w K mg base cm 4 a_require_fractions m_require_fractions :=
  okf_of (ps := ["values"]) (ok_def (N := ["values", "value"]) F_require_fractions sc_require_fractions fun cdv A outer s H E hr =>
    (pss_one' (psd_if (pb_w (pw_or' (pb_cmp (op_eqD hr.units) od_eq (po_of (pd_callB call_lenS cd_len (by rfl) b_len (by decide +kernel) (pas_cons (po_name 0) pas_nil))) (po_of pd_int) (by with_unfolding_all rfl)) (pw_or1' (pb_not (pb_truth (po_of (pd_callB (cr_all rfl) cd_all (by rfl) b_all (by decide +kernel) (pas_cons (po_of (pd_fresh (pf_lc [("value", 1)] rfl sc_require_fractions.nd (pid_tup (pd_name 0)) (blkOk_by (own := [("value", 1)]) (N := ["values", "value"]) (sc := defScope st_require_fractions) (by decide +kernel)) (fun _ _ _ _ _ => (pgd_name 1 sc_require_fractions.nd)) (fun _ _ _ _ _ => ptsd_nil) (fun _ _ _ _ _ => (pd_ofS (psl_callR ((ok_is_fraction F_is_fraction F_divisor_of b_abs q_divisor_of k_divisor_of F_is_many F_is_integer b_isinstance b_bool b_int q_is_integer k_is_integer q_is_many k_is_many b_len b_tuple).mono (by decide)) good_is_fraction takes0 hr (by rfl) q_is_fraction k_is_fraction (pas_cons (po_name 1) pas_nil))))))) pas_nil))))))))
    (pss_one' psd_never)
    pss_nil'))) (F_require_fractions.binds (ps := ["values"]) fun _ _ _ _ _ _ us hl => match us, hl with | [_], _ => rfl)
end
/-! is_less -/
abbrev st_is_less : Stmt := topS 15
theorem sc_is_less : FnScope ["one", "other"] ["one", "other"] (defScope st_is_less) := ⟨rfl, rfl, rfl, by decide +kernel, rfl, by decide +kernel, by decide +kernel⟩
def g_is_less : SM := (exps (op2 ltG (toO (op2 mulG (toO (op2 ixG (nameO 0) (toO (M.ret (.int 0))))) (toO (op2 ixG (nameO 1) (toO (M.ret (.int 1))))))) (toO (op2 mulG (toO (op2 ixG (nameO 1) (toO (M.ret (.int 0))))) (toO (op2 ixG (nameO 0) (toO (M.ret (.int 1)))))))) fun d ρ => some (.ret (.val d), ρ))
def m_is_less : FD := fnD 2 2 g_is_less
theorem good_is_less : Good m_is_less := fnD_good 2 2 g_is_less
section
variable {P : Program} {w : World} {K : PySem.W.Frag} {mg : Str → Option Value} {base : Heap} {cm : Str → Option Addr}
theorem ok_is_less {a_is_less : Addr} {d_is_less : FuncData} (F_is_less : Fun K "is_less" "is_less" st_is_less a_is_less d_is_less) : Okf P w K mg base cm 1 a_is_less m_is_less :=
  okf_of (ps := ["one", "other"]) (ok_def (N := ["one", "other"]) F_is_less sc_is_less fun cdv A outer s H E hr =>
    (pss_one' (psd_ret (pd_cmp op_ltC od_cmp (po_of (pd_op op_mulD od_mul (po_of (pd_ix (po_name 0) (po_of pd_int))) (po_of (pd_ix (po_name 1) (po_of pd_int))))) (po_of (pd_op op_mulD od_mul (po_of (pd_ix (po_name 1) (po_of pd_int))) (po_of (pd_ix (po_name 0) (po_of pd_int))))) (by with_unfolding_all rfl))))) (F_is_less.binds (ps := ["one", "other"]) fun _ _ _ _ _ _ us hl => match us, hl with | [_, _], _ => rfl)
end
/-! greatest_in -/
abbrev st_greatest_in : Stmt := topS 17
theorem sc_greatest_in : FnScope ["values", "found", "value"] ["values"] (defScope st_greatest_in) := ⟨rfl, rfl, rfl, by decide +kernel, rfl, by decide +kernel, by decide +kernel⟩
def s1_greatest_in : GS := gV 2
def b2_greatest_in : SM := (exps (truB (toO (M.bind (callS m_is_less (consO (nameO 1) (consO (nameO 2) (M.ret [])))) sVal))) fun k => if k = true then (exps (frzAt 2) (setV 1)) else skipS)
def g_greatest_in : SM := (seqS (exps (op2 ixG (nameO 0) (toO (M.ret (.int 0)))) (setV 1))
    (seqS (exps (walkT (frzAt 0)) fun ds => loopF s1_greatest_in b2_greatest_in ds)
    (exps (frzAt 1) fun d ρ => some (.ret (.val d), ρ))))
def m_greatest_in : FD := fnD 1 3 g_greatest_in
theorem good_greatest_in : Good m_greatest_in := fnD_good 1 3 g_greatest_in
section
variable {P : Program} {w : World} {K : PySem.W.Frag} {mg : Str → Option Value} {base : Heap} {cm : Str → Option Addr}
theorem ok_greatest_in {a_greatest_in : Addr} {d_greatest_in : FuncData} (F_greatest_in : Fun K "greatest_in" "greatest_in" st_greatest_in a_greatest_in d_greatest_in) {a_is_less : Addr} {d_is_less : FuncData} (F_is_less : Fun K "is_less" "is_less" st_is_less a_is_less d_is_less) (q_is_less : mg "is_less" = some (.ref a_is_less)) (k_is_less : PySem.W.keepIn K (.ref a_is_less) = true) : Okf P w K mg base cm 2 a_greatest_in m_greatest_in :=
  okf_of (ps := ["values"]) (ok_def (N := ["values", "found", "value"]) F_greatest_in sc_greatest_in fun cdv A outer s H E hr =>
    (pss_cons' (psd_set 1 sc_greatest_in.nd (pd_ix (po_name 0) (po_of pd_int)))
    (pss_cons' (psd_for (passes_of rfl) rfl (pid_tup (pd_name 0)) (pgd_name 2 sc_greatest_in.nd)
    (pss_one' (psd_if (pb_truth (po_of (pd_ofS (psl_callR ((ok_is_less F_is_less).mono (by decide)) good_is_less (takes_of rfl rfl rfl rfl) hr (by rfl) q_is_less k_is_less (pas_cons (po_name 1) (pas_cons (po_name 2) pas_nil))))))
    (pss_one' (psd_set 1 sc_greatest_in.nd (pd_name 2)))
    pss_nil')))
    (pss_one' (psd_ret (pd_name 1)))))) (F_greatest_in.binds (ps := ["values"]) fun _ _ _ _ _ _ us hl => match us, hl with | [_], _ => rfl)
end
/-! greatest -/
abbrev st_greatest : Stmt := topS 18
theorem sc_greatest : FnScope ["fractions"] ["fractions"] (defScope st_greatest) := ⟨rfl, rfl, rfl, by decide +kernel, rfl, by decide +kernel, by decide +kernel⟩
def g_greatest : SM := (seqS (exps (M.bind (callS m_require_fractions (consO (nameO 0) (M.ret []))) sVal) fun _ => skipS)
    (exps (M.bind (callS m_greatest_in (consO (nameO 0) (M.ret []))) sVal) fun d ρ => some (.ret (.val d), ρ)))
def m_greatest : FD := starD 0 (fnD 1 1 g_greatest)
theorem good_greatest : Good m_greatest := starD_good
section
variable {P : Program} {w : World} {K : PySem.W.Frag} {mg : Str → Option Value} {base : Heap} {cm : Str → Option Addr}
theorem ok_greatest {a_greatest : Addr} {d_greatest : FuncData} (F_greatest : Fun K "greatest" "greatest" st_greatest a_greatest d_greatest) {a_greatest_in : Addr} {d_greatest_in : FuncData} (F_greatest_in : Fun K "greatest_in" "greatest_in" st_greatest_in a_greatest_in d_greatest_in) {a_is_less : Addr} {d_is_less : FuncData} (F_is_less : Fun K "is_less" "is_less" st_is_less a_is_less d_is_less) (q_is_less : mg "is_less" = some (.ref a_is_less)) (k_is_less : PySem.W.keepIn K (.ref a_is_less) = true) (q_greatest_in : mg "greatest_in" = some (.ref a_greatest_in)) (k_greatest_in : PySem.W.keepIn K (.ref a_greatest_in) = true) {a_require_fractions : Addr} {d_require_fractions : FuncData} (F_require_fractions : Fun K "require_fractions" "require_fractions" st_require_fractions a_require_fractions d_require_fractions) (b_all : mg "all" = none) {a_is_fraction : Addr} {d_is_fraction : FuncData} (F_is_fraction : Fun K "is_fraction" "is_fraction" st_is_fraction a_is_fraction d_is_fraction) {a_divisor_of : Addr} {d_divisor_of : FuncData} (F_divisor_of : Fun K "divisor_of" "divisor_of" st_divisor_of a_divisor_of d_divisor_of) (b_abs : mg "abs" = none) (q_divisor_of : mg "divisor_of" = some (.ref a_divisor_of)) (k_divisor_of : PySem.W.keepIn K (.ref a_divisor_of) = true) {a_is_many : Addr} {d_is_many : FuncData} (F_is_many : Fun K "is_many" "is_many" st_is_many a_is_many d_is_many) {a_is_integer : Addr} {d_is_integer : FuncData} (F_is_integer : Fun K "is_integer" "is_integer" st_is_integer a_is_integer d_is_integer) (b_isinstance : mg "isinstance" = none) (b_bool : mg "bool" = none) (b_int : mg "int" = none) (q_is_integer : mg "is_integer" = some (.ref a_is_integer)) (k_is_integer : PySem.W.keepIn K (.ref a_is_integer) = true) (q_is_many : mg "is_many" = some (.ref a_is_many)) (k_is_many : PySem.W.keepIn K (.ref a_is_many) = true) (b_len : mg "len" = none) (b_tuple : mg "tuple" = none) (q_is_fraction : mg "is_fraction" = some (.ref a_is_fraction)) (k_is_fraction : PySem.W.keepIn K (.ref a_is_fraction) = true) (q_require_fractions : mg "require_fractions" = some (.ref a_require_fractions)) (k_require_fractions : PySem.W.keepIn K (.ref a_require_fractions) = true) : Okf P w K mg base cm 5 a_greatest m_greatest :=
  okf_star (ps := []) (pv := "fractions") (N := ["fractions"]) F_greatest sc_greatest (fun _ _ _ _ _ _ us rest hl => match us, rest, hl with | [], [], _ => rfl | [], _ :: _, _ => rfl) fun cdv A outer s H E hr =>
    (pss_cons' (psd_expr (pd_ofS (psl_callR ((ok_require_fractions F_require_fractions b_all F_is_fraction F_divisor_of b_abs q_divisor_of k_divisor_of F_is_many F_is_integer b_isinstance b_bool b_int q_is_integer k_is_integer q_is_many k_is_many b_len b_tuple q_is_fraction k_is_fraction).mono (by decide)) good_require_fractions (takes_of rfl rfl rfl rfl) hr (by rfl) q_require_fractions k_require_fractions (pas_cons (po_name 0) pas_nil))))
    (pss_one' (psd_ret (pd_ofS (psl_callR ((ok_greatest_in F_greatest_in F_is_less q_is_less k_is_less).mono (by decide)) good_greatest_in (takes_of rfl rfl rfl rfl) hr (by rfl) q_greatest_in k_greatest_in (pas_cons (po_name 0) pas_nil))))))
end
/-! _law_roll -/
abbrev st__law_roll : Stmt := topS 21
theorem sc__law_roll : FnScope ["dice", "total", "size", "one", "two", "drawn"] ["dice", "total"] (defScope st__law_roll) := ⟨rfl, rfl, rfl, by decide +kernel, rfl, by decide +kernel, by decide +kernel⟩
def g__law_roll : SM := (seqS (exps (callD (one intF) (consO (nameO 1) (M.ret []))) (setV 2))
    (seqS (exps (asB (op2 gtG (toO (op2 ixG (nameO 0) (toO (M.ret (.int 0))))) (toO (M.ret (.int 0))))) fun k => if k = true then (seqS (exps (op2 modG (toO (op2 ixG (nameO 0) (toO (M.ret (.int 0))))) (nameO 2)) (setV 5))
    (seqS (storeS 0 setLG (op2 fdivG (toO (op2 ixG (nameO 0) (toO (M.ret (.int 0))))) (nameO 2)) (M.ret (.int 0)))
    (exps (callD (one intF) (consO (nameO 5) (M.ret []))) fun d ρ => some (.ret (.val d), ρ)))) else skipS)
    (seqS (storeS 0 setLG (op2 addG (toO (op2 ixG (nameO 0) (toO (M.ret (.int 2))))) (toO (M.ret (.int 1)))) (M.ret (.int 2)))
    (seqS (exps (op2 modG (toO (op2 addG (toO (op2 ixG (nameO 0) (toO (M.ret (.int 1))))) (toO (op2 mulG (toO (M.ret (.int 1000249))) (toO (op2 ixG (nameO 0) (toO (M.ret (.int 2))))))))) (toO (M.ret (.int 2305843009213693951)))) (setV 3))
    (seqS (exps (op2 addG (toO (op2 mulG (toO (op2 modG (toO (op2 mulG (nameO 3) (nameO 3))) (toO (M.ret (.int 2305843009213693921))))) (nameO 3))) (toO (op2 mulG (toO (M.ret (.int 9437))) (toO (op2 ixG (nameO 0) (toO (M.ret (.int 2)))))))) (setV 4))
    (seqS (exps (op2 modG (nameO 4) (toO (M.ret (.int 2305843009213693907)))) (setV 4))
    (exps (callD (one intF) (consO (toO (op2 modG (toO (op2 fdivG (nameO 4) (toO (M.ret (.int 4096))))) (nameO 2))) (M.ret []))) fun d ρ => some (.ret (.val d), ρ))))))))
def m__law_roll : FD := fnD 2 6 g__law_roll
theorem good__law_roll : Good m__law_roll := fnD_good 2 6 g__law_roll
section
variable {P : Program} {w : World} {K : PySem.W.Frag} {mg : Str → Option Value} {base : Heap} {cm : Str → Option Addr}
theorem ok__law_roll {a__law_roll : Addr} {d__law_roll : FuncData} (F__law_roll : Fun K "_law_roll" "_law_roll" st__law_roll a__law_roll d__law_roll) (b_int : mg "int" = none) : Okf P w K mg base cm 1 a__law_roll m__law_roll :=
  okf_of (ps := ["dice", "total"]) (ok_def (N := ["dice", "total", "size", "one", "two", "drawn"]) F__law_roll sc__law_roll fun cdv A outer s H E hr =>
    (pss_cons' (psd_set 2 sc__law_roll.nd (pd_callTy call_int1 cd_int (by rfl) b_int (by decide +kernel) (pas_cons (po_name 1) pas_nil)))
    (pss_cons' (psd_if (pb_cmp op_gtC od_cmp (po_of (pd_ix (po_name 0) (po_of pd_int))) (po_of pd_int) (by with_unfolding_all rfl))
    (pss_cons' (psd_set 5 sc__law_roll.nd (pd_op op_mod od_mod (po_of (pd_ix (po_name 0) (po_of pd_int))) (po_name 2)))
    (pss_cons' (psd_setIx 0 (pd_op op_fdivW od_fdiv (po_of (pd_ix (po_name 0) (po_of pd_int))) (po_name 2)) pd_int)
    (pss_one' (psd_ret (pd_callTy call_int1 cd_int (by rfl) b_int (by decide +kernel) (pas_cons (po_name 5) pas_nil))))))
    pss_nil')
    (pss_cons' (psd_setIx 0 (pd_op op_addD od_add (po_of (pd_ix (po_name 0) (po_of pd_int))) (po_of pd_int)) pd_int)
    (pss_cons' (psd_set 3 sc__law_roll.nd (pd_op op_mod od_mod (po_of (pd_op op_addD od_add (po_of (pd_ix (po_name 0) (po_of pd_int))) (po_of (pd_op op_mulD od_mul (po_of pd_int) (po_of (pd_ix (po_name 0) (po_of pd_int))))))) (po_of pd_int)))
    (pss_cons' (psd_set 4 sc__law_roll.nd (pd_op op_addD od_add (po_of (pd_op op_mulD od_mul (po_of (pd_op op_mod od_mod (po_of (pd_op op_mulD od_mul (po_name 3) (po_name 3))) (po_of pd_int))) (po_name 3))) (po_of (pd_op op_mulD od_mul (po_of pd_int) (po_of (pd_ix (po_name 0) (po_of pd_int)))))))
    (pss_cons' (psd_set 4 sc__law_roll.nd (pd_op op_mod od_mod (po_name 4) (po_of pd_int)))
    (pss_one' (psd_ret (pd_callTy call_int1 cd_int (by rfl) b_int (by decide +kernel) (pas_cons (po_of (pd_op op_mod od_mod (po_of (pd_op op_fdivW od_fdiv (po_name 4) (po_of pd_int))) (po_name 2))) pas_nil))))))))))) (F__law_roll.binds (ps := ["dice", "total"]) fun _ _ _ _ _ _ us hl => match us, hl with | [_, _], _ => rfl)
end
/-! _law_one_of -/
abbrev st__law_one_of : Stmt := topS 22
theorem sc__law_one_of : FnScope ["dice", "items"] ["dice", "items"] (defScope st__law_one_of) := ⟨rfl, rfl, rfl, by decide +kernel, rfl, by decide +kernel, by decide +kernel⟩
def g__law_one_of : SM := (exps (op2 ixG (nameO 1) (toO (M.bind (callS m__law_roll (consO (nameO 0) (consO (toO (callD (one lenG) (consO (nameO 1) (M.ret [])))) (M.ret [])))) sVal))) fun d ρ => some (.ret (.val d), ρ))
def m__law_one_of : FD := fnD 2 2 g__law_one_of
theorem good__law_one_of : Good m__law_one_of := fnD_good 2 2 g__law_one_of
section
variable {P : Program} {w : World} {K : PySem.W.Frag} {mg : Str → Option Value} {base : Heap} {cm : Str → Option Addr}
theorem ok__law_one_of {a__law_one_of : Addr} {d__law_one_of : FuncData} (F__law_one_of : Fun K "_law_one_of" "_law_one_of" st__law_one_of a__law_one_of d__law_one_of) {a__law_roll : Addr} {d__law_roll : FuncData} (F__law_roll : Fun K "_law_roll" "_law_roll" st__law_roll a__law_roll d__law_roll) (b_int : mg "int" = none) (q__law_roll : mg "_law_roll" = some (.ref a__law_roll)) (k__law_roll : PySem.W.keepIn K (.ref a__law_roll) = true) (b_len : mg "len" = none) : Okf P w K mg base cm 2 a__law_one_of m__law_one_of :=
  okf_of (ps := ["dice", "items"]) (ok_def (N := ["dice", "items"]) F__law_one_of sc__law_one_of fun cdv A outer s H E hr =>
    (pss_one' (psd_ret (pd_ix (po_name 1) (po_of (pd_ofS (psl_callR ((ok__law_roll F__law_roll b_int).mono (by decide)) good__law_roll (takes_of rfl rfl rfl rfl) hr (by rfl) q__law_roll k__law_roll (pas_cons (po_name 0) (pas_cons (po_of (pd_callB call_lenS cd_len (by rfl) b_len (by decide +kernel) (pas_cons (po_name 1) pas_nil))) pas_nil))))))))) (F__law_one_of.binds (ps := ["dice", "items"]) fun _ _ _ _ _ _ us hl => match us, hl with | [_, _], _ => rfl)
end
/-! _law_drawn -/
abbrev st__law_drawn : Stmt := topS 26
theorem sc__law_drawn : FnScope ["dice", "great"] ["dice"] (defScope st__law_drawn) := ⟨rfl, rfl, rfl, by decide +kernel, rfl, by decide +kernel, by decide +kernel⟩
def g__law_drawn : SM := (seqS (exps (M.bind (callS m__law_one_of (consO (nameO 0) (consO (toO (lstD (consD (M.ret (.int 5)) (consD (M.ret (.int 13)) (consD (M.ret (.int 40)) (M.ret [])))))) (M.ret [])))) sVal) (setV 1))
    (exps (tupD (consD (op2 subG (toO (M.bind (callS m__law_roll (consO (nameO 0) (consO (toO (op2 mulG (toO (M.ret (.int 2))) (nameO 1))) (M.ret [])))) sVal)) (nameO 1)) (consD (op2 addG (toO (M.ret (.int 1))) (toO (M.bind (callS m__law_roll (consO (nameO 0) (consO (nameO 1) (M.ret [])))) sVal))) (M.ret [])))) fun d ρ => some (.ret (.val d), ρ)))
def m__law_drawn : FD := fnD 1 2 g__law_drawn
theorem good__law_drawn : Good m__law_drawn := fnD_good 1 2 g__law_drawn
section
variable {P : Program} {w : World} {K : PySem.W.Frag} {mg : Str → Option Value} {base : Heap} {cm : Str → Option Addr}
theorem ok__law_drawn {a__law_drawn : Addr} {d__law_drawn : FuncData} (F__law_drawn : Fun K "_law_drawn" "_law_drawn" st__law_drawn a__law_drawn d__law_drawn) {a__law_roll : Addr} {d__law_roll : FuncData} (F__law_roll : Fun K "_law_roll" "_law_roll" st__law_roll a__law_roll d__law_roll) (b_int : mg "int" = none) (q__law_roll : mg "_law_roll" = some (.ref a__law_roll)) (k__law_roll : PySem.W.keepIn K (.ref a__law_roll) = true) {a__law_one_of : Addr} {d__law_one_of : FuncData} (F__law_one_of : Fun K "_law_one_of" "_law_one_of" st__law_one_of a__law_one_of d__law_one_of) (b_len : mg "len" = none) (q__law_one_of : mg "_law_one_of" = some (.ref a__law_one_of)) (k__law_one_of : PySem.W.keepIn K (.ref a__law_one_of) = true) : Okf P w K mg base cm 3 a__law_drawn m__law_drawn :=
  okf_of (ps := ["dice"]) (ok_def (N := ["dice", "great"]) F__law_drawn sc__law_drawn fun cdv A outer s H E hr =>
    (pss_cons' (psd_set 1 sc__law_drawn.nd (pd_ofS (psl_callR ((ok__law_one_of F__law_one_of F__law_roll b_int q__law_roll k__law_roll b_len).mono (by decide)) good__law_one_of (takes_of rfl rfl rfl rfl) hr (by rfl) q__law_one_of k__law_one_of (pas_cons (po_name 0) (pas_cons (po_of (pd_fresh (pf_lst (pvs_cons pd_int (pvs_cons pd_int (pvs_cons pd_int pvs_nil)))))) pas_nil)))))
    (pss_one' (psd_ret (pd_tup (pvs_cons (pd_op op_sub od_sub (po_of (pd_ofS (psl_callR ((ok__law_roll F__law_roll b_int).mono (by decide)) good__law_roll (takes_of rfl rfl rfl rfl) hr (by rfl) q__law_roll k__law_roll (pas_cons (po_name 0) (pas_cons (po_of (pd_op op_mulD od_mul (po_of pd_int) (po_name 1))) pas_nil))))) (po_name 1)) (pvs_cons (pd_op op_addD od_add (po_of pd_int) (po_of (pd_ofS (psl_callR ((ok__law_roll F__law_roll b_int).mono (by decide)) good__law_roll (takes_of rfl rfl rfl rfl) hr (by rfl) q__law_roll k__law_roll (pas_cons (po_name 0) (pas_cons (po_name 1) pas_nil)))))) pvs_nil))))))) (F__law_drawn.binds (ps := ["dice"]) fun _ _ _ _ _ _ us hl => match us, hl with | [_], _ => rfl)
end
/-! _law_lowest -/
abbrev st__law_lowest : Stmt := topS 23
theorem sc__law_lowest : FnScope ["numerator", "denominator", "one", "other"] ["numerator", "denominator"] (defScope st__law_lowest) := ⟨rfl, rfl, rfl, by decide +kernel, rfl, by decide +kernel, by decide +kernel⟩
def c1__law_lowest : M Bool := asB (op2 gtG (nameO 3) (toO (M.ret (.int 0))))
def b2__law_lowest : SM := (parS 2 3 (consD (frzAt 3) (consD (op2 modG (toO (callD (one intF) (consO (nameO 2) (M.ret [])))) (nameO 3)) (M.ret []))))
def g__law_lowest : SM := (seqS (parS 2 3 (consD (callD (one absG) (consO (nameO 0) (M.ret []))) (consD (frzAt 1) (M.ret []))))
    (seqS (fun ρ => loopW (c1__law_lowest) b2__law_lowest ((muI 1) ρ) ρ)
    (exps (tupD (consD (op2 fdivG (nameO 0) (nameO 2)) (consD (op2 fdivG (nameO 1) (nameO 2)) (M.ret [])))) fun d ρ => some (.ret (.val d), ρ))))
def m__law_lowest : FD := fnD 2 4 g__law_lowest
theorem good__law_lowest : Good m__law_lowest := fnD_good 2 4 g__law_lowest
section
variable {P : Program} {w : World} {K : PySem.W.Frag} {mg : Str → Option Value} {base : Heap} {cm : Str → Option Addr}
theorem ok__law_lowest {a__law_lowest : Addr} {d__law_lowest : FuncData} (F__law_lowest : Fun K "_law_lowest" "_law_lowest" st__law_lowest a__law_lowest d__law_lowest) (b_int : mg "int" = none) (b_abs : mg "abs" = none) : Okf P w K mg base cm 1 a__law_lowest m__law_lowest :=
  okf_of (ps := ["numerator", "denominator"]) (ok_def (N := ["numerator", "denominator", "one", "other"]) F__law_lowest sc__law_lowest fun cdv A outer s H E hr =>
    (pss_cons' (psd_par (i := 2) (j := 3) rfl sc__law_lowest.nd (pvs_cons (pd_callB call_abs cd_abs (by rfl) b_abs (by decide +kernel) (pas_cons (po_name 0) pas_nil)) (pvs_cons (pd_name 1) pvs_nil)))
    (pss_cons' (psd_while (muI 1) (passes_of rfl) (pb_cmp op_gtC od_cmp (po_name 3) (po_of pd_int) (by with_unfolding_all rfl))
    (pss_one' (psd_par (i := 2) (j := 3) rfl sc__law_lowest.nd (pvs_cons (pd_name 3) (pvs_cons (pd_op op_mod od_mod (po_of (pd_callTy call_int1 cd_int (by rfl) b_int (by decide +kernel) (pas_cons (po_name 2) pas_nil))) (po_name 3)) pvs_nil)))))
    (pss_one' (psd_ret (pd_tup (pvs_cons (pd_op op_fdivW od_fdiv (po_name 0) (po_name 2)) (pvs_cons (pd_op op_fdivW od_fdiv (po_name 1) (po_name 2)) pvs_nil)))))))) (F__law_lowest.binds (ps := ["numerator", "denominator"]) fun _ _ _ _ _ _ us hl => match us, hl with | [_, _], _ => rfl)
end
/-! _law_is_lowest -/
abbrev st__law_is_lowest : Stmt := topS 25
theorem sc__law_is_lowest : FnScope ["one", "top", "low", "some", "by"] ["one"] (defScope st__law_is_lowest) := ⟨rfl, rfl, rfl, by decide +kernel, rfl, by decide +kernel, by decide +kernel⟩
def s1__law_is_lowest : GS := gV 4
def t2__law_is_lowest : M Bool := andB (asB (op2 eqG (toO (op2 modG (nameO 1) (nameO 4))) (toO (M.ret (.int 0))))) (asB (op2 eqG (toO (op2 modG (nameO 2) (nameO 4))) (toO (M.ret (.int 0)))))
def e3__law_is_lowest : M D := frzAt 4
def l4__law_is_lowest : M D := compD (walkL (frzAt 3)) (s1__law_is_lowest) (t2__law_is_lowest) (e3__law_is_lowest) [4]
def g__law_is_lowest : SM := (seqS (exps (tupD (consD (callD (one intF) (consO (toO (op2 ixG (nameO 0) (toO (M.ret (.int 0))))) (M.ret []))) (consD (callD (one intF) (consO (toO (op2 ixG (nameO 0) (toO (M.ret (.int 1))))) (M.ret []))) (M.ret [])))) fun d ρ => (gT 2 (gC (gV 1) (gC (gV 2) (gN))) d ρ).map fun ρ' => (.nx, ρ'))
    (seqS (exps (rangeL (M.ret (.int 2)) (op2 addG (toO (op2 addG (toO (callD (one absG) (consO (nameO 1) (M.ret [])))) (nameO 2))) (toO (M.ret (.int 1))))) (setV 3))
    (exps (andD (op2 gtG (nameO 2) (toO (M.ret (.int 0)))) (op2 eqG (toO (l4__law_is_lowest)) (toO (lstD (M.ret []))))) fun d ρ => some (.ret (.val d), ρ))))
def m__law_is_lowest : FD := fnD 1 5 g__law_is_lowest
theorem good__law_is_lowest : Good m__law_is_lowest := fnD_good 1 5 g__law_is_lowest
section
variable {P : Program} {w : World} {K : PySem.W.Frag} {mg : Str → Option Value} {base : Heap} {cm : Str → Option Addr}
theorem ok__law_is_lowest {a__law_is_lowest : Addr} {d__law_is_lowest : FuncData} (F__law_is_lowest : Fun K "_law_is_lowest" "_law_is_lowest" st__law_is_lowest a__law_is_lowest d__law_is_lowest) (b_list : mg "list" = none) (b_range : mg "range" = none) (b_abs : mg "abs" = none) (b_int : mg "int" = none) : Okf P w K mg base cm 1 a__law_is_lowest m__law_is_lowest :=
  okf_of (ps := ["one"]) (ok_def (N := ["one", "top", "low", "some", "by"]) F__law_is_lowest sc__law_is_lowest fun cdv A outer s H E hr =>
    (pss_cons' (psd_asg (pd_tup (pvs_cons (pd_callTy call_int1 cd_int (by rfl) b_int (by decide +kernel) (pas_cons (po_of (pd_ix (po_name 0) (po_of pd_int))) pas_nil)) (pvs_cons (pd_callTy call_int1 cd_int (by rfl) b_int (by decide +kernel) (pas_cons (po_of (pd_ix (po_name 0) (po_of pd_int))) pas_nil)) pvs_nil))) (pgd_tup rfl (pgs_cons' (pgd_name 1 sc__law_is_lowest.nd) (pgs_cons' (pgd_name 2 sc__law_is_lowest.nd) pgs_nil'))))
    (pss_cons' (psd_set 3 sc__law_is_lowest.nd (pd_fresh (pf_listRange rfl (by rfl) b_list (by rfl) b_range pd_int (pd_op op_addD od_add (po_of (pd_op op_addD od_add (po_of (pd_callB call_abs cd_abs (by rfl) b_abs (by decide +kernel) (pas_cons (po_name 1) pas_nil))) (po_name 2))) (po_of pd_int)))))
    (pss_one' (psd_ret (pd_and (pd_cmp op_gtC od_cmp (po_name 2) (po_of pd_int) (by with_unfolding_all rfl)) (pd_one (pd_cmp (op_eqD hr.units) od_eq (po_of (pd_fresh (pf_lc [("by", 4)] rfl sc__law_is_lowest.nd (pid_list (pd_name 3)) (blkOk_by (own := [("by", 4)]) (N := ["one", "top", "low", "some", "by"]) (sc := defScope st__law_is_lowest) (by decide +kernel)) (fun _ _ _ _ _ => (pgd_name 4 sc__law_is_lowest.nd)) (fun _ _ _ _ _ => (ptsd_one (pb_w (pw_and' (pb_cmp (op_eqD hr.units) od_eq (po_of (pd_op op_mod od_mod (po_name 1) (po_name 4))) (po_of pd_int) (by with_unfolding_all rfl)) (pw_and1' (pb_cmp (op_eqD hr.units) od_eq (po_of (pd_op op_mod od_mod (po_name 2) (po_name 4))) (po_of pd_int) (by with_unfolding_all rfl))))))) (fun _ _ _ _ _ => (pd_name 4))))) (po_of (pd_fresh (pf_lst pvs_nil))) (by with_unfolding_all rfl))))))))) (F__law_is_lowest.binds (ps := ["one"]) fun _ _ _ _ _ _ us hl => match us, hl with | [_], _ => rfl)
end
/-! is_lower -/
abbrev st_is_lower : Stmt := topS 16
theorem sc_is_lower : FnScope ["one", "other"] ["one", "other"] (defScope st_is_lower) := ⟨rfl, rfl, rfl, by decide +kernel, rfl, by decide +kernel, by decide +kernel⟩
def g_is_lower : SM := (seqS (exps (M.bind (callS m_require_fractions (consO (toO (tupD (consD (frzAt 0) (consD (frzAt 1) (M.ret []))))) (M.ret []))) sVal) fun _ => skipS)
    (exps (M.bind (callS m_is_less (consO (nameO 0) (consO (nameO 1) (M.ret [])))) sVal) fun d ρ => some (.ret (.val d), ρ)))
def m_is_lower : FD := fnD 2 2 g_is_lower
theorem good_is_lower : Good m_is_lower := fnD_good 2 2 g_is_lower
section
variable {P : Program} {w : World} {K : PySem.W.Frag} {mg : Str → Option Value} {base : Heap} {cm : Str → Option Addr}
theorem ok_is_lower {a_is_lower : Addr} {d_is_lower : FuncData} (F_is_lower : Fun K "is_lower" "is_lower" st_is_lower a_is_lower d_is_lower) {a_is_less : Addr} {d_is_less : FuncData} (F_is_less : Fun K "is_less" "is_less" st_is_less a_is_less d_is_less) (q_is_less : mg "is_less" = some (.ref a_is_less)) (k_is_less : PySem.W.keepIn K (.ref a_is_less) = true) {a_require_fractions : Addr} {d_require_fractions : FuncData} (F_require_fractions : Fun K "require_fractions" "require_fractions" st_require_fractions a_require_fractions d_require_fractions) (b_all : mg "all" = none) {a_is_fraction : Addr} {d_is_fraction : FuncData} (F_is_fraction : Fun K "is_fraction" "is_fraction" st_is_fraction a_is_fraction d_is_fraction) {a_divisor_of : Addr} {d_divisor_of : FuncData} (F_divisor_of : Fun K "divisor_of" "divisor_of" st_divisor_of a_divisor_of d_divisor_of) (b_abs : mg "abs" = none) (q_divisor_of : mg "divisor_of" = some (.ref a_divisor_of)) (k_divisor_of : PySem.W.keepIn K (.ref a_divisor_of) = true) {a_is_many : Addr} {d_is_many : FuncData} (F_is_many : Fun K "is_many" "is_many" st_is_many a_is_many d_is_many) {a_is_integer : Addr} {d_is_integer : FuncData} (F_is_integer : Fun K "is_integer" "is_integer" st_is_integer a_is_integer d_is_integer) (b_isinstance : mg "isinstance" = none) (b_bool : mg "bool" = none) (b_int : mg "int" = none) (q_is_integer : mg "is_integer" = some (.ref a_is_integer)) (k_is_integer : PySem.W.keepIn K (.ref a_is_integer) = true) (q_is_many : mg "is_many" = some (.ref a_is_many)) (k_is_many : PySem.W.keepIn K (.ref a_is_many) = true) (b_len : mg "len" = none) (b_tuple : mg "tuple" = none) (q_is_fraction : mg "is_fraction" = some (.ref a_is_fraction)) (k_is_fraction : PySem.W.keepIn K (.ref a_is_fraction) = true) (q_require_fractions : mg "require_fractions" = some (.ref a_require_fractions)) (k_require_fractions : PySem.W.keepIn K (.ref a_require_fractions) = true) : Okf P w K mg base cm 5 a_is_lower m_is_lower :=
  okf_of (ps := ["one", "other"]) (ok_def (N := ["one", "other"]) F_is_lower sc_is_lower fun cdv A outer s H E hr =>
    (pss_cons' (psd_expr (pd_ofS (psl_callR ((ok_require_fractions F_require_fractions b_all F_is_fraction F_divisor_of b_abs q_divisor_of k_divisor_of F_is_many F_is_integer b_isinstance b_bool b_int q_is_integer k_is_integer q_is_many k_is_many b_len b_tuple q_is_fraction k_is_fraction).mono (by decide)) good_require_fractions (takes_of rfl rfl rfl rfl) hr (by rfl) q_require_fractions k_require_fractions (pas_cons (po_of (pd_tup (pvs_cons (pd_name 0) (pvs_cons (pd_name 1) pvs_nil)))) pas_nil))))
    (pss_one' (psd_ret (pd_ofS (psl_callR ((ok_is_less F_is_less).mono (by decide)) good_is_less (takes_of rfl rfl rfl rfl) hr (by rfl) q_is_less k_is_less (pas_cons (po_name 0) (pas_cons (po_name 1) pas_nil)))))))) (F_is_lower.binds (ps := ["one", "other"]) fun _ _ _ _ _ _ us hl => match us, hl with | [_, _], _ => rfl)
end
/-! _law_less -/
abbrev st__law_less : Stmt := topS 24
theorem sc__law_less : FnScope ["one", "other"] ["one", "other"] (defScope st__law_less) := ⟨rfl, rfl, rfl, by decide +kernel, rfl, by decide +kernel, by decide +kernel⟩
def g__law_less : SM := (exps (op2 ltG (toO (op2 mulG (toO (op2 ixG (nameO 0) (toO (M.ret (.int 0))))) (toO (op2 ixG (nameO 1) (toO (M.ret (.int 1))))))) (toO (op2 mulG (toO (op2 ixG (nameO 1) (toO (M.ret (.int 0))))) (toO (op2 ixG (nameO 0) (toO (M.ret (.int 1)))))))) fun d ρ => some (.ret (.val d), ρ))
def m__law_less : FD := fnD 2 2 g__law_less
theorem good__law_less : Good m__law_less := fnD_good 2 2 g__law_less
section
variable {P : Program} {w : World} {K : PySem.W.Frag} {mg : Str → Option Value} {base : Heap} {cm : Str → Option Addr}
theorem ok__law_less {a__law_less : Addr} {d__law_less : FuncData} (F__law_less : Fun K "_law_less" "_law_less" st__law_less a__law_less d__law_less) : Okf P w K mg base cm 1 a__law_less m__law_less :=
  okf_of (ps := ["one", "other"]) (ok_def (N := ["one", "other"]) F__law_less sc__law_less fun cdv A outer s H E hr =>
    (pss_one' (psd_ret (pd_cmp op_ltC od_cmp (po_of (pd_op op_mulD od_mul (po_of (pd_ix (po_name 0) (po_of pd_int))) (po_of (pd_ix (po_name 1) (po_of pd_int))))) (po_of (pd_op op_mulD od_mul (po_of (pd_ix (po_name 1) (po_of pd_int))) (po_of (pd_ix (po_name 0) (po_of pd_int))))) (by with_unfolding_all rfl))))) (F__law_less.binds (ps := ["one", "other"]) fun _ _ _ _ _ _ us hl => match us, hl with | [_, _], _ => rfl)
end
/-! _law_right -/
abbrev st__law_right : Stmt := topS 27
theorem sc__law_right : FnScope ["dice", "pairs", "rows", "one", "other", "most", "by", "far", "near", "due", "turn"] ["dice"] (defScope st__law_right) := ⟨rfl, rfl, rfl, by decide +kernel, rfl, by decide +kernel, by decide +kernel⟩
def s1__law_right : GS := gV 3
def e2__law_right : M D := M.bind (callS m_is_fraction (consO (nameO 3) (M.ret []))) sVal
def l3__law_right : M D := compD (walkL (frzAt 8)) (s1__law_right) (M.ret true) (e2__law_right) [3]
def s4__law_right : GS := gV 3
def t5__law_right : M Bool := truB (toO (M.bind (callS m__law_less (consO (nameO 5) (consO (nameO 3) (M.ret [])))) sVal))
def e6__law_right : M D := frzAt 3
def l7__law_right : M D := compD (walkL (frzAt 2)) (s4__law_right) (t5__law_right) (e6__law_right) [3]
def s8__law_right : GS := gT 2 (gC (gV 3) (gC (gV 4) (gN)))
def b9__law_right : SM := (exps (orB (asB (op2 neG (toO (M.bind (callS m_is_lower (consO (nameO 3) (consO (nameO 4) (M.ret [])))) sVal)) (toO (M.bind (callS m__law_less (consO (nameO 3) (consO (nameO 4) (M.ret [])))) sVal)))) (andB (truB (toO (M.bind (callS m_is_lower (consO (nameO 3) (consO (nameO 4) (M.ret [])))) sVal))) (truB (toO (M.bind (callS m_is_lower (consO (nameO 4) (consO (nameO 3) (M.ret [])))) sVal))))) fun k => if k = true then (exps (M.ret (.bl false)) fun d ρ => some (.ret (.val d), ρ)) else skipS)
def s10__law_right : GS := gV 3
def t11__law_right : M Bool := notB (truB (toO (M.bind (callS m__law_is_lowest (consO (nameO 3) (M.ret []))) sVal)))
def e12__law_right : M D := frzAt 3
def l13__law_right : M D := compD (walkL (frzAt 2)) (s10__law_right) (t11__law_right) (e12__law_right) [3]
def s14__law_right : GS := gT 2 (gC (gV 3) (gC (gV 4) (gN)))
def e15__law_right : M D := M.bind (callS m__law_lowest (consO (nameO 3) (consO (nameO 4) (M.ret [])))) sVal
def l16__law_right : M D := compD (walkL (frzAt 1)) (s14__law_right) (M.ret true) (e15__law_right) [3, 4]
def s17__law_right : GS := gT 2 (gC (gV 3) (gC (gV 4) (gN)))
def e18__law_right : M D := M.bind (callS m_fraction (consO (nameO 3) (consO (nameO 4) (M.ret [])))) sVal
def l19__law_right : M D := compD (walkL (frzAt 1)) (s17__law_right) (M.ret true) (e18__law_right) [3, 4]
def s20__law_right : GS := gV 10
def e21__law_right : M D := M.bind (callS m__law_drawn (consO (nameO 0) (M.ret []))) sVal
def l22__law_right : M D := compD (walkR1 (consO (toO (M.ret (.int 3))) (M.ret []))) (s20__law_right) (M.ret true) (e21__law_right) [10]
def g__law_right : SM := (seqS (exps (l22__law_right) (setV 1))
    (seqS (exps (l19__law_right) (setV 2))
    (seqS (exps (asB (op2 neG (nameO 2) (toO (l16__law_right)))) fun k => if k = true then (exps (M.ret (.bl false)) fun d ρ => some (.ret (.val d), ρ)) else skipS)
    (seqS (exps (asB (op2 neG (toO (l13__law_right)) (toO (lstD (M.ret []))))) fun k => if k = true then (exps (M.ret (.bl false)) fun d ρ => some (.ret (.val d), ρ)) else skipS)
    (seqS (exps (walkL (lstD (consD (tupD (consD (op2 ixG (nameO 2) (toO (M.ret (.int 0)))) (consD (op2 ixG (nameO 2) (toO (M.ret (.int 1)))) (M.ret [])))) (consD (tupD (consD (op2 ixG (nameO 2) (toO (M.ret (.int 1)))) (consD (op2 ixG (nameO 2) (toO (M.ret (.int 2)))) (M.ret [])))) (consD (tupD (consD (op2 ixG (nameO 2) (toO (M.ret (.int 2)))) (consD (op2 ixG (nameO 2) (toO (M.ret (.int 2)))) (M.ret [])))) (M.ret [])))))) fun ds => loopF s8__law_right b9__law_right ds)
    (seqS (exps (M.bind (callS m_greatest (consO (toO (op2 ixG (nameO 2) (toO (M.ret (.int 0))))) (consO (toO (op2 ixG (nameO 2) (toO (M.ret (.int 1))))) (consO (toO (op2 ixG (nameO 2) (toO (M.ret (.int 2))))) (M.ret []))))) sVal) (setV 5))
    (seqS (exps (orB (asB (op2 notInDG (nameO 5) (nameO 2))) (orB (asB (op2 neG (toO (l7__law_right)) (toO (lstD (M.ret []))))) (asB (op2 neG (toO (M.bind (callS m_greatest (consO (toO (op2 ixG (nameO 2) (toO (M.ret (.int 1))))) (M.ret []))) sVal)) (toO (op2 ixG (nameO 2) (toO (M.ret (.int 1))))))))) fun k => if k = true then (exps (M.ret (.bl false)) fun d ρ => some (.ret (.val d), ρ)) else skipS)
    (seqS (parS 6 7 (consD (op2 addG (toO (M.ret (.int 2))) (toO (M.bind (callS m__law_roll (consO (nameO 0) (consO (toO (M.ret (.int 5))) (M.ret [])))) sVal))) (consD (op2 addG (toO (op2 powG (toO (M.ret (.int 10))) (toO (M.ret (.int 11))))) (toO (M.bind (callS m__law_roll (consO (nameO 0) (consO (toO (M.ret (.int 1000))) (M.ret [])))) sVal))) (M.ret []))))
    (seqS (exps (orB (asB (op2 neG (toO (M.bind (callS m_fraction (consO (toO (op2 mulG (toO (op2 ixG (toO (op2 ixG (nameO 1) (toO (M.ret (.int 0))))) (toO (M.ret (.int 0))))) (nameO 6))) (consO (toO (op2 mulG (toO (op2 ixG (toO (op2 ixG (nameO 1) (toO (M.ret (.int 0))))) (toO (M.ret (.int 1))))) (nameO 6))) (M.ret [])))) sVal)) (toO (op2 ixG (nameO 2) (toO (M.ret (.int 0))))))) (asB (op2 neG (toO (M.bind (callS m_fraction (consO (nameO 7) (consO (nameO 7) (M.ret [])))) sVal)) (toO (tupD (consD (M.ret (.int 1)) (consD (M.ret (.int 1)) (M.ret [])))))))) fun k => if k = true then (exps (M.ret (.bl false)) fun d ρ => some (.ret (.val d), ρ)) else skipS)
    (seqS (exps (lstD (consD (op2 ixG (nameO 2) (toO (M.ret (.int 0)))) (consD (op2 ixG (nameO 1) (toO (M.ret (.int 0)))) (consD (tupD (consD (op2 ixG (toO (op2 ixG (nameO 2) (toO (M.ret (.int 0))))) (toO (M.ret (.int 0)))) (consD (M.ret (.int 0)) (M.ret [])))) (consD (tupD (consD (op2 ixG (toO (op2 ixG (nameO 2) (toO (M.ret (.int 0))))) (toO (M.ret (.int 0)))) (consD (app1 negG (toO (M.ret (.int 1)))) (M.ret [])))) (consD (op2 addG (toO (op2 ixG (nameO 2) (toO (M.ret (.int 0))))) (toO (tupD (consD (M.ret (.int 1)) (M.ret []))))) (consD (callD (one listG) (consO (toO (op2 ixG (nameO 2) (toO (M.ret (.int 0))))) (M.ret []))) (consD (tupD (consD (M.ret (.bl true)) (consD (M.ret (.int 2)) (M.ret [])))) (M.ret []))))))))) (setV 8))
    (seqS (exps (op2 addG (nameO 8) (toO (lstD (consD (tupD (consD (M.ret (.int 1)) (consD (M.ret (.bl true)) (M.ret [])))) (consD (M.ret .non) (consD (M.ret (.int 3)) (M.ret []))))))) (setV 8))
    (seqS (exps (op2 addG (toO (lstD (consD (M.ret (.bl true)) (consD (M.bind (callS m__law_is_lowest (consO (toO (op2 ixG (nameO 1) (toO (M.ret (.int 0))))) (M.ret []))) sVal) (M.ret []))))) (toO (op2 mulG (toO (lstD (consD (M.ret (.bl false)) (M.ret [])))) (toO (M.ret (.int 8)))))) (setV 9))
    (exps (andD (op2 eqG (toO (l3__law_right)) (nameO 9)) (op2 isBG (toO (M.bind (callS m_is_fraction (consO (toO (tupD (consD (M.ret (.int 0)) (consD (M.ret (.int 2)) (M.ret []))))) (M.ret []))) sVal)) (toO (M.ret (.bl false))))) fun d ρ => some (.ret (.val d), ρ))))))))))))))
def m__law_right : FD := fnD 1 11 g__law_right
theorem good__law_right : Good m__law_right := fnD_good 1 11 g__law_right
section
variable {P : Program} {w : World} {K : PySem.W.Frag} {mg : Str → Option Value} {base : Heap} {cm : Str → Option Addr}
theorem ok__law_right {a__law_right : Addr} {d__law_right : FuncData} (F__law_right : Fun K "_law_right" "_law_right" st__law_right a__law_right d__law_right) {a_is_fraction : Addr} {d_is_fraction : FuncData} (F_is_fraction : Fun K "is_fraction" "is_fraction" st_is_fraction a_is_fraction d_is_fraction) {a_divisor_of : Addr} {d_divisor_of : FuncData} (F_divisor_of : Fun K "divisor_of" "divisor_of" st_divisor_of a_divisor_of d_divisor_of) (b_abs : mg "abs" = none) (q_divisor_of : mg "divisor_of" = some (.ref a_divisor_of)) (k_divisor_of : PySem.W.keepIn K (.ref a_divisor_of) = true) {a_is_many : Addr} {d_is_many : FuncData} (F_is_many : Fun K "is_many" "is_many" st_is_many a_is_many d_is_many) {a_is_integer : Addr} {d_is_integer : FuncData} (F_is_integer : Fun K "is_integer" "is_integer" st_is_integer a_is_integer d_is_integer) (b_isinstance : mg "isinstance" = none) (b_bool : mg "bool" = none) (b_int : mg "int" = none) (q_is_integer : mg "is_integer" = some (.ref a_is_integer)) (k_is_integer : PySem.W.keepIn K (.ref a_is_integer) = true) (q_is_many : mg "is_many" = some (.ref a_is_many)) (k_is_many : PySem.W.keepIn K (.ref a_is_many) = true) (b_len : mg "len" = none) (b_tuple : mg "tuple" = none) (q_is_fraction : mg "is_fraction" = some (.ref a_is_fraction)) (k_is_fraction : PySem.W.keepIn K (.ref a_is_fraction) = true) {a__law_is_lowest : Addr} {d__law_is_lowest : FuncData} (F__law_is_lowest : Fun K "_law_is_lowest" "_law_is_lowest" st__law_is_lowest a__law_is_lowest d__law_is_lowest) (b_list : mg "list" = none) (b_range : mg "range" = none) (q__law_is_lowest : mg "_law_is_lowest" = some (.ref a__law_is_lowest)) (k__law_is_lowest : PySem.W.keepIn K (.ref a__law_is_lowest) = true) {a_fraction : Addr} {d_fraction : FuncData} (F_fraction : Fun K "fraction" "fraction" st_fraction a_fraction d_fraction) {a_fraction_in : Addr} {d_fraction_in : FuncData} (F_fraction_in : Fun K "fraction_in" "fraction_in" st_fraction_in a_fraction_in d_fraction_in) (q_fraction_in : mg "fraction_in" = some (.ref a_fraction_in)) (k_fraction_in : PySem.W.keepIn K (.ref a_fraction_in) = true) (q_fraction : mg "fraction" = some (.ref a_fraction)) (k_fraction : PySem.W.keepIn K (.ref a_fraction) = true) {a__law_roll : Addr} {d__law_roll : FuncData} (F__law_roll : Fun K "_law_roll" "_law_roll" st__law_roll a__law_roll d__law_roll) (q__law_roll : mg "_law_roll" = some (.ref a__law_roll)) (k__law_roll : PySem.W.keepIn K (.ref a__law_roll) = true) {a_greatest : Addr} {d_greatest : FuncData} (F_greatest : Fun K "greatest" "greatest" st_greatest a_greatest d_greatest) {a_greatest_in : Addr} {d_greatest_in : FuncData} (F_greatest_in : Fun K "greatest_in" "greatest_in" st_greatest_in a_greatest_in d_greatest_in) {a_is_less : Addr} {d_is_less : FuncData} (F_is_less : Fun K "is_less" "is_less" st_is_less a_is_less d_is_less) (q_is_less : mg "is_less" = some (.ref a_is_less)) (k_is_less : PySem.W.keepIn K (.ref a_is_less) = true) (q_greatest_in : mg "greatest_in" = some (.ref a_greatest_in)) (k_greatest_in : PySem.W.keepIn K (.ref a_greatest_in) = true) {a_require_fractions : Addr} {d_require_fractions : FuncData} (F_require_fractions : Fun K "require_fractions" "require_fractions" st_require_fractions a_require_fractions d_require_fractions) (b_all : mg "all" = none) (q_require_fractions : mg "require_fractions" = some (.ref a_require_fractions)) (k_require_fractions : PySem.W.keepIn K (.ref a_require_fractions) = true) (q_greatest : mg "greatest" = some (.ref a_greatest)) (k_greatest : PySem.W.keepIn K (.ref a_greatest) = true) {a__law_less : Addr} {d__law_less : FuncData} (F__law_less : Fun K "_law_less" "_law_less" st__law_less a__law_less d__law_less) (q__law_less : mg "_law_less" = some (.ref a__law_less)) (k__law_less : PySem.W.keepIn K (.ref a__law_less) = true) {a_is_lower : Addr} {d_is_lower : FuncData} (F_is_lower : Fun K "is_lower" "is_lower" st_is_lower a_is_lower d_is_lower) (q_is_lower : mg "is_lower" = some (.ref a_is_lower)) (k_is_lower : PySem.W.keepIn K (.ref a_is_lower) = true) {a__law_lowest : Addr} {d__law_lowest : FuncData} (F__law_lowest : Fun K "_law_lowest" "_law_lowest" st__law_lowest a__law_lowest d__law_lowest) (q__law_lowest : mg "_law_lowest" = some (.ref a__law_lowest)) (k__law_lowest : PySem.W.keepIn K (.ref a__law_lowest) = true) {a__law_drawn : Addr} {d__law_drawn : FuncData} (F__law_drawn : Fun K "_law_drawn" "_law_drawn" st__law_drawn a__law_drawn d__law_drawn) {a__law_one_of : Addr} {d__law_one_of : FuncData} (F__law_one_of : Fun K "_law_one_of" "_law_one_of" st__law_one_of a__law_one_of d__law_one_of) (q__law_one_of : mg "_law_one_of" = some (.ref a__law_one_of)) (k__law_one_of : PySem.W.keepIn K (.ref a__law_one_of) = true) (q__law_drawn : mg "_law_drawn" = some (.ref a__law_drawn)) (k__law_drawn : PySem.W.keepIn K (.ref a__law_drawn) = true) : Okf P w K mg base cm 6 a__law_right m__law_right :=
  okf_of (ps := ["dice"]) (ok_def (N := ["dice", "pairs", "rows", "one", "other", "most", "by", "far", "near", "due", "turn"]) F__law_right sc__law_right fun cdv A outer s H E hr =>
    (pss_cons' (psd_setLc (i := 1) [("turn", 10)] rfl sc__law_right.nd rfl rfl (sw_true rfl rfl rfl (by decide +kernel)) (pid_range1 (by rfl) b_range (pas_cons (po_of pd_int) pas_nil)) (blkOk_by (own := [("turn", 10)]) (N := ["dice", "pairs", "rows", "one", "other", "most", "by", "far", "near", "due", "turn"]) (sc := defScope st__law_right) (by decide +kernel)) (fun _ _ _ _ _ => (pgd_name 10 sc__law_right.nd)) (fun _ _ _ _ _ => ptsd_nil) (fun _ _ _ _ _ => (pd_ofS (psl_callR ((ok__law_drawn F__law_drawn F__law_roll b_int q__law_roll k__law_roll F__law_one_of b_len q__law_one_of k__law_one_of).mono (by decide)) good__law_drawn takes0 hr (by rfl) q__law_drawn k__law_drawn (pas_cons (po_name 0) pas_nil)))))
    (pss_cons' (psd_setLc (i := 2) [("one", 3), ("other", 4)] rfl sc__law_right.nd rfl rfl (sw_true rfl rfl rfl (by decide +kernel)) (pid_list (pd_name 1)) (blkOk_by (own := [("one", 3), ("other", 4)]) (N := ["dice", "pairs", "rows", "one", "other", "most", "by", "far", "near", "due", "turn"]) (sc := defScope st__law_right) (by decide +kernel)) (fun _ _ _ _ _ => (pgd_tup rfl (pgs_cons' (pgd_name 3 sc__law_right.nd) (pgs_cons' (pgd_name 4 sc__law_right.nd) pgs_nil')))) (fun _ _ _ _ _ => ptsd_nil) (fun _ _ _ _ _ => (pd_ofS (psl_callR ((ok_fraction F_fraction F_fraction_in F_divisor_of b_abs q_divisor_of k_divisor_of q_fraction_in k_fraction_in F_is_many F_is_integer b_isinstance b_bool b_int q_is_integer k_is_integer q_is_many k_is_many).mono (by decide)) good_fraction takes0 hr (by rfl) q_fraction k_fraction (pas_cons (po_name 3) (pas_cons (po_name 4) pas_nil))))))
    (pss_cons' (psd_if (pb_cmp (op_neD hr.units) od_ne (po_name 2) (po_of (pd_fresh (pf_lc [("one", 3), ("other", 4)] rfl sc__law_right.nd (pid_list (pd_name 1)) (blkOk_by (own := [("one", 3), ("other", 4)]) (N := ["dice", "pairs", "rows", "one", "other", "most", "by", "far", "near", "due", "turn"]) (sc := defScope st__law_right) (by decide +kernel)) (fun _ _ _ _ _ => (pgd_tup rfl (pgs_cons' (pgd_name 3 sc__law_right.nd) (pgs_cons' (pgd_name 4 sc__law_right.nd) pgs_nil')))) (fun _ _ _ _ _ => ptsd_nil) (fun _ _ _ _ _ => (pd_ofS (psl_callR ((ok__law_lowest F__law_lowest b_int b_abs).mono (by decide)) good__law_lowest takes0 hr (by rfl) q__law_lowest k__law_lowest (pas_cons (po_name 3) (pas_cons (po_name 4) pas_nil)))))))) (by with_unfolding_all rfl))
    (pss_one' (psd_ret pd_bl))
    pss_nil')
    (pss_cons' (psd_if (pb_cmp (op_neD hr.units) od_ne (po_of (pd_fresh (pf_lc [("one", 3)] rfl sc__law_right.nd (pid_list (pd_name 2)) (blkOk_by (own := [("one", 3)]) (N := ["dice", "pairs", "rows", "one", "other", "most", "by", "far", "near", "due", "turn"]) (sc := defScope st__law_right) (by decide +kernel)) (fun _ _ _ _ _ => (pgd_name 3 sc__law_right.nd)) (fun _ _ _ _ _ => (ptsd_one (pb_not (pb_truth (po_of (pd_ofS (psl_callR ((ok__law_is_lowest F__law_is_lowest b_list b_range b_abs b_int).mono (by decide)) good__law_is_lowest takes0 hr (by rfl) q__law_is_lowest k__law_is_lowest (pas_cons (po_name 3) pas_nil)))))))) (fun _ _ _ _ _ => (pd_name 3))))) (po_of (pd_fresh (pf_lst pvs_nil))) (by with_unfolding_all rfl))
    (pss_one' (psd_ret pd_bl))
    pss_nil')
    (pss_cons' (psd_for (passes_of rfl) rfl (pid_list (pd_fresh (pf_lst (pvs_cons (pd_tup (pvs_cons (pd_ix (po_name 2) (po_of pd_int)) (pvs_cons (pd_ix (po_name 2) (po_of pd_int)) pvs_nil))) (pvs_cons (pd_tup (pvs_cons (pd_ix (po_name 2) (po_of pd_int)) (pvs_cons (pd_ix (po_name 2) (po_of pd_int)) pvs_nil))) (pvs_cons (pd_tup (pvs_cons (pd_ix (po_name 2) (po_of pd_int)) (pvs_cons (pd_ix (po_name 2) (po_of pd_int)) pvs_nil))) pvs_nil)))))) (pgd_tup rfl (pgs_cons' (pgd_name 3 sc__law_right.nd) (pgs_cons' (pgd_name 4 sc__law_right.nd) pgs_nil')))
    (pss_one' (psd_if (pb_w (pw_or' (pb_cmp (op_neD hr.units) od_ne (po_of (pd_ofS (psl_callR ((ok_is_lower F_is_lower F_is_less q_is_less k_is_less F_require_fractions b_all F_is_fraction F_divisor_of b_abs q_divisor_of k_divisor_of F_is_many F_is_integer b_isinstance b_bool b_int q_is_integer k_is_integer q_is_many k_is_many b_len b_tuple q_is_fraction k_is_fraction q_require_fractions k_require_fractions).mono (by decide)) good_is_lower (takes_of rfl rfl rfl rfl) hr (by rfl) q_is_lower k_is_lower (pas_cons (po_name 3) (pas_cons (po_name 4) pas_nil))))) (po_of (pd_ofS (psl_callR ((ok__law_less F__law_less).mono (by decide)) good__law_less (takes_of rfl rfl rfl rfl) hr (by rfl) q__law_less k__law_less (pas_cons (po_name 3) (pas_cons (po_name 4) pas_nil))))) (by with_unfolding_all rfl)) (pw_or1' (pb_w (pw_and' (pb_truth (po_of (pd_ofS (psl_callR ((ok_is_lower F_is_lower F_is_less q_is_less k_is_less F_require_fractions b_all F_is_fraction F_divisor_of b_abs q_divisor_of k_divisor_of F_is_many F_is_integer b_isinstance b_bool b_int q_is_integer k_is_integer q_is_many k_is_many b_len b_tuple q_is_fraction k_is_fraction q_require_fractions k_require_fractions).mono (by decide)) good_is_lower (takes_of rfl rfl rfl rfl) hr (by rfl) q_is_lower k_is_lower (pas_cons (po_name 3) (pas_cons (po_name 4) pas_nil)))))) (pw_and1' (pb_truth (po_of (pd_ofS (psl_callR ((ok_is_lower F_is_lower F_is_less q_is_less k_is_less F_require_fractions b_all F_is_fraction F_divisor_of b_abs q_divisor_of k_divisor_of F_is_many F_is_integer b_isinstance b_bool b_int q_is_integer k_is_integer q_is_many k_is_many b_len b_tuple q_is_fraction k_is_fraction q_require_fractions k_require_fractions).mono (by decide)) good_is_lower (takes_of rfl rfl rfl rfl) hr (by rfl) q_is_lower k_is_lower (pas_cons (po_name 4) (pas_cons (po_name 3) pas_nil))))))))))))
    (pss_one' (psd_ret pd_bl))
    pss_nil')))
    (pss_cons' (psd_set 5 sc__law_right.nd (pd_ofS (psl_callR ((ok_greatest F_greatest F_greatest_in F_is_less q_is_less k_is_less q_greatest_in k_greatest_in F_require_fractions b_all F_is_fraction F_divisor_of b_abs q_divisor_of k_divisor_of F_is_many F_is_integer b_isinstance b_bool b_int q_is_integer k_is_integer q_is_many k_is_many b_len b_tuple q_is_fraction k_is_fraction q_require_fractions k_require_fractions).mono (by decide)) good_greatest (takes_of rfl rfl rfl rfl) hr (by rfl) q_greatest k_greatest (pas_cons (po_of (pd_ix (po_name 2) (po_of pd_int))) (pas_cons (po_of (pd_ix (po_name 2) (po_of pd_int))) (pas_cons (po_of (pd_ix (po_name 2) (po_of pd_int))) pas_nil))))))
    (pss_cons' (psd_if (pb_w (pw_or' (pb_cmp (L2.op_notInD (room65 hr)) od_notInD (po_name 5) (po_name 2) (by with_unfolding_all rfl)) (pw_or' (pb_cmp (op_neD hr.units) od_ne (po_of (pd_fresh (pf_lc [("one", 3)] rfl sc__law_right.nd (pid_list (pd_name 2)) (blkOk_by (own := [("one", 3)]) (N := ["dice", "pairs", "rows", "one", "other", "most", "by", "far", "near", "due", "turn"]) (sc := defScope st__law_right) (by decide +kernel)) (fun _ _ _ _ _ => (pgd_name 3 sc__law_right.nd)) (fun _ _ _ _ _ => (ptsd_one (pb_truth (po_of (pd_ofS (psl_callR ((ok__law_less F__law_less).mono (by decide)) good__law_less takes0 hr (by rfl) q__law_less k__law_less (pas_cons (po_name 5) (pas_cons (po_name 3) pas_nil)))))))) (fun _ _ _ _ _ => (pd_name 3))))) (po_of (pd_fresh (pf_lst pvs_nil))) (by with_unfolding_all rfl)) (pw_or1' (pb_cmp (op_neD hr.units) od_ne (po_of (pd_ofS (psl_callR ((ok_greatest F_greatest F_greatest_in F_is_less q_is_less k_is_less q_greatest_in k_greatest_in F_require_fractions b_all F_is_fraction F_divisor_of b_abs q_divisor_of k_divisor_of F_is_many F_is_integer b_isinstance b_bool b_int q_is_integer k_is_integer q_is_many k_is_many b_len b_tuple q_is_fraction k_is_fraction q_require_fractions k_require_fractions).mono (by decide)) good_greatest (takes_of rfl rfl rfl rfl) hr (by rfl) q_greatest k_greatest (pas_cons (po_of (pd_ix (po_name 2) (po_of pd_int))) pas_nil)))) (po_of (pd_ix (po_name 2) (po_of pd_int))) (by with_unfolding_all rfl))))))
    (pss_one' (psd_ret pd_bl))
    pss_nil')
    (pss_cons' (psd_par (i := 6) (j := 7) rfl sc__law_right.nd (pvs_cons (pd_op op_addD od_add (po_of pd_int) (po_of (pd_ofS (psl_callR ((ok__law_roll F__law_roll b_int).mono (by decide)) good__law_roll (takes_of rfl rfl rfl rfl) hr (by rfl) q__law_roll k__law_roll (pas_cons (po_name 0) (pas_cons (po_of pd_int) pas_nil)))))) (pvs_cons (pd_op op_addD od_add (po_of (pd_op op_powW od_pow (po_of pd_int) (po_of pd_int))) (po_of (pd_ofS (psl_callR ((ok__law_roll F__law_roll b_int).mono (by decide)) good__law_roll (takes_of rfl rfl rfl rfl) hr (by rfl) q__law_roll k__law_roll (pas_cons (po_name 0) (pas_cons (po_of pd_int) pas_nil)))))) pvs_nil)))
    (pss_cons' (psd_if (pb_w (pw_or' (pb_cmp (op_neD hr.units) od_ne (po_of (pd_ofS (psl_callR ((ok_fraction F_fraction F_fraction_in F_divisor_of b_abs q_divisor_of k_divisor_of q_fraction_in k_fraction_in F_is_many F_is_integer b_isinstance b_bool b_int q_is_integer k_is_integer q_is_many k_is_many).mono (by decide)) good_fraction (takes_of rfl rfl rfl rfl) hr (by rfl) q_fraction k_fraction (pas_cons (po_of (pd_op op_mulD od_mul (po_of (pd_ix (po_of (pd_ix (po_name 1) (po_of pd_int))) (po_of pd_int))) (po_name 6))) (pas_cons (po_of (pd_op op_mulD od_mul (po_of (pd_ix (po_of (pd_ix (po_name 1) (po_of pd_int))) (po_of pd_int))) (po_name 6))) pas_nil))))) (po_of (pd_ix (po_name 2) (po_of pd_int))) (by with_unfolding_all rfl)) (pw_or1' (pb_cmp (op_neD hr.units) od_ne (po_of (pd_ofS (psl_callR ((ok_fraction F_fraction F_fraction_in F_divisor_of b_abs q_divisor_of k_divisor_of q_fraction_in k_fraction_in F_is_many F_is_integer b_isinstance b_bool b_int q_is_integer k_is_integer q_is_many k_is_many).mono (by decide)) good_fraction (takes_of rfl rfl rfl rfl) hr (by rfl) q_fraction k_fraction (pas_cons (po_name 7) (pas_cons (po_name 7) pas_nil))))) (po_of (pd_tup (pvs_cons pd_int (pvs_cons pd_int pvs_nil)))) (by with_unfolding_all rfl)))))
    (pss_one' (psd_ret pd_bl))
    pss_nil')
    (pss_cons' (psd_set 8 sc__law_right.nd (pd_fresh (pf_lst (pvs_cons (pd_ix (po_name 2) (po_of pd_int)) (pvs_cons (pd_ix (po_name 1) (po_of pd_int)) (pvs_cons (pd_tup (pvs_cons (pd_ix (po_of (pd_ix (po_name 2) (po_of pd_int))) (po_of pd_int)) (pvs_cons pd_int pvs_nil))) (pvs_cons (pd_tup (pvs_cons (pd_ix (po_of (pd_ix (po_name 2) (po_of pd_int))) (po_of pd_int)) (pvs_cons (pd_neg (po_of pd_int)) pvs_nil))) (pvs_cons (pd_op op_addD od_add (po_of (pd_ix (po_name 2) (po_of pd_int))) (po_of (pd_tup (pvs_cons pd_int pvs_nil)))) (pvs_cons (pd_fresh (pf_callTy call_list_of cf_list (by rfl) b_list (by decide +kernel) (pas_cons (po_of (pd_ix (po_name 2) (po_of pd_int))) pas_nil))) (pvs_cons (pd_tup (pvs_cons pd_bl (pvs_cons pd_int pvs_nil))) pvs_nil))))))))))
    (pss_cons' (psd_set 8 sc__law_right.nd (pd_op op_addD od_add (po_name 8) (po_of (pd_fresh (pf_lst (pvs_cons (pd_tup (pvs_cons pd_int (pvs_cons pd_bl pvs_nil))) (pvs_cons pd_non (pvs_cons pd_int pvs_nil))))))))
    (pss_cons' (psd_set 9 sc__law_right.nd (pd_op op_addD od_add (po_of (pd_fresh (pf_lst (pvs_cons pd_bl (pvs_cons (pd_ofS (psl_callR ((ok__law_is_lowest F__law_is_lowest b_list b_range b_abs b_int).mono (by decide)) good__law_is_lowest (takes_of rfl rfl rfl rfl) hr (by rfl) q__law_is_lowest k__law_is_lowest (pas_cons (po_of (pd_ix (po_name 1) (po_of pd_int))) pas_nil))) pvs_nil))))) (po_of (pd_op op_mulD od_mul (po_of (pd_fresh (pf_lst (pvs_cons pd_bl pvs_nil)))) (po_of pd_int)))))
    (pss_one' (psd_ret (pd_and (pd_cmp (op_eqD hr.units) od_eq (po_of (pd_fresh (pf_lc [("one", 3)] rfl sc__law_right.nd (pid_list (pd_name 8)) (blkOk_by (own := [("one", 3)]) (N := ["dice", "pairs", "rows", "one", "other", "most", "by", "far", "near", "due", "turn"]) (sc := defScope st__law_right) (by decide +kernel)) (fun _ _ _ _ _ => (pgd_name 3 sc__law_right.nd)) (fun _ _ _ _ _ => ptsd_nil) (fun _ _ _ _ _ => (pd_ofS (psl_callR ((ok_is_fraction F_is_fraction F_divisor_of b_abs q_divisor_of k_divisor_of F_is_many F_is_integer b_isinstance b_bool b_int q_is_integer k_is_integer q_is_many k_is_many b_len b_tuple).mono (by decide)) good_is_fraction takes0 hr (by rfl) q_is_fraction k_is_fraction (pas_cons (po_name 3) pas_nil))))))) (po_name 9) (by with_unfolding_all rfl)) (pd_one (pd_cmp op_isBl od_isB (po_of (pd_ofS (psl_callR ((ok_is_fraction F_is_fraction F_divisor_of b_abs q_divisor_of k_divisor_of F_is_many F_is_integer b_isinstance b_bool b_int q_is_integer k_is_integer q_is_many k_is_many b_len b_tuple).mono (by decide)) good_is_fraction (takes_of rfl rfl rfl rfl) hr (by rfl) q_is_fraction k_is_fraction (pas_cons (po_of (pd_tup (pvs_cons pd_int (pvs_cons pd_int pvs_nil)))) pas_nil)))) (po_of pd_bl) (by with_unfolding_all rfl))))))))))))))))))) (F__law_right.binds (ps := ["dice"]) fun _ _ _ _ _ _ us hl => match us, hl with | [_], _ => rfl)
end
/-! is_place -/
abbrev st_is_place : Stmt := topS 9
theorem sc_is_place : FnScope ["value", "sign"] ["value"] (defScope st_is_place) := ⟨rfl, rfl, rfl, by decide +kernel, rfl, by decide +kernel, by decide +kernel⟩
def s1_is_place : GS := gV 1
def e2_is_place : M D := op2 inG (nameO 1) (toO (M.ret (.str "abcdefghijklmnopqrstuvwxyz")))
def l3_is_place : M D := compD (walkS (frzAt 0)) (s1_is_place) (M.ret true) (e2_is_place) [1]
def g_is_place : SM := (exps (andD (app1 (isiG "str") (nameO 0)) (andD (chain3 leG leG (toO (M.ret (.int 1))) (toO (callD (one lenG) (consO (nameO 0) (M.ret [])))) (toO (M.ret (.int 8)))) (callD (one allG) (consO (toO (l3_is_place)) (M.ret []))))) fun d ρ => some (.ret (.val d), ρ))
def m_is_place : FD := fnD 1 2 g_is_place
theorem good_is_place : Good m_is_place := fnD_good 1 2 g_is_place
section
variable {P : Program} {w : World} {K : PySem.W.Frag} {mg : Str → Option Value} {base : Heap} {cm : Str → Option Addr}
theorem ok_is_place {a_is_place : Addr} {d_is_place : FuncData} (F_is_place : Fun K "is_place" "is_place" st_is_place a_is_place d_is_place) (b_all : mg "all" = none) {t_LETTERS : Tok} (q_LETTERS : mg "LETTERS" = some (.str "abcdefghijklmnopqrstuvwxyz" t_LETTERS)) (b_len : mg "len" = none) {t_MAX_LETTERS : Tok} (q_MAX_LETTERS : mg "MAX_LETTERS" = some (.int 8 t_MAX_LETTERS)) (b_isinstance : mg "isinstance" = none) (b_str : mg "str" = none) : Okf P w K mg base cm 1 a_is_place m_is_place :=
  okf_of (ps := ["value"]) (ok_def (N := ["value", "sign"]) F_is_place sc_is_place fun cdv A outer s H E hr =>
    (pss_one' (psd_ret (pd_and (pd_isi (T := "str") (by rfl) b_isinstance (by rfl) b_str (by decide +kernel) (po_name 0)) (pd_and (pd_chain op_leC op_leC od_cmp od_cmp (po_of pd_int) (po_of (pd_callB call_lenS cd_len (by rfl) b_len (by decide +kernel) (pas_cons (po_name 0) pas_nil))) (po_of (pd_glob (v := .int 8) (by rfl) q_MAX_LETTERS ⟨_, rfl⟩ (fun _ => .int _)))) (pd_one (pd_callB (cr_all rfl) cd_all (by rfl) b_all (by decide +kernel) (pas_cons (po_of (pd_fresh (pf_lc [("sign", 1)] rfl sc_is_place.nd (pid_str (pd_name 0)) (blkOk_by (own := [("sign", 1)]) (N := ["value", "sign"]) (sc := defScope st_is_place) (by decide +kernel)) (fun _ _ _ _ _ => (pgd_name 1 sc_is_place.nd)) (fun _ _ _ _ _ => ptsd_nil) (fun _ _ _ _ _ => (pd_cmp op_inD od_in (po_name 1) (po_of (pd_glob (v := .str "abcdefghijklmnopqrstuvwxyz") (by rfl) q_LETTERS ⟨_, rfl⟩ (fun _ => .str _))) (by with_unfolding_all rfl)))))) pas_nil)))))))) (F_is_place.binds (ps := ["value"]) fun _ _ _ _ _ _ us hl => match us, hl with | [_], _ => rfl)
end
/-! _law_places_right -/
abbrev st__law_places_right : Stmt := topS 28
theorem sc__law_places_right : FnScope ["dice", "word", "near", "turn", "one"] ["dice"] (defScope st__law_places_right) := ⟨rfl, rfl, rfl, by decide +kernel, rfl, by decide +kernel, by decide +kernel⟩
def s1__law_places_right : GS := gV 4
def e2__law_places_right : M D := M.bind (callS m_is_place (consO (nameO 4) (M.ret []))) sVal
def l3__law_places_right : M D := compD (walkL (frzAt 2)) (s1__law_places_right) (M.ret true) (e2__law_places_right) [4]
def s4__law_places_right : GS := gV 3
def e5__law_places_right : M D := M.bind (callS m__law_one_of (consO (nameO 0) (consO (toO (lstD (consD (M.ret (.str "a")) (consD (M.ret (.str "b")) (consD (M.ret (.str "z")) (M.ret [])))))) (M.ret [])))) sVal
def l6__law_places_right : M D := compD (walkR1 (consO (toO (op2 addG (toO (M.ret (.int 1))) (toO (M.bind (callS m__law_roll (consO (nameO 0) (consO (toO (M.ret (.int 8))) (M.ret [])))) sVal)))) (M.ret []))) (s4__law_places_right) (M.ret true) (e5__law_places_right) [3]
def g__law_places_right : SM := (seqS (exps (joinD (M.ret (.str "")) (toO (l6__law_places_right))) (setV 1))
    (seqS (exps (lstD (consD (frzAt 1) (consD (op2 addG (nameO 1) (toO (M.ret (.str "qqqqqqqq")))) (consD (op2 addG (nameO 1) (toO (M.ret (.str "A")))) (consD (M.ret (.str "")) (consD (op2 addG (nameO 1) (toO (M.ret (.str " ")))) (consD (tupD (consD (frzAt 1) (M.ret []))) (consD (M.ret .non) (consD (M.ret (.int 0)) (consD (M.ret (.bl true)) (consD (lstD (consD (frzAt 1) (M.ret []))) (consD (M.ret (.dk [])) (consD (op2 addG (nameO 1) (toO (M.ret (.str "1")))) (M.ret [])))))))))))))) (setV 2))
    (exps (op2 eqG (toO (l3__law_places_right)) (toO (op2 addG (toO (lstD (consD (M.ret (.bl true)) (M.ret [])))) (toO (op2 mulG (toO (lstD (consD (M.ret (.bl false)) (M.ret [])))) (toO (M.ret (.int 11)))))))) fun d ρ => some (.ret (.val d), ρ))))
def m__law_places_right : FD := fnD 1 5 g__law_places_right
theorem good__law_places_right : Good m__law_places_right := fnD_good 1 5 g__law_places_right
section
variable {P : Program} {w : World} {K : PySem.W.Frag} {mg : Str → Option Value} {base : Heap} {cm : Str → Option Addr}
theorem ok__law_places_right {a__law_places_right : Addr} {d__law_places_right : FuncData} (F__law_places_right : Fun K "_law_places_right" "_law_places_right" st__law_places_right a__law_places_right d__law_places_right) {a_is_place : Addr} {d_is_place : FuncData} (F_is_place : Fun K "is_place" "is_place" st_is_place a_is_place d_is_place) (b_all : mg "all" = none) {t_LETTERS : Tok} (q_LETTERS : mg "LETTERS" = some (.str "abcdefghijklmnopqrstuvwxyz" t_LETTERS)) (b_len : mg "len" = none) {t_MAX_LETTERS : Tok} (q_MAX_LETTERS : mg "MAX_LETTERS" = some (.int 8 t_MAX_LETTERS)) (b_isinstance : mg "isinstance" = none) (b_str : mg "str" = none) (q_is_place : mg "is_place" = some (.ref a_is_place)) (k_is_place : PySem.W.keepIn K (.ref a_is_place) = true) (b_range : mg "range" = none) {a__law_roll : Addr} {d__law_roll : FuncData} (F__law_roll : Fun K "_law_roll" "_law_roll" st__law_roll a__law_roll d__law_roll) (b_int : mg "int" = none) (q__law_roll : mg "_law_roll" = some (.ref a__law_roll)) (k__law_roll : PySem.W.keepIn K (.ref a__law_roll) = true) {a__law_one_of : Addr} {d__law_one_of : FuncData} (F__law_one_of : Fun K "_law_one_of" "_law_one_of" st__law_one_of a__law_one_of d__law_one_of) (q__law_one_of : mg "_law_one_of" = some (.ref a__law_one_of)) (k__law_one_of : PySem.W.keepIn K (.ref a__law_one_of) = true) : Okf P w K mg base cm 3 a__law_places_right m__law_places_right :=
  okf_of (ps := ["dice"]) (ok_def (N := ["dice", "word", "near", "turn", "one"]) F__law_places_right sc__law_places_right fun cdv A outer s H E hr =>
    (pss_cons' (psd_set 1 sc__law_places_right.nd (pd_join pd_str (po_of (pd_fresh (pf_lc [("turn", 3)] rfl sc__law_places_right.nd (pid_range1 (by rfl) b_range (pas_cons (po_of (pd_op op_addD od_add (po_of pd_int) (po_of (pd_ofS (psl_callR ((ok__law_roll F__law_roll b_int).mono (by decide)) good__law_roll (takes_of rfl rfl rfl rfl) hr (by rfl) q__law_roll k__law_roll (pas_cons (po_name 0) (pas_cons (po_of pd_int) pas_nil))))))) pas_nil)) (blkOk_by (own := [("turn", 3)]) (N := ["dice", "word", "near", "turn", "one"]) (sc := defScope st__law_places_right) (by decide +kernel)) (fun _ _ _ _ _ => (pgd_name 3 sc__law_places_right.nd)) (fun _ _ _ _ _ => ptsd_nil) (fun _ _ _ _ _ => (pd_ofS (psl_callR ((ok__law_one_of F__law_one_of F__law_roll b_int q__law_roll k__law_roll b_len).mono (by decide)) good__law_one_of takes0 hr (by rfl) q__law_one_of k__law_one_of (pas_cons (po_name 0) (pas_cons (po_of (pd_fresh (pf_lst (pvs_cons pd_str (pvs_cons pd_str (pvs_cons pd_str pvs_nil)))))) pas_nil))))))))))
    (pss_cons' (psd_set 2 sc__law_places_right.nd (pd_fresh (pf_lst (pvs_cons (pd_name 1) (pvs_cons (pd_op op_addD od_add (po_name 1) (po_of pd_str)) (pvs_cons (pd_op op_addD od_add (po_name 1) (po_of pd_str)) (pvs_cons pd_str (pvs_cons (pd_op op_addD od_add (po_name 1) (po_of pd_str)) (pvs_cons (pd_tup (pvs_cons (pd_name 1) pvs_nil)) (pvs_cons pd_non (pvs_cons pd_int (pvs_cons pd_bl (pvs_cons (pd_fresh (pf_lst (pvs_cons (pd_name 1) pvs_nil))) (pvs_cons (pd_fresh pf_dk) (pvs_cons (pd_op op_addD od_add (po_name 1) (po_of pd_str)) pvs_nil)))))))))))))))
    (pss_one' (psd_ret (pd_cmp (op_eqD hr.units) od_eq (po_of (pd_fresh (pf_lc [("one", 4)] rfl sc__law_places_right.nd (pid_list (pd_name 2)) (blkOk_by (own := [("one", 4)]) (N := ["dice", "word", "near", "turn", "one"]) (sc := defScope st__law_places_right) (by decide +kernel)) (fun _ _ _ _ _ => (pgd_name 4 sc__law_places_right.nd)) (fun _ _ _ _ _ => ptsd_nil) (fun _ _ _ _ _ => (pd_ofS (psl_callR ((ok_is_place F_is_place b_all q_LETTERS b_len q_MAX_LETTERS b_isinstance b_str).mono (by decide)) good_is_place takes0 hr (by rfl) q_is_place k_is_place (pas_cons (po_name 4) pas_nil))))))) (po_of (pd_op op_addD od_add (po_of (pd_fresh (pf_lst (pvs_cons pd_bl pvs_nil)))) (po_of (pd_op op_mulD od_mul (po_of (pd_fresh (pf_lst (pvs_cons pd_bl pvs_nil)))) (po_of pd_int))))) (by with_unfolding_all rfl))))))) (F__law_places_right.binds (ps := ["dice"]) fun _ _ _ _ _ _ us hl => match us, hl with | [_], _ => rfl)
end
/-! law -/
abbrev st_law : Stmt := topS 29
theorem sc_law : FnScope ["script", "spot", "told", "dice"] ["script"] (defScope st_law) := ⟨rfl, rfl, rfl, by decide +kernel, rfl, by decide +kernel, by decide +kernel⟩
def s1_law : GS := gV 1
def b2_law : SM := (seqS (exps (M.bind (callS m__law_dice (consO (nameO 0) (consO (nameO 1) (M.ret [])))) sOwn) (setOw 3))
    (exps (orB (notB (truB (toO (M.bind (callS m__law_right (consO (nameO 3) (M.ret []))) sVal)))) (notB (truB (toO (M.bind (callS m__law_places_right (consO (nameO 3) (M.ret []))) sVal))))) fun k => if k = true then (exps (M.ret (.bl false)) fun d ρ => some (.ret (.val d), ρ)) else skipS))
def g_law : SM := (seqS (exps (walkR1 (consO (toO (callD (two max2G) (consO (toO (M.ret (.int 1))) (consO (toO (callD (two min2G) (consO (toO (M.ret (.int 8))) (consO (toO (callD (one lenG) (consO (nameO 0) (M.ret [])))) (M.ret []))))) (M.ret []))))) (M.ret []))) fun ds => loopF s1_law b2_law ds)
    (seqS (exps (lstD (consD (M.bind (callS m_fraction (consO (toO (M.ret (.int 6))) (consO (toO (M.ret (.int 4))) (M.ret [])))) sVal) (consD (M.bind (callS m_fraction (consO (toO (app1 negG (toO (M.ret (.int 2))))) (consO (toO (M.ret (.int 6))) (M.ret [])))) sVal) (consD (M.bind (callS m_fraction (consO (toO (M.ret (.int 0))) (consO (toO (M.ret (.int 7))) (M.ret [])))) sVal) (consD (M.bind (callS m_greatest (consO (toO (tupD (consD (M.ret (.int 1)) (consD (M.ret (.int 2)) (M.ret []))))) (consO (toO (tupD (consD (M.ret (.int 2)) (consD (M.ret (.int 3)) (M.ret []))))) (consO (toO (tupD (consD (M.ret (.int 3)) (consD (M.ret (.int 5)) (M.ret []))))) (M.ret []))))) sVal) (consD (M.ret (.int 8)) (M.ret []))))))) (setV 2))
    (exps (op2 eqG (nameO 2) (toO (lstD (consD (tupD (consD (M.ret (.int 3)) (consD (M.ret (.int 2)) (M.ret [])))) (consD (tupD (consD (app1 negG (toO (M.ret (.int 1)))) (consD (M.ret (.int 3)) (M.ret [])))) (consD (tupD (consD (M.ret (.int 0)) (consD (M.ret (.int 1)) (M.ret [])))) (consD (tupD (consD (M.ret (.int 2)) (consD (M.ret (.int 3)) (M.ret [])))) (consD (M.ret (.int 8)) (M.ret []))))))))) fun d ρ => some (.ret (.val d), ρ))))
def m_law : FD := fnD 1 4 g_law
theorem good_law : Good m_law := fnD_good 1 4 g_law
section
variable {P : Program} {w : World} {K : PySem.W.Frag} {mg : Str → Option Value} {base : Heap} {cm : Str → Option Addr}
theorem ok_law {a_law : Addr} {d_law : FuncData} (F_law : Fun K "law" "law" st_law a_law d_law) {t_MAX_LETTERS : Tok} (q_MAX_LETTERS : mg "MAX_LETTERS" = some (.int 8 t_MAX_LETTERS)) {a_greatest : Addr} {d_greatest : FuncData} (F_greatest : Fun K "greatest" "greatest" st_greatest a_greatest d_greatest) {a_greatest_in : Addr} {d_greatest_in : FuncData} (F_greatest_in : Fun K "greatest_in" "greatest_in" st_greatest_in a_greatest_in d_greatest_in) {a_is_less : Addr} {d_is_less : FuncData} (F_is_less : Fun K "is_less" "is_less" st_is_less a_is_less d_is_less) (q_is_less : mg "is_less" = some (.ref a_is_less)) (k_is_less : PySem.W.keepIn K (.ref a_is_less) = true) (q_greatest_in : mg "greatest_in" = some (.ref a_greatest_in)) (k_greatest_in : PySem.W.keepIn K (.ref a_greatest_in) = true) {a_require_fractions : Addr} {d_require_fractions : FuncData} (F_require_fractions : Fun K "require_fractions" "require_fractions" st_require_fractions a_require_fractions d_require_fractions) (b_all : mg "all" = none) {a_is_fraction : Addr} {d_is_fraction : FuncData} (F_is_fraction : Fun K "is_fraction" "is_fraction" st_is_fraction a_is_fraction d_is_fraction) {a_divisor_of : Addr} {d_divisor_of : FuncData} (F_divisor_of : Fun K "divisor_of" "divisor_of" st_divisor_of a_divisor_of d_divisor_of) (b_abs : mg "abs" = none) (q_divisor_of : mg "divisor_of" = some (.ref a_divisor_of)) (k_divisor_of : PySem.W.keepIn K (.ref a_divisor_of) = true) {a_is_many : Addr} {d_is_many : FuncData} (F_is_many : Fun K "is_many" "is_many" st_is_many a_is_many d_is_many) {a_is_integer : Addr} {d_is_integer : FuncData} (F_is_integer : Fun K "is_integer" "is_integer" st_is_integer a_is_integer d_is_integer) (b_isinstance : mg "isinstance" = none) (b_bool : mg "bool" = none) (b_int : mg "int" = none) (q_is_integer : mg "is_integer" = some (.ref a_is_integer)) (k_is_integer : PySem.W.keepIn K (.ref a_is_integer) = true) (q_is_many : mg "is_many" = some (.ref a_is_many)) (k_is_many : PySem.W.keepIn K (.ref a_is_many) = true) (b_len : mg "len" = none) (b_tuple : mg "tuple" = none) (q_is_fraction : mg "is_fraction" = some (.ref a_is_fraction)) (k_is_fraction : PySem.W.keepIn K (.ref a_is_fraction) = true) (q_require_fractions : mg "require_fractions" = some (.ref a_require_fractions)) (k_require_fractions : PySem.W.keepIn K (.ref a_require_fractions) = true) (q_greatest : mg "greatest" = some (.ref a_greatest)) (k_greatest : PySem.W.keepIn K (.ref a_greatest) = true) {a_fraction : Addr} {d_fraction : FuncData} (F_fraction : Fun K "fraction" "fraction" st_fraction a_fraction d_fraction) {a_fraction_in : Addr} {d_fraction_in : FuncData} (F_fraction_in : Fun K "fraction_in" "fraction_in" st_fraction_in a_fraction_in d_fraction_in) (q_fraction_in : mg "fraction_in" = some (.ref a_fraction_in)) (k_fraction_in : PySem.W.keepIn K (.ref a_fraction_in) = true) (q_fraction : mg "fraction" = some (.ref a_fraction)) (k_fraction : PySem.W.keepIn K (.ref a_fraction) = true) (b_range : mg "range" = none) (b_max : mg "max" = none) (b_min : mg "min" = none) {a__law_places_right : Addr} {d__law_places_right : FuncData} (F__law_places_right : Fun K "_law_places_right" "_law_places_right" st__law_places_right a__law_places_right d__law_places_right) {a_is_place : Addr} {d_is_place : FuncData} (F_is_place : Fun K "is_place" "is_place" st_is_place a_is_place d_is_place) {t_LETTERS : Tok} (q_LETTERS : mg "LETTERS" = some (.str "abcdefghijklmnopqrstuvwxyz" t_LETTERS)) (b_str : mg "str" = none) (q_is_place : mg "is_place" = some (.ref a_is_place)) (k_is_place : PySem.W.keepIn K (.ref a_is_place) = true) {a__law_roll : Addr} {d__law_roll : FuncData} (F__law_roll : Fun K "_law_roll" "_law_roll" st__law_roll a__law_roll d__law_roll) (q__law_roll : mg "_law_roll" = some (.ref a__law_roll)) (k__law_roll : PySem.W.keepIn K (.ref a__law_roll) = true) {a__law_one_of : Addr} {d__law_one_of : FuncData} (F__law_one_of : Fun K "_law_one_of" "_law_one_of" st__law_one_of a__law_one_of d__law_one_of) (q__law_one_of : mg "_law_one_of" = some (.ref a__law_one_of)) (k__law_one_of : PySem.W.keepIn K (.ref a__law_one_of) = true) (q__law_places_right : mg "_law_places_right" = some (.ref a__law_places_right)) (k__law_places_right : PySem.W.keepIn K (.ref a__law_places_right) = true) {a__law_right : Addr} {d__law_right : FuncData} (F__law_right : Fun K "_law_right" "_law_right" st__law_right a__law_right d__law_right) {a__law_is_lowest : Addr} {d__law_is_lowest : FuncData} (F__law_is_lowest : Fun K "_law_is_lowest" "_law_is_lowest" st__law_is_lowest a__law_is_lowest d__law_is_lowest) (b_list : mg "list" = none) (q__law_is_lowest : mg "_law_is_lowest" = some (.ref a__law_is_lowest)) (k__law_is_lowest : PySem.W.keepIn K (.ref a__law_is_lowest) = true) {a__law_less : Addr} {d__law_less : FuncData} (F__law_less : Fun K "_law_less" "_law_less" st__law_less a__law_less d__law_less) (q__law_less : mg "_law_less" = some (.ref a__law_less)) (k__law_less : PySem.W.keepIn K (.ref a__law_less) = true) {a_is_lower : Addr} {d_is_lower : FuncData} (F_is_lower : Fun K "is_lower" "is_lower" st_is_lower a_is_lower d_is_lower) (q_is_lower : mg "is_lower" = some (.ref a_is_lower)) (k_is_lower : PySem.W.keepIn K (.ref a_is_lower) = true) {a__law_lowest : Addr} {d__law_lowest : FuncData} (F__law_lowest : Fun K "_law_lowest" "_law_lowest" st__law_lowest a__law_lowest d__law_lowest) (q__law_lowest : mg "_law_lowest" = some (.ref a__law_lowest)) (k__law_lowest : PySem.W.keepIn K (.ref a__law_lowest) = true) {a__law_drawn : Addr} {d__law_drawn : FuncData} (F__law_drawn : Fun K "_law_drawn" "_law_drawn" st__law_drawn a__law_drawn d__law_drawn) (q__law_drawn : mg "_law_drawn" = some (.ref a__law_drawn)) (k__law_drawn : PySem.W.keepIn K (.ref a__law_drawn) = true) (q__law_right : mg "_law_right" = some (.ref a__law_right)) (k__law_right : PySem.W.keepIn K (.ref a__law_right) = true) {a__law_dice : Addr} {d__law_dice : FuncData} (F__law_dice : Fun K "_law_dice" "_law_dice" st__law_dice a__law_dice d__law_dice) (q__law_dice : mg "_law_dice" = some (.ref a__law_dice)) (k__law_dice : PySem.W.keepIn K (.ref a__law_dice) = true) : FnOk P w K mg base (L2.CX P w) 7 a_law d_law ["script"] (spD K cm 1 m_law) :=
  ok_def (N := ["script", "spot", "told", "dice"]) F_law sc_law fun cdv A outer s H E hr =>
    (pss_cons' (psd_for (passes_of rfl) rfl (pid_range1 (by rfl) b_range (pas_cons (po_of (pd_callB (call_max2 rfl) cd_max2 (by rfl) b_max (by decide +kernel) (pas_cons (po_of pd_int) (pas_cons (po_of (pd_callB (call_min2 rfl) cd_min2 (by rfl) b_min (by decide +kernel) (pas_cons (po_of pd_int) (pas_cons (po_of (pd_callB call_lenS cd_len (by rfl) b_len (by decide +kernel) (pas_cons (po_name 0) pas_nil))) pas_nil)))) pas_nil)))) pas_nil)) (pgd_name 1 sc_law.nd)
    (pss_cons' (psd_setO 3 sc_law.nd (pf_ofS (psl_callR ((ok__law_dice F__law_dice b_int b_abs b_len).mono (by decide)) good__law_dice (takes_of rfl rfl rfl rfl) hr (by rfl) q__law_dice k__law_dice (pas_cons (po_name 0) (pas_cons (po_name 1) pas_nil)))))
    (pss_one' (psd_if (pb_w (pw_or' (pb_not (pb_truth (po_of (pd_ofS (psl_callR ((ok__law_right F__law_right F_is_fraction F_divisor_of b_abs q_divisor_of k_divisor_of F_is_many F_is_integer b_isinstance b_bool b_int q_is_integer k_is_integer q_is_many k_is_many b_len b_tuple q_is_fraction k_is_fraction F__law_is_lowest b_list b_range q__law_is_lowest k__law_is_lowest F_fraction F_fraction_in q_fraction_in k_fraction_in q_fraction k_fraction F__law_roll q__law_roll k__law_roll F_greatest F_greatest_in F_is_less q_is_less k_is_less q_greatest_in k_greatest_in F_require_fractions b_all q_require_fractions k_require_fractions q_greatest k_greatest F__law_less q__law_less k__law_less F_is_lower q_is_lower k_is_lower F__law_lowest q__law_lowest k__law_lowest F__law_drawn F__law_one_of q__law_one_of k__law_one_of q__law_drawn k__law_drawn).mono (by decide)) good__law_right (takes_of rfl rfl rfl rfl) hr (by rfl) q__law_right k__law_right (pas_cons (po_name 3) pas_nil)))))) (pw_or1' (pb_not (pb_truth (po_of (pd_ofS (psl_callR ((ok__law_places_right F__law_places_right F_is_place b_all q_LETTERS b_len q_MAX_LETTERS b_isinstance b_str q_is_place k_is_place b_range F__law_roll b_int q__law_roll k__law_roll F__law_one_of q__law_one_of k__law_one_of).mono (by decide)) good__law_places_right (takes_of rfl rfl rfl rfl) hr (by rfl) q__law_places_right k__law_places_right (pas_cons (po_name 3) pas_nil)))))))))
    (pss_one' (psd_ret pd_bl))
    pss_nil'))))
    (pss_cons' (psd_set 2 sc_law.nd (pd_fresh (pf_lst (pvs_cons (pd_ofS (psl_callR ((ok_fraction F_fraction F_fraction_in F_divisor_of b_abs q_divisor_of k_divisor_of q_fraction_in k_fraction_in F_is_many F_is_integer b_isinstance b_bool b_int q_is_integer k_is_integer q_is_many k_is_many).mono (by decide)) good_fraction (takes_of rfl rfl rfl rfl) hr (by rfl) q_fraction k_fraction (pas_cons (po_of pd_int) (pas_cons (po_of pd_int) pas_nil)))) (pvs_cons (pd_ofS (psl_callR ((ok_fraction F_fraction F_fraction_in F_divisor_of b_abs q_divisor_of k_divisor_of q_fraction_in k_fraction_in F_is_many F_is_integer b_isinstance b_bool b_int q_is_integer k_is_integer q_is_many k_is_many).mono (by decide)) good_fraction (takes_of rfl rfl rfl rfl) hr (by rfl) q_fraction k_fraction (pas_cons (po_of (pd_neg (po_of pd_int))) (pas_cons (po_of pd_int) pas_nil)))) (pvs_cons (pd_ofS (psl_callR ((ok_fraction F_fraction F_fraction_in F_divisor_of b_abs q_divisor_of k_divisor_of q_fraction_in k_fraction_in F_is_many F_is_integer b_isinstance b_bool b_int q_is_integer k_is_integer q_is_many k_is_many).mono (by decide)) good_fraction (takes_of rfl rfl rfl rfl) hr (by rfl) q_fraction k_fraction (pas_cons (po_of pd_int) (pas_cons (po_of pd_int) pas_nil)))) (pvs_cons (pd_ofS (psl_callR ((ok_greatest F_greatest F_greatest_in F_is_less q_is_less k_is_less q_greatest_in k_greatest_in F_require_fractions b_all F_is_fraction F_divisor_of b_abs q_divisor_of k_divisor_of F_is_many F_is_integer b_isinstance b_bool b_int q_is_integer k_is_integer q_is_many k_is_many b_len b_tuple q_is_fraction k_is_fraction q_require_fractions k_require_fractions).mono (by decide)) good_greatest (takes_of rfl rfl rfl rfl) hr (by rfl) q_greatest k_greatest (pas_cons (po_of (pd_tup (pvs_cons pd_int (pvs_cons pd_int pvs_nil)))) (pas_cons (po_of (pd_tup (pvs_cons pd_int (pvs_cons pd_int pvs_nil)))) (pas_cons (po_of (pd_tup (pvs_cons pd_int (pvs_cons pd_int pvs_nil)))) pas_nil))))) (pvs_cons (pd_glob (v := .int 8) (by rfl) q_MAX_LETTERS ⟨_, rfl⟩ (fun _ => .int _)) pvs_nil))))))))
    (pss_one' (psd_ret (pd_cmp (op_eqD hr.units) od_eq (po_name 2) (po_of (pd_fresh (pf_lst (pvs_cons (pd_tup (pvs_cons pd_int (pvs_cons pd_int pvs_nil))) (pvs_cons (pd_tup (pvs_cons (pd_neg (po_of pd_int)) (pvs_cons pd_int pvs_nil))) (pvs_cons (pd_tup (pvs_cons pd_int (pvs_cons pd_int pvs_nil))) (pvs_cons (pd_tup (pvs_cons pd_int (pvs_cons pd_int pvs_nil))) (pvs_cons pd_int pvs_nil)))))))) (by with_unfolding_all rfl))))))
end
end K01
end Pd

namespace Pd
open PySem PySem.Spec L2
abbrev fr (n d : Int) : D := .tup [.int n, .int d]
namespace K01
/-! gcd -/
theorem dl : ∀ (n : Nat) (l r : Int) (a b : Sl), 0 ≤ l → 0 ≤ r → l.toNat + 1 ≤ n → loopW c1_divisor_of b2_divisor_of n [a, b, .val (.int l), .val (.int r)] = some (.nx, [a, b, .val (.int 0), .val (.int (Int.gcd l r))])
  | 0, l, r, a, b, h1, h2, h3 => by omega
  | n + 1, l, r, a, b, h1, h2, h3 => by
    by_cases h : 0 < l
    · have ih := dl n (r % l) l a b (Int.emod_nonneg _ (by omega)) h1 (by have := Int.emod_lt_of_pos r h; omega)
      rw [loopW_step (ρ1 := [a, b, .val (.int l), .val (.int r)]) (ρ2 := [a, b, .val (.int (r % l)), .val (.int l)]) (by simp [List.findIdx?_cons, eqG, neG, eqP, toPy, toPys, SeqAt.shaped, PyData.canLay0, PyData.canLayAll0, PyData.depth, PyData.depthAll, PyData.eqv, PyData.eqvAll, fnD, starD, valsOf, seqS, skipS, exps, M.bind, M.ret, M.fail, M.lift, toO, nameO, frzAt, op2, app2, app1, res, ownOf, callD, appN, resN, consO, consD, one, two, setV, setOw, giveUp, parS, augS, asB, truB, truG, andB, orB, notB, andD, orD, notD, ifD, chain3, tupD, lstD, ixG, strOf, seqOf, lisOf, tupOf, atI, ixN, negG, intG, subG, cmpG, addG, isiG, tyName, lenG, absG, intF, max2G, min2G, callS, callR, callM, argS, slotsOf, putB, toR, sVal, sOwn, inTo, setKind, isS, putC, ownM, ownT, appendG, storeS, setLG, gV, gT, gC, gN, walkL, walkT, walkR1, walkR2, loopF, backA, listG, isBG, joinD, sliceD, rangeL, allG, blsOf, partI, sizeLine, kb_int_int, kb_int_bool, kb_int_tuple, kb_int_str, kb_bool_int, kb_bool_bool, kb_bool_tuple, kb_bool_str, kb_NoneType_int, kb_NoneType_bool, kb_NoneType_tuple, kb_NoneType_str, kb_str_int, kb_str_bool, kb_str_tuple, kb_str_str, kb_tuple_int, kb_tuple_bool, kb_tuple_tuple, kb_tuple_str, kb_list_int, kb_list_bool, kb_list_tuple, kb_list_str, kb_dict_int, kb_dict_bool, kb_dict_tuple, kb_dict_str, c1_divisor_of, h]) (by simp [List.findIdx?_cons, eqG, neG, eqP, toPy, toPys, SeqAt.shaped, PyData.canLay0, PyData.canLayAll0, PyData.depth, PyData.depthAll, PyData.eqv, PyData.eqvAll, fnD, starD, valsOf, seqS, skipS, exps, M.bind, M.ret, M.fail, M.lift, toO, nameO, frzAt, op2, app2, app1, res, ownOf, callD, appN, resN, consO, consD, one, two, setV, setOw, giveUp, parS, augS, asB, truB, truG, andB, orB, notB, andD, orD, notD, ifD, chain3, tupD, lstD, ixG, strOf, seqOf, lisOf, tupOf, atI, ixN, negG, intG, subG, cmpG, addG, isiG, tyName, lenG, absG, intF, max2G, min2G, callS, callR, callM, argS, slotsOf, putB, toR, sVal, sOwn, inTo, setKind, isS, putC, ownM, ownT, appendG, storeS, setLG, gV, gT, gC, gN, walkL, walkT, walkR1, walkR2, loopF, backA, listG, isBG, joinD, sliceD, rangeL, allG, blsOf, partI, sizeLine, kb_int_int, kb_int_bool, kb_int_tuple, kb_int_str, kb_bool_int, kb_bool_bool, kb_bool_tuple, kb_bool_str, kb_NoneType_int, kb_NoneType_bool, kb_NoneType_tuple, kb_NoneType_str, kb_str_int, kb_str_bool, kb_str_tuple, kb_str_str, kb_tuple_int, kb_tuple_bool, kb_tuple_tuple, kb_tuple_str, kb_list_int, kb_list_bool, kb_list_tuple, kb_list_str, kb_dict_int, kb_dict_bool, kb_dict_tuple, kb_dict_str, b2_divisor_of, h, mod_pos h]), ih, gcd_step h1 h2]
    · have : l = 0 := by omega
      subst this
      rw [loopW_end (ρ1 := [a, b, .val (.int 0), .val (.int r)]) (by simp [List.findIdx?_cons, eqG, neG, eqP, toPy, toPys, SeqAt.shaped, PyData.canLay0, PyData.canLayAll0, PyData.depth, PyData.depthAll, PyData.eqv, PyData.eqvAll, fnD, starD, valsOf, seqS, skipS, exps, M.bind, M.ret, M.fail, M.lift, toO, nameO, frzAt, op2, app2, app1, res, ownOf, callD, appN, resN, consO, consD, one, two, setV, setOw, giveUp, parS, augS, asB, truB, truG, andB, orB, notB, andD, orD, notD, ifD, chain3, tupD, lstD, ixG, strOf, seqOf, lisOf, tupOf, atI, ixN, negG, intG, subG, cmpG, addG, isiG, tyName, lenG, absG, intF, max2G, min2G, callS, callR, callM, argS, slotsOf, putB, toR, sVal, sOwn, inTo, setKind, isS, putC, ownM, ownT, appendG, storeS, setLG, gV, gT, gC, gN, walkL, walkT, walkR1, walkR2, loopF, backA, listG, isBG, joinD, sliceD, rangeL, allG, blsOf, partI, sizeLine, kb_int_int, kb_int_bool, kb_int_tuple, kb_int_str, kb_bool_int, kb_bool_bool, kb_bool_tuple, kb_bool_str, kb_NoneType_int, kb_NoneType_bool, kb_NoneType_tuple, kb_NoneType_str, kb_str_int, kb_str_bool, kb_str_tuple, kb_str_str, kb_tuple_int, kb_tuple_bool, kb_tuple_tuple, kb_tuple_str, kb_list_int, kb_list_bool, kb_list_tuple, kb_list_str, kb_dict_int, kb_dict_bool, kb_dict_tuple, kb_dict_str, c1_divisor_of])]
      simp
      omega
theorem divisor_ev {a b : Int} (hb : 0 ≤ b) : m_divisor_of [.val (.int a), .val (.int b)] = some (.ret (.val (.int (Int.gcd a b))), [.val (.int a), .val (.int b)]) := by
  have h := dl ((if a < 0 then -a else a).toNat + 2) (if a < 0 then -a else a) b (.val (.int a)) (.val (.int b)) (by split <;> omega) hb (by omega)
  have e : Int.gcd (if a < 0 then -a else a) b = Int.gcd a b := by split <;> simp
  rw [e] at h
  simp [List.findIdx?_cons, eqG, neG, eqP, toPy, toPys, SeqAt.shaped, PyData.canLay0, PyData.canLayAll0, PyData.depth, PyData.depthAll, PyData.eqv, PyData.eqvAll, fnD, starD, valsOf, seqS, skipS, exps, M.bind, M.ret, M.fail, M.lift, toO, nameO, frzAt, op2, app2, app1, res, ownOf, callD, appN, resN, consO, consD, one, two, setV, setOw, giveUp, parS, augS, asB, truB, truG, andB, orB, notB, andD, orD, notD, ifD, chain3, tupD, lstD, ixG, strOf, seqOf, lisOf, tupOf, atI, ixN, negG, intG, subG, cmpG, addG, isiG, tyName, lenG, absG, intF, max2G, min2G, callS, callR, callM, argS, slotsOf, putB, toR, sVal, sOwn, inTo, setKind, isS, putC, ownM, ownT, appendG, storeS, setLG, gV, gT, gC, gN, walkL, walkT, walkR1, walkR2, loopF, backA, listG, isBG, joinD, sliceD, rangeL, allG, blsOf, partI, sizeLine, kb_int_int, kb_int_bool, kb_int_tuple, kb_int_str, kb_bool_int, kb_bool_bool, kb_bool_tuple, kb_bool_str, kb_NoneType_int, kb_NoneType_bool, kb_NoneType_tuple, kb_NoneType_str, kb_str_int, kb_str_bool, kb_str_tuple, kb_str_str, kb_tuple_int, kb_tuple_bool, kb_tuple_tuple, kb_tuple_str, kb_list_int, kb_list_bool, kb_list_tuple, kb_list_str, kb_dict_int, kb_dict_bool, kb_dict_tuple, kb_dict_str, m_divisor_of, g_divisor_of, muI, h]
theorem ll : ∀ (n : Nat) (l r : Int) (a b : Sl), 0 ≤ l → 0 ≤ r → r.toNat + 1 ≤ n → loopW c1__law_lowest b2__law_lowest n [a, b, .val (.int l), .val (.int r)] = some (.nx, [a, b, .val (.int (Int.gcd l r)), .val (.int 0)])
  | 0, l, r, a, b, h1, h2, h3 => by omega
  | n + 1, l, r, a, b, h1, h2, h3 => by
    by_cases h : 0 < r
    · have ih := ll n r (l % r) a b h2 (Int.emod_nonneg _ (by omega)) (by have := Int.emod_lt_of_pos l h; omega)
      rw [loopW_step (ρ1 := [a, b, .val (.int l), .val (.int r)]) (ρ2 := [a, b, .val (.int r), .val (.int (l % r))]) (by simp [List.findIdx?_cons, eqG, neG, eqP, toPy, toPys, SeqAt.shaped, PyData.canLay0, PyData.canLayAll0, PyData.depth, PyData.depthAll, PyData.eqv, PyData.eqvAll, fnD, starD, valsOf, seqS, skipS, exps, M.bind, M.ret, M.fail, M.lift, toO, nameO, frzAt, op2, app2, app1, res, ownOf, callD, appN, resN, consO, consD, one, two, setV, setOw, giveUp, parS, augS, asB, truB, truG, andB, orB, notB, andD, orD, notD, ifD, chain3, tupD, lstD, ixG, strOf, seqOf, lisOf, tupOf, atI, ixN, negG, intG, subG, cmpG, addG, isiG, tyName, lenG, absG, intF, max2G, min2G, callS, callR, callM, argS, slotsOf, putB, toR, sVal, sOwn, inTo, setKind, isS, putC, ownM, ownT, appendG, storeS, setLG, gV, gT, gC, gN, walkL, walkT, walkR1, walkR2, loopF, backA, listG, isBG, joinD, sliceD, rangeL, allG, blsOf, partI, sizeLine, kb_int_int, kb_int_bool, kb_int_tuple, kb_int_str, kb_bool_int, kb_bool_bool, kb_bool_tuple, kb_bool_str, kb_NoneType_int, kb_NoneType_bool, kb_NoneType_tuple, kb_NoneType_str, kb_str_int, kb_str_bool, kb_str_tuple, kb_str_str, kb_tuple_int, kb_tuple_bool, kb_tuple_tuple, kb_tuple_str, kb_list_int, kb_list_bool, kb_list_tuple, kb_list_str, kb_dict_int, kb_dict_bool, kb_dict_tuple, kb_dict_str, c1__law_lowest, h]) (by simp [List.findIdx?_cons, eqG, neG, eqP, toPy, toPys, SeqAt.shaped, PyData.canLay0, PyData.canLayAll0, PyData.depth, PyData.depthAll, PyData.eqv, PyData.eqvAll, fnD, starD, valsOf, seqS, skipS, exps, M.bind, M.ret, M.fail, M.lift, toO, nameO, frzAt, op2, app2, app1, res, ownOf, callD, appN, resN, consO, consD, one, two, setV, setOw, giveUp, parS, augS, asB, truB, truG, andB, orB, notB, andD, orD, notD, ifD, chain3, tupD, lstD, ixG, strOf, seqOf, lisOf, tupOf, atI, ixN, negG, intG, subG, cmpG, addG, isiG, tyName, lenG, absG, intF, max2G, min2G, callS, callR, callM, argS, slotsOf, putB, toR, sVal, sOwn, inTo, setKind, isS, putC, ownM, ownT, appendG, storeS, setLG, gV, gT, gC, gN, walkL, walkT, walkR1, walkR2, loopF, backA, listG, isBG, joinD, sliceD, rangeL, allG, blsOf, partI, sizeLine, kb_int_int, kb_int_bool, kb_int_tuple, kb_int_str, kb_bool_int, kb_bool_bool, kb_bool_tuple, kb_bool_str, kb_NoneType_int, kb_NoneType_bool, kb_NoneType_tuple, kb_NoneType_str, kb_str_int, kb_str_bool, kb_str_tuple, kb_str_str, kb_tuple_int, kb_tuple_bool, kb_tuple_tuple, kb_tuple_str, kb_list_int, kb_list_bool, kb_list_tuple, kb_list_str, kb_dict_int, kb_dict_bool, kb_dict_tuple, kb_dict_str, b2__law_lowest, h, mod_pos h]), ih, Int.gcd_comm r, gcd_step h2 h1, Int.gcd_comm l r]
    · have : r = 0 := by omega
      subst this
      rw [loopW_end (ρ1 := [a, b, .val (.int l), .val (.int 0)]) (by simp [List.findIdx?_cons, eqG, neG, eqP, toPy, toPys, SeqAt.shaped, PyData.canLay0, PyData.canLayAll0, PyData.depth, PyData.depthAll, PyData.eqv, PyData.eqvAll, fnD, starD, valsOf, seqS, skipS, exps, M.bind, M.ret, M.fail, M.lift, toO, nameO, frzAt, op2, app2, app1, res, ownOf, callD, appN, resN, consO, consD, one, two, setV, setOw, giveUp, parS, augS, asB, truB, truG, andB, orB, notB, andD, orD, notD, ifD, chain3, tupD, lstD, ixG, strOf, seqOf, lisOf, tupOf, atI, ixN, negG, intG, subG, cmpG, addG, isiG, tyName, lenG, absG, intF, max2G, min2G, callS, callR, callM, argS, slotsOf, putB, toR, sVal, sOwn, inTo, setKind, isS, putC, ownM, ownT, appendG, storeS, setLG, gV, gT, gC, gN, walkL, walkT, walkR1, walkR2, loopF, backA, listG, isBG, joinD, sliceD, rangeL, allG, blsOf, partI, sizeLine, kb_int_int, kb_int_bool, kb_int_tuple, kb_int_str, kb_bool_int, kb_bool_bool, kb_bool_tuple, kb_bool_str, kb_NoneType_int, kb_NoneType_bool, kb_NoneType_tuple, kb_NoneType_str, kb_str_int, kb_str_bool, kb_str_tuple, kb_str_str, kb_tuple_int, kb_tuple_bool, kb_tuple_tuple, kb_tuple_str, kb_list_int, kb_list_bool, kb_list_tuple, kb_list_str, kb_dict_int, kb_dict_bool, kb_dict_tuple, kb_dict_str, c1__law_lowest])]
      simp
      omega
theorem gpos {n d : Int} (hd : 0 < d) : (0 : Int) < Int.gcd n d := by
  have : 0 < Int.gcd n d := Int.gcd_pos_of_ne_zero_right n (by omega)
  omega
theorem gle {n d : Int} (hd : 0 < d) : (Int.gcd n d : Int) ≤ d := Int.le_of_dvd hd (Int.gcd_dvd_right ..)
theorem lowest_ev {n d : Int} (hd : 0 < d) (hb : d < 2 ^ 64) : m__law_lowest [.val (.int n), .val (.int d)] = some (.ret (.val (fr (n / Int.gcd n d) (d / Int.gcd n d))), [.val (.int n), .val (.int d)]) := by
  have h := ll (d.toNat + 2) (if n < 0 then -n else n) d (.val (.int n)) (.val (.int d)) (by split <;> omega) (by omega) (by omega)
  have e : Int.gcd (if n < 0 then -n else n) d = Int.gcd n d := by split <;> simp
  rw [e] at h
  have g1 := gpos (n := n) hd
  have g2 := (Int.lt_of_le_of_lt (gle (n := n) hd) hb)
  generalize (Int.gcd n d : Int) = g at *
  have g3 := fun i => fdiv_small (i := i) g1 g2
  simp [List.findIdx?_cons, eqG, neG, eqP, toPy, toPys, SeqAt.shaped, PyData.canLay0, PyData.canLayAll0, PyData.depth, PyData.depthAll, PyData.eqv, PyData.eqvAll, fnD, starD, valsOf, seqS, skipS, exps, M.bind, M.ret, M.fail, M.lift, toO, nameO, frzAt, op2, app2, app1, res, ownOf, callD, appN, resN, consO, consD, one, two, setV, setOw, giveUp, parS, augS, asB, truB, truG, andB, orB, notB, andD, orD, notD, ifD, chain3, tupD, lstD, ixG, strOf, seqOf, lisOf, tupOf, atI, ixN, negG, intG, subG, cmpG, addG, isiG, tyName, lenG, absG, intF, max2G, min2G, callS, callR, callM, argS, slotsOf, putB, toR, sVal, sOwn, inTo, setKind, isS, putC, ownM, ownT, appendG, storeS, setLG, gV, gT, gC, gN, walkL, walkT, walkR1, walkR2, loopF, backA, listG, isBG, joinD, sliceD, rangeL, allG, blsOf, partI, sizeLine, kb_int_int, kb_int_bool, kb_int_tuple, kb_int_str, kb_bool_int, kb_bool_bool, kb_bool_tuple, kb_bool_str, kb_NoneType_int, kb_NoneType_bool, kb_NoneType_tuple, kb_NoneType_str, kb_str_int, kb_str_bool, kb_str_tuple, kb_str_str, kb_tuple_int, kb_tuple_bool, kb_tuple_tuple, kb_tuple_str, kb_list_int, kb_list_bool, kb_list_tuple, kb_list_str, kb_dict_int, kb_dict_bool, kb_dict_tuple, kb_dict_str, m__law_lowest, g__law_lowest, muI, h, g3]
theorem isint_int {i : Int} : m_is_integer [.val (.int i)] = some (.ret (.val (.bl true)), [.val (.int i)]) := by simp [List.findIdx?_cons, eqG, neG, eqP, toPy, toPys, SeqAt.shaped, PyData.canLay0, PyData.canLayAll0, PyData.depth, PyData.depthAll, PyData.eqv, PyData.eqvAll, fnD, starD, valsOf, seqS, skipS, exps, M.bind, M.ret, M.fail, M.lift, toO, nameO, frzAt, op2, app2, app1, res, ownOf, callD, appN, resN, consO, consD, one, two, setV, setOw, giveUp, parS, augS, asB, truB, truG, andB, orB, notB, andD, orD, notD, ifD, chain3, tupD, lstD, ixG, strOf, seqOf, lisOf, tupOf, atI, ixN, negG, intG, subG, cmpG, addG, isiG, tyName, lenG, absG, intF, max2G, min2G, callS, callR, callM, argS, slotsOf, putB, toR, sVal, sOwn, inTo, setKind, isS, putC, ownM, ownT, appendG, storeS, setLG, gV, gT, gC, gN, walkL, walkT, walkR1, walkR2, loopF, backA, listG, isBG, joinD, sliceD, rangeL, allG, blsOf, partI, sizeLine, kb_int_int, kb_int_bool, kb_int_tuple, kb_int_str, kb_bool_int, kb_bool_bool, kb_bool_tuple, kb_bool_str, kb_NoneType_int, kb_NoneType_bool, kb_NoneType_tuple, kb_NoneType_str, kb_str_int, kb_str_bool, kb_str_tuple, kb_str_str, kb_tuple_int, kb_tuple_bool, kb_tuple_tuple, kb_tuple_str, kb_list_int, kb_list_bool, kb_list_tuple, kb_list_str, kb_dict_int, kb_dict_bool, kb_dict_tuple, kb_dict_str, m_is_integer, g_is_integer]
theorem isint_bl {i : Bool} : m_is_integer [.val (.bl i)] = some (.ret (.val (.bl false)), [.val (.bl i)]) := by simp [List.findIdx?_cons, eqG, neG, eqP, toPy, toPys, SeqAt.shaped, PyData.canLay0, PyData.canLayAll0, PyData.depth, PyData.depthAll, PyData.eqv, PyData.eqvAll, fnD, starD, valsOf, seqS, skipS, exps, M.bind, M.ret, M.fail, M.lift, toO, nameO, frzAt, op2, app2, app1, res, ownOf, callD, appN, resN, consO, consD, one, two, setV, setOw, giveUp, parS, augS, asB, truB, truG, andB, orB, notB, andD, orD, notD, ifD, chain3, tupD, lstD, ixG, strOf, seqOf, lisOf, tupOf, atI, ixN, negG, intG, subG, cmpG, addG, isiG, tyName, lenG, absG, intF, max2G, min2G, callS, callR, callM, argS, slotsOf, putB, toR, sVal, sOwn, inTo, setKind, isS, putC, ownM, ownT, appendG, storeS, setLG, gV, gT, gC, gN, walkL, walkT, walkR1, walkR2, loopF, backA, listG, isBG, joinD, sliceD, rangeL, allG, blsOf, partI, sizeLine, kb_int_int, kb_int_bool, kb_int_tuple, kb_int_str, kb_bool_int, kb_bool_bool, kb_bool_tuple, kb_bool_str, kb_NoneType_int, kb_NoneType_bool, kb_NoneType_tuple, kb_NoneType_str, kb_str_int, kb_str_bool, kb_str_tuple, kb_str_str, kb_tuple_int, kb_tuple_bool, kb_tuple_tuple, kb_tuple_str, kb_list_int, kb_list_bool, kb_list_tuple, kb_list_str, kb_dict_int, kb_dict_bool, kb_dict_tuple, kb_dict_str, m_is_integer, g_is_integer]
theorem ismany_int {i : Int} : m_is_many [.val (.int i)] = some (.ret (.val (.bl (decide (1 ≤ i)))), [.val (.int i)]) := by simp [List.findIdx?_cons, eqG, neG, eqP, toPy, toPys, SeqAt.shaped, PyData.canLay0, PyData.canLayAll0, PyData.depth, PyData.depthAll, PyData.eqv, PyData.eqvAll, fnD, starD, valsOf, seqS, skipS, exps, M.bind, M.ret, M.fail, M.lift, toO, nameO, frzAt, op2, app2, app1, res, ownOf, callD, appN, resN, consO, consD, one, two, setV, setOw, giveUp, parS, augS, asB, truB, truG, andB, orB, notB, andD, orD, notD, ifD, chain3, tupD, lstD, ixG, strOf, seqOf, lisOf, tupOf, atI, ixN, negG, intG, subG, cmpG, addG, isiG, tyName, lenG, absG, intF, max2G, min2G, callS, callR, callM, argS, slotsOf, putB, toR, sVal, sOwn, inTo, setKind, isS, putC, ownM, ownT, appendG, storeS, setLG, gV, gT, gC, gN, walkL, walkT, walkR1, walkR2, loopF, backA, listG, isBG, joinD, sliceD, rangeL, allG, blsOf, partI, sizeLine, kb_int_int, kb_int_bool, kb_int_tuple, kb_int_str, kb_bool_int, kb_bool_bool, kb_bool_tuple, kb_bool_str, kb_NoneType_int, kb_NoneType_bool, kb_NoneType_tuple, kb_NoneType_str, kb_str_int, kb_str_bool, kb_str_tuple, kb_str_str, kb_tuple_int, kb_tuple_bool, kb_tuple_tuple, kb_tuple_str, kb_list_int, kb_list_bool, kb_list_tuple, kb_list_str, kb_dict_int, kb_dict_bool, kb_dict_tuple, kb_dict_str, m_is_many, g_is_many, isint_int]
theorem ismany_bl {i : Bool} : m_is_many [.val (.bl i)] = some (.ret (.val (.bl false)), [.val (.bl i)]) := by simp [List.findIdx?_cons, eqG, neG, eqP, toPy, toPys, SeqAt.shaped, PyData.canLay0, PyData.canLayAll0, PyData.depth, PyData.depthAll, PyData.eqv, PyData.eqvAll, fnD, starD, valsOf, seqS, skipS, exps, M.bind, M.ret, M.fail, M.lift, toO, nameO, frzAt, op2, app2, app1, res, ownOf, callD, appN, resN, consO, consD, one, two, setV, setOw, giveUp, parS, augS, asB, truB, truG, andB, orB, notB, andD, orD, notD, ifD, chain3, tupD, lstD, ixG, strOf, seqOf, lisOf, tupOf, atI, ixN, negG, intG, subG, cmpG, addG, isiG, tyName, lenG, absG, intF, max2G, min2G, callS, callR, callM, argS, slotsOf, putB, toR, sVal, sOwn, inTo, setKind, isS, putC, ownM, ownT, appendG, storeS, setLG, gV, gT, gC, gN, walkL, walkT, walkR1, walkR2, loopF, backA, listG, isBG, joinD, sliceD, rangeL, allG, blsOf, partI, sizeLine, kb_int_int, kb_int_bool, kb_int_tuple, kb_int_str, kb_bool_int, kb_bool_bool, kb_bool_tuple, kb_bool_str, kb_NoneType_int, kb_NoneType_bool, kb_NoneType_tuple, kb_NoneType_str, kb_str_int, kb_str_bool, kb_str_tuple, kb_str_str, kb_tuple_int, kb_tuple_bool, kb_tuple_tuple, kb_tuple_str, kb_list_int, kb_list_bool, kb_list_tuple, kb_list_str, kb_dict_int, kb_dict_bool, kb_dict_tuple, kb_dict_str, m_is_many, g_is_many, isint_bl]
theorem fracin_ev {n d : Int} (hd : 0 < d) (hb : d < 2 ^ 64) : m_fraction_in [.val (.int n), .val (.int d)] = some (.ret (.val (fr (n / Int.gcd n d) (d / Int.gcd n d))), [.val (.int n), .val (.int d)]) := by
  have g1 := gpos (n := n) hd
  have g2 := (Int.lt_of_le_of_lt (gle (n := n) hd) hb)
  have h := divisor_ev (a := n) (b := d) (by omega)
  generalize (Int.gcd n d : Int) = g at *
  have g3 := fun i => fdiv_small (i := i) g1 g2
  simp [List.findIdx?_cons, eqG, neG, eqP, toPy, toPys, SeqAt.shaped, PyData.canLay0, PyData.canLayAll0, PyData.depth, PyData.depthAll, PyData.eqv, PyData.eqvAll, fnD, starD, valsOf, seqS, skipS, exps, M.bind, M.ret, M.fail, M.lift, toO, nameO, frzAt, op2, app2, app1, res, ownOf, callD, appN, resN, consO, consD, one, two, setV, setOw, giveUp, parS, augS, asB, truB, truG, andB, orB, notB, andD, orD, notD, ifD, chain3, tupD, lstD, ixG, strOf, seqOf, lisOf, tupOf, atI, ixN, negG, intG, subG, cmpG, addG, isiG, tyName, lenG, absG, intF, max2G, min2G, callS, callR, callM, argS, slotsOf, putB, toR, sVal, sOwn, inTo, setKind, isS, putC, ownM, ownT, appendG, storeS, setLG, gV, gT, gC, gN, walkL, walkT, walkR1, walkR2, loopF, backA, listG, isBG, joinD, sliceD, rangeL, allG, blsOf, partI, sizeLine, kb_int_int, kb_int_bool, kb_int_tuple, kb_int_str, kb_bool_int, kb_bool_bool, kb_bool_tuple, kb_bool_str, kb_NoneType_int, kb_NoneType_bool, kb_NoneType_tuple, kb_NoneType_str, kb_str_int, kb_str_bool, kb_str_tuple, kb_str_str, kb_tuple_int, kb_tuple_bool, kb_tuple_tuple, kb_tuple_str, kb_list_int, kb_list_bool, kb_list_tuple, kb_list_str, kb_dict_int, kb_dict_bool, kb_dict_tuple, kb_dict_str, m_fraction_in, g_fraction_in, h, g3]
theorem fraction_ev {n d : Int} (hd : 0 < d) (hb : d < 2 ^ 64) : m_fraction [.val (.int n), .val (.int d)] = some (.ret (.val (fr (n / Int.gcd n d) (d / Int.gcd n d))), [.val (.int n), .val (.int d)]) := by
  have h1 : 1 ≤ d := by omega
  simp [List.findIdx?_cons, eqG, neG, eqP, toPy, toPys, SeqAt.shaped, PyData.canLay0, PyData.canLayAll0, PyData.depth, PyData.depthAll, PyData.eqv, PyData.eqvAll, fnD, starD, valsOf, seqS, skipS, exps, M.bind, M.ret, M.fail, M.lift, toO, nameO, frzAt, op2, app2, app1, res, ownOf, callD, appN, resN, consO, consD, one, two, setV, setOw, giveUp, parS, augS, asB, truB, truG, andB, orB, notB, andD, orD, notD, ifD, chain3, tupD, lstD, ixG, strOf, seqOf, lisOf, tupOf, atI, ixN, negG, intG, subG, cmpG, addG, isiG, tyName, lenG, absG, intF, max2G, min2G, callS, callR, callM, argS, slotsOf, putB, toR, sVal, sOwn, inTo, setKind, isS, putC, ownM, ownT, appendG, storeS, setLG, gV, gT, gC, gN, walkL, walkT, walkR1, walkR2, loopF, backA, listG, isBG, joinD, sliceD, rangeL, allG, blsOf, partI, sizeLine, kb_int_int, kb_int_bool, kb_int_tuple, kb_int_str, kb_bool_int, kb_bool_bool, kb_bool_tuple, kb_bool_str, kb_NoneType_int, kb_NoneType_bool, kb_NoneType_tuple, kb_NoneType_str, kb_str_int, kb_str_bool, kb_str_tuple, kb_str_str, kb_tuple_int, kb_tuple_bool, kb_tuple_tuple, kb_tuple_str, kb_list_int, kb_list_bool, kb_list_tuple, kb_list_str, kb_dict_int, kb_dict_bool, kb_dict_tuple, kb_dict_str, m_fraction, g_fraction, isint_int, ismany_int, h1, fracin_ev hd hb]
/-- what the law asks of values near fractions -/
theorem isfr_fr {n d : Int} : m_is_fraction [.val (fr n d)] = some (.ret (.val (.bl (decide (1 ≤ d) && decide (Int.gcd n d = 1)))), [.val (fr n d)]) := by
  by_cases h : 1 ≤ d
  · simp [List.findIdx?_cons, eqG, neG, eqP, toPy, toPys, SeqAt.shaped, PyData.canLay0, PyData.canLayAll0, PyData.depth, PyData.depthAll, PyData.eqv, PyData.eqvAll, fnD, starD, valsOf, seqS, skipS, exps, M.bind, M.ret, M.fail, M.lift, toO, nameO, frzAt, op2, app2, app1, res, ownOf, callD, appN, resN, consO, consD, one, two, setV, setOw, giveUp, parS, augS, asB, truB, truG, andB, orB, notB, andD, orD, notD, ifD, chain3, tupD, lstD, ixG, strOf, seqOf, lisOf, tupOf, atI, ixN, negG, intG, subG, cmpG, addG, isiG, tyName, lenG, absG, intF, max2G, min2G, callS, callR, callM, argS, slotsOf, putB, toR, sVal, sOwn, inTo, setKind, isS, putC, ownM, ownT, appendG, storeS, setLG, gV, gT, gC, gN, walkL, walkT, walkR1, walkR2, loopF, backA, listG, isBG, joinD, sliceD, rangeL, allG, blsOf, partI, sizeLine, kb_int_int, kb_int_bool, kb_int_tuple, kb_int_str, kb_bool_int, kb_bool_bool, kb_bool_tuple, kb_bool_str, kb_NoneType_int, kb_NoneType_bool, kb_NoneType_tuple, kb_NoneType_str, kb_str_int, kb_str_bool, kb_str_tuple, kb_str_str, kb_tuple_int, kb_tuple_bool, kb_tuple_tuple, kb_tuple_str, kb_list_int, kb_list_bool, kb_list_tuple, kb_list_str, kb_dict_int, kb_dict_bool, kb_dict_tuple, kb_dict_str, m_is_fraction, g_is_fraction, isint_int, ismany_int, h, divisor_ev (a := n) (b := d) (by omega)]
    rw [Bool.eq_iff_iff]; simp <;> omega
  · simp [List.findIdx?_cons, eqG, neG, eqP, toPy, toPys, SeqAt.shaped, PyData.canLay0, PyData.canLayAll0, PyData.depth, PyData.depthAll, PyData.eqv, PyData.eqvAll, fnD, starD, valsOf, seqS, skipS, exps, M.bind, M.ret, M.fail, M.lift, toO, nameO, frzAt, op2, app2, app1, res, ownOf, callD, appN, resN, consO, consD, one, two, setV, setOw, giveUp, parS, augS, asB, truB, truG, andB, orB, notB, andD, orD, notD, ifD, chain3, tupD, lstD, ixG, strOf, seqOf, lisOf, tupOf, atI, ixN, negG, intG, subG, cmpG, addG, isiG, tyName, lenG, absG, intF, max2G, min2G, callS, callR, callM, argS, slotsOf, putB, toR, sVal, sOwn, inTo, setKind, isS, putC, ownM, ownT, appendG, storeS, setLG, gV, gT, gC, gN, walkL, walkT, walkR1, walkR2, loopF, backA, listG, isBG, joinD, sliceD, rangeL, allG, blsOf, partI, sizeLine, kb_int_int, kb_int_bool, kb_int_tuple, kb_int_str, kb_bool_int, kb_bool_bool, kb_bool_tuple, kb_bool_str, kb_NoneType_int, kb_NoneType_bool, kb_NoneType_tuple, kb_NoneType_str, kb_str_int, kb_str_bool, kb_str_tuple, kb_str_str, kb_tuple_int, kb_tuple_bool, kb_tuple_tuple, kb_tuple_str, kb_list_int, kb_list_bool, kb_list_tuple, kb_list_str, kb_dict_int, kb_dict_bool, kb_dict_tuple, kb_dict_str, m_is_fraction, g_is_fraction, isint_int, ismany_int, h]
theorem isfr_3 {a b c : D} : m_is_fraction [.val (.tup [a, b, c])] = some (.ret (.val (.bl false)), [.val (.tup [a, b, c])]) := by
  simp [List.findIdx?_cons, eqG, neG, eqP, toPy, toPys, SeqAt.shaped, PyData.canLay0, PyData.canLayAll0, PyData.depth, PyData.depthAll, PyData.eqv, PyData.eqvAll, fnD, starD, valsOf, seqS, skipS, exps, M.bind, M.ret, M.fail, M.lift, toO, nameO, frzAt, op2, app2, app1, res, ownOf, callD, appN, resN, consO, consD, one, two, setV, setOw, giveUp, parS, augS, asB, truB, truG, andB, orB, notB, andD, orD, notD, ifD, chain3, tupD, lstD, ixG, strOf, seqOf, lisOf, tupOf, atI, ixN, negG, intG, subG, cmpG, addG, isiG, tyName, lenG, absG, intF, max2G, min2G, callS, callR, callM, argS, slotsOf, putB, toR, sVal, sOwn, inTo, setKind, isS, putC, ownM, ownT, appendG, storeS, setLG, gV, gT, gC, gN, walkL, walkT, walkR1, walkR2, loopF, backA, listG, isBG, joinD, sliceD, rangeL, allG, blsOf, partI, sizeLine, kb_int_int, kb_int_bool, kb_int_tuple, kb_int_str, kb_bool_int, kb_bool_bool, kb_bool_tuple, kb_bool_str, kb_NoneType_int, kb_NoneType_bool, kb_NoneType_tuple, kb_NoneType_str, kb_str_int, kb_str_bool, kb_str_tuple, kb_str_str, kb_tuple_int, kb_tuple_bool, kb_tuple_tuple, kb_tuple_str, kb_list_int, kb_list_bool, kb_list_tuple, kb_list_str, kb_dict_int, kb_dict_bool, kb_dict_tuple, kb_dict_str, m_is_fraction, g_is_fraction]
theorem isfr_lst {xs : List D} : m_is_fraction [.val (.lst xs)] = some (.ret (.val (.bl false)), [.val (.lst xs)]) := by
  simp [List.findIdx?_cons, eqG, neG, eqP, toPy, toPys, SeqAt.shaped, PyData.canLay0, PyData.canLayAll0, PyData.depth, PyData.depthAll, PyData.eqv, PyData.eqvAll, fnD, starD, valsOf, seqS, skipS, exps, M.bind, M.ret, M.fail, M.lift, toO, nameO, frzAt, op2, app2, app1, res, ownOf, callD, appN, resN, consO, consD, one, two, setV, setOw, giveUp, parS, augS, asB, truB, truG, andB, orB, notB, andD, orD, notD, ifD, chain3, tupD, lstD, ixG, strOf, seqOf, lisOf, tupOf, atI, ixN, negG, intG, subG, cmpG, addG, isiG, tyName, lenG, absG, intF, max2G, min2G, callS, callR, callM, argS, slotsOf, putB, toR, sVal, sOwn, inTo, setKind, isS, putC, ownM, ownT, appendG, storeS, setLG, gV, gT, gC, gN, walkL, walkT, walkR1, walkR2, loopF, backA, listG, isBG, joinD, sliceD, rangeL, allG, blsOf, partI, sizeLine, kb_int_int, kb_int_bool, kb_int_tuple, kb_int_str, kb_bool_int, kb_bool_bool, kb_bool_tuple, kb_bool_str, kb_NoneType_int, kb_NoneType_bool, kb_NoneType_tuple, kb_NoneType_str, kb_str_int, kb_str_bool, kb_str_tuple, kb_str_str, kb_tuple_int, kb_tuple_bool, kb_tuple_tuple, kb_tuple_str, kb_list_int, kb_list_bool, kb_list_tuple, kb_list_str, kb_dict_int, kb_dict_bool, kb_dict_tuple, kb_dict_str, m_is_fraction, g_is_fraction]
theorem isfr_non : m_is_fraction [.val .non] = some (.ret (.val (.bl false)), [.val .non]) := by
  simp [List.findIdx?_cons, eqG, neG, eqP, toPy, toPys, SeqAt.shaped, PyData.canLay0, PyData.canLayAll0, PyData.depth, PyData.depthAll, PyData.eqv, PyData.eqvAll, fnD, starD, valsOf, seqS, skipS, exps, M.bind, M.ret, M.fail, M.lift, toO, nameO, frzAt, op2, app2, app1, res, ownOf, callD, appN, resN, consO, consD, one, two, setV, setOw, giveUp, parS, augS, asB, truB, truG, andB, orB, notB, andD, orD, notD, ifD, chain3, tupD, lstD, ixG, strOf, seqOf, lisOf, tupOf, atI, ixN, negG, intG, subG, cmpG, addG, isiG, tyName, lenG, absG, intF, max2G, min2G, callS, callR, callM, argS, slotsOf, putB, toR, sVal, sOwn, inTo, setKind, isS, putC, ownM, ownT, appendG, storeS, setLG, gV, gT, gC, gN, walkL, walkT, walkR1, walkR2, loopF, backA, listG, isBG, joinD, sliceD, rangeL, allG, blsOf, partI, sizeLine, kb_int_int, kb_int_bool, kb_int_tuple, kb_int_str, kb_bool_int, kb_bool_bool, kb_bool_tuple, kb_bool_str, kb_NoneType_int, kb_NoneType_bool, kb_NoneType_tuple, kb_NoneType_str, kb_str_int, kb_str_bool, kb_str_tuple, kb_str_str, kb_tuple_int, kb_tuple_bool, kb_tuple_tuple, kb_tuple_str, kb_list_int, kb_list_bool, kb_list_tuple, kb_list_str, kb_dict_int, kb_dict_bool, kb_dict_tuple, kb_dict_str, m_is_fraction, g_is_fraction]
theorem isfr_int {i : Int} : m_is_fraction [.val (.int i)] = some (.ret (.val (.bl false)), [.val (.int i)]) := by
  simp [List.findIdx?_cons, eqG, neG, eqP, toPy, toPys, SeqAt.shaped, PyData.canLay0, PyData.canLayAll0, PyData.depth, PyData.depthAll, PyData.eqv, PyData.eqvAll, fnD, starD, valsOf, seqS, skipS, exps, M.bind, M.ret, M.fail, M.lift, toO, nameO, frzAt, op2, app2, app1, res, ownOf, callD, appN, resN, consO, consD, one, two, setV, setOw, giveUp, parS, augS, asB, truB, truG, andB, orB, notB, andD, orD, notD, ifD, chain3, tupD, lstD, ixG, strOf, seqOf, lisOf, tupOf, atI, ixN, negG, intG, subG, cmpG, addG, isiG, tyName, lenG, absG, intF, max2G, min2G, callS, callR, callM, argS, slotsOf, putB, toR, sVal, sOwn, inTo, setKind, isS, putC, ownM, ownT, appendG, storeS, setLG, gV, gT, gC, gN, walkL, walkT, walkR1, walkR2, loopF, backA, listG, isBG, joinD, sliceD, rangeL, allG, blsOf, partI, sizeLine, kb_int_int, kb_int_bool, kb_int_tuple, kb_int_str, kb_bool_int, kb_bool_bool, kb_bool_tuple, kb_bool_str, kb_NoneType_int, kb_NoneType_bool, kb_NoneType_tuple, kb_NoneType_str, kb_str_int, kb_str_bool, kb_str_tuple, kb_str_str, kb_tuple_int, kb_tuple_bool, kb_tuple_tuple, kb_tuple_str, kb_list_int, kb_list_bool, kb_list_tuple, kb_list_str, kb_dict_int, kb_dict_bool, kb_dict_tuple, kb_dict_str, m_is_fraction, g_is_fraction]
theorem isfr_bi {k : Bool} {i : Int} : m_is_fraction [.val (.tup [.bl k, .int i])] = some (.ret (.val (.bl false)), [.val (.tup [.bl k, .int i])]) := by
  simp [List.findIdx?_cons, eqG, neG, eqP, toPy, toPys, SeqAt.shaped, PyData.canLay0, PyData.canLayAll0, PyData.depth, PyData.depthAll, PyData.eqv, PyData.eqvAll, fnD, starD, valsOf, seqS, skipS, exps, M.bind, M.ret, M.fail, M.lift, toO, nameO, frzAt, op2, app2, app1, res, ownOf, callD, appN, resN, consO, consD, one, two, setV, setOw, giveUp, parS, augS, asB, truB, truG, andB, orB, notB, andD, orD, notD, ifD, chain3, tupD, lstD, ixG, strOf, seqOf, lisOf, tupOf, atI, ixN, negG, intG, subG, cmpG, addG, isiG, tyName, lenG, absG, intF, max2G, min2G, callS, callR, callM, argS, slotsOf, putB, toR, sVal, sOwn, inTo, setKind, isS, putC, ownM, ownT, appendG, storeS, setLG, gV, gT, gC, gN, walkL, walkT, walkR1, walkR2, loopF, backA, listG, isBG, joinD, sliceD, rangeL, allG, blsOf, partI, sizeLine, kb_int_int, kb_int_bool, kb_int_tuple, kb_int_str, kb_bool_int, kb_bool_bool, kb_bool_tuple, kb_bool_str, kb_NoneType_int, kb_NoneType_bool, kb_NoneType_tuple, kb_NoneType_str, kb_str_int, kb_str_bool, kb_str_tuple, kb_str_str, kb_tuple_int, kb_tuple_bool, kb_tuple_tuple, kb_tuple_str, kb_list_int, kb_list_bool, kb_list_tuple, kb_list_str, kb_dict_int, kb_dict_bool, kb_dict_tuple, kb_dict_str, m_is_fraction, g_is_fraction, isint_bl]
theorem isfr_ib {k : Bool} {i : Int} : m_is_fraction [.val (.tup [.int i, .bl k])] = some (.ret (.val (.bl false)), [.val (.tup [.int i, .bl k])]) := by
  simp [List.findIdx?_cons, eqG, neG, eqP, toPy, toPys, SeqAt.shaped, PyData.canLay0, PyData.canLayAll0, PyData.depth, PyData.depthAll, PyData.eqv, PyData.eqvAll, fnD, starD, valsOf, seqS, skipS, exps, M.bind, M.ret, M.fail, M.lift, toO, nameO, frzAt, op2, app2, app1, res, ownOf, callD, appN, resN, consO, consD, one, two, setV, setOw, giveUp, parS, augS, asB, truB, truG, andB, orB, notB, andD, orD, notD, ifD, chain3, tupD, lstD, ixG, strOf, seqOf, lisOf, tupOf, atI, ixN, negG, intG, subG, cmpG, addG, isiG, tyName, lenG, absG, intF, max2G, min2G, callS, callR, callM, argS, slotsOf, putB, toR, sVal, sOwn, inTo, setKind, isS, putC, ownM, ownT, appendG, storeS, setLG, gV, gT, gC, gN, walkL, walkT, walkR1, walkR2, loopF, backA, listG, isBG, joinD, sliceD, rangeL, allG, blsOf, partI, sizeLine, kb_int_int, kb_int_bool, kb_int_tuple, kb_int_str, kb_bool_int, kb_bool_bool, kb_bool_tuple, kb_bool_str, kb_NoneType_int, kb_NoneType_bool, kb_NoneType_tuple, kb_NoneType_str, kb_str_int, kb_str_bool, kb_str_tuple, kb_str_str, kb_tuple_int, kb_tuple_bool, kb_tuple_tuple, kb_tuple_str, kb_list_int, kb_list_bool, kb_list_tuple, kb_list_str, kb_dict_int, kb_dict_bool, kb_dict_tuple, kb_dict_str, m_is_fraction, g_is_fraction, isint_int, ismany_bl]

def Lw (d : D) : Prop := ∃ n k, d = fr n k ∧ 0 < k ∧ Int.gcd n k = 1
theorem require_ev {ds : List D} (h0 : ds ≠ []) (hl : ds.length ≤ 100) (h : ∀ d ∈ ds, Lw d) : m_require_fractions [.val (.tup ds)] = some (.ret (.val .non), [.val (.tup ds)]) := by
  have hc : l3_require_fractions [.val (.tup ds), .no] = some (.ok (.lst ((ds.filter fun _ => true).map fun _ => .bl true)), [.val (.tup ds), .no]) := by
    refine compD_pure (ds := ds) (ρ1 := [.val (.tup ds), .no]) _ _ (by simp [List.findIdx?_cons, eqG, neG, eqP, toPy, toPys, SeqAt.shaped, PyData.canLay0, PyData.canLayAll0, PyData.depth, PyData.depthAll, PyData.eqv, PyData.eqvAll, fnD, starD, valsOf, seqS, skipS, exps, M.bind, M.ret, M.fail, M.lift, toO, nameO, frzAt, op2, app2, app1, res, ownOf, callD, appN, resN, consO, consD, one, two, setV, setOw, giveUp, parS, augS, asB, truB, truG, andB, orB, notB, andD, orD, notD, ifD, chain3, tupD, lstD, ixG, strOf, seqOf, lisOf, tupOf, atI, ixN, negG, intG, subG, cmpG, addG, isiG, tyName, lenG, absG, intF, max2G, min2G, callS, callR, callM, argS, slotsOf, putB, toR, sVal, sOwn, inTo, setKind, isS, putC, ownM, ownT, appendG, storeS, setLG, gV, gT, gC, gN, walkL, walkT, walkR1, walkR2, loopF, backA, listG, isBG, joinD, sliceD, rangeL, allG, blsOf, partI, sizeLine, kb_int_int, kb_int_bool, kb_int_tuple, kb_int_str, kb_bool_int, kb_bool_bool, kb_bool_tuple, kb_bool_str, kb_NoneType_int, kb_NoneType_bool, kb_NoneType_tuple, kb_NoneType_str, kb_str_int, kb_str_bool, kb_str_tuple, kb_str_str, kb_tuple_int, kb_tuple_bool, kb_tuple_tuple, kb_tuple_str, kb_list_int, kb_list_bool, kb_list_tuple, kb_list_str, kb_dict_int, kb_dict_bool, kb_dict_tuple, kb_dict_str]) (by rfl) (Nat.le_trans hl (by decide)) fun d m => ?_
    obtain ⟨n, k, rfl, hk, hg⟩ := h d m
    refine ⟨[.val (.tup ds), .val (fr n k)], by simp [List.findIdx?_cons, eqG, neG, eqP, toPy, toPys, SeqAt.shaped, PyData.canLay0, PyData.canLayAll0, PyData.depth, PyData.depthAll, PyData.eqv, PyData.eqvAll, fnD, starD, valsOf, seqS, skipS, exps, M.bind, M.ret, M.fail, M.lift, toO, nameO, frzAt, op2, app2, app1, res, ownOf, callD, appN, resN, consO, consD, one, two, setV, setOw, giveUp, parS, augS, asB, truB, truG, andB, orB, notB, andD, orD, notD, ifD, chain3, tupD, lstD, ixG, strOf, seqOf, lisOf, tupOf, atI, ixN, negG, intG, subG, cmpG, addG, isiG, tyName, lenG, absG, intF, max2G, min2G, callS, callR, callM, argS, slotsOf, putB, toR, sVal, sOwn, inTo, setKind, isS, putC, ownM, ownT, appendG, storeS, setLG, gV, gT, gC, gN, walkL, walkT, walkR1, walkR2, loopF, backA, listG, isBG, joinD, sliceD, rangeL, allG, blsOf, partI, sizeLine, kb_int_int, kb_int_bool, kb_int_tuple, kb_int_str, kb_bool_int, kb_bool_bool, kb_bool_tuple, kb_bool_str, kb_NoneType_int, kb_NoneType_bool, kb_NoneType_tuple, kb_NoneType_str, kb_str_int, kb_str_bool, kb_str_tuple, kb_str_str, kb_tuple_int, kb_tuple_bool, kb_tuple_tuple, kb_tuple_str, kb_list_int, kb_list_bool, kb_list_tuple, kb_list_str, kb_dict_int, kb_dict_bool, kb_dict_tuple, kb_dict_str, s1_require_fractions, wipeE], [.val (.tup ds), .val (fr n k)], rfl, fun _ => ⟨[.val (.tup ds), .val (fr n k)], ?_, by simp [wipeE]⟩, fun e => by cases e⟩
    have h1 : 1 ≤ k := by omega
    simp [List.findIdx?_cons, eqG, neG, eqP, toPy, toPys, SeqAt.shaped, PyData.canLay0, PyData.canLayAll0, PyData.depth, PyData.depthAll, PyData.eqv, PyData.eqvAll, fnD, starD, valsOf, seqS, skipS, exps, M.bind, M.ret, M.fail, M.lift, toO, nameO, frzAt, op2, app2, app1, res, ownOf, callD, appN, resN, consO, consD, one, two, setV, setOw, giveUp, parS, augS, asB, truB, truG, andB, orB, notB, andD, orD, notD, ifD, chain3, tupD, lstD, ixG, strOf, seqOf, lisOf, tupOf, atI, ixN, negG, intG, subG, cmpG, addG, isiG, tyName, lenG, absG, intF, max2G, min2G, callS, callR, callM, argS, slotsOf, putB, toR, sVal, sOwn, inTo, setKind, isS, putC, ownM, ownT, appendG, storeS, setLG, gV, gT, gC, gN, walkL, walkT, walkR1, walkR2, loopF, backA, listG, isBG, joinD, sliceD, rangeL, allG, blsOf, partI, sizeLine, kb_int_int, kb_int_bool, kb_int_tuple, kb_int_str, kb_bool_int, kb_bool_bool, kb_bool_tuple, kb_bool_str, kb_NoneType_int, kb_NoneType_bool, kb_NoneType_tuple, kb_NoneType_str, kb_str_int, kb_str_bool, kb_str_tuple, kb_str_str, kb_tuple_int, kb_tuple_bool, kb_tuple_tuple, kb_tuple_str, kb_list_int, kb_list_bool, kb_list_tuple, kb_list_str, kb_dict_int, kb_dict_bool, kb_dict_tuple, kb_dict_str, e2_require_fractions, isfr_fr, h1, hg]
  rw [show (ds.filter fun _ => true) = ds from List.filter_eq_self.mpr fun _ _ => rfl] at hc
  have hb := blsOf_map (f := fun _ => true) ds
  have hne : ds.length ≠ 0 := by simpa using h0
  simp [List.findIdx?_cons, eqG, neG, eqP, toPy, toPys, SeqAt.shaped, PyData.canLay0, PyData.canLayAll0, PyData.depth, PyData.depthAll, PyData.eqv, PyData.eqvAll, fnD, starD, valsOf, seqS, skipS, exps, M.bind, M.ret, M.fail, M.lift, toO, nameO, frzAt, op2, app2, app1, res, ownOf, callD, appN, resN, consO, consD, one, two, setV, setOw, giveUp, parS, augS, asB, truB, truG, andB, orB, notB, andD, orD, notD, ifD, chain3, tupD, lstD, ixG, strOf, seqOf, lisOf, tupOf, atI, ixN, negG, intG, subG, cmpG, addG, isiG, tyName, lenG, absG, intF, max2G, min2G, callS, callR, callM, argS, slotsOf, putB, toR, sVal, sOwn, inTo, setKind, isS, putC, ownM, ownT, appendG, storeS, setLG, gV, gT, gC, gN, walkL, walkT, walkR1, walkR2, loopF, backA, listG, isBG, joinD, sliceD, rangeL, allG, blsOf, partI, sizeLine, kb_int_int, kb_int_bool, kb_int_tuple, kb_int_str, kb_bool_int, kb_bool_bool, kb_bool_tuple, kb_bool_str, kb_NoneType_int, kb_NoneType_bool, kb_NoneType_tuple, kb_NoneType_str, kb_str_int, kb_str_bool, kb_str_tuple, kb_str_str, kb_tuple_int, kb_tuple_bool, kb_tuple_tuple, kb_tuple_str, kb_list_int, kb_list_bool, kb_list_tuple, kb_list_str, kb_dict_int, kb_dict_bool, kb_dict_tuple, kb_dict_str, m_require_fractions, g_require_fractions, hc, hb, hne]
theorem isless_ev {a b c d : Int} (ha : a.natAbs < 2 ^ 64) (hb : b.natAbs < 2 ^ 64) (hc : c.natAbs < 2 ^ 64) (hd : d.natAbs < 2 ^ 64) : m_is_less [.val (fr a b), .val (fr c d)] = some (.ret (.val (.bl (decide (a * d < c * b)))), [.val (fr a b), .val (fr c d)]) := by
  simp [List.findIdx?_cons, eqG, neG, eqP, toPy, toPys, SeqAt.shaped, PyData.canLay0, PyData.canLayAll0, PyData.depth, PyData.depthAll, PyData.eqv, PyData.eqvAll, fnD, starD, valsOf, seqS, skipS, exps, M.bind, M.ret, M.fail, M.lift, toO, nameO, frzAt, op2, app2, app1, res, ownOf, callD, appN, resN, consO, consD, one, two, setV, setOw, giveUp, parS, augS, asB, truB, truG, andB, orB, notB, andD, orD, notD, ifD, chain3, tupD, lstD, ixG, strOf, seqOf, lisOf, tupOf, atI, ixN, negG, intG, subG, cmpG, addG, isiG, tyName, lenG, absG, intF, max2G, min2G, callS, callR, callM, argS, slotsOf, putB, toR, sVal, sOwn, inTo, setKind, isS, putC, ownM, ownT, appendG, storeS, setLG, gV, gT, gC, gN, walkL, walkT, walkR1, walkR2, loopF, backA, listG, isBG, joinD, sliceD, rangeL, allG, blsOf, partI, sizeLine, kb_int_int, kb_int_bool, kb_int_tuple, kb_int_str, kb_bool_int, kb_bool_bool, kb_bool_tuple, kb_bool_str, kb_NoneType_int, kb_NoneType_bool, kb_NoneType_tuple, kb_NoneType_str, kb_str_int, kb_str_bool, kb_str_tuple, kb_str_str, kb_tuple_int, kb_tuple_bool, kb_tuple_tuple, kb_tuple_str, kb_list_int, kb_list_bool, kb_list_tuple, kb_list_str, kb_dict_int, kb_dict_bool, kb_dict_tuple, kb_dict_str, m_is_less, g_is_less, mul_small ha hd, mul_small hc hb]
theorem lless_ev {a b c d : Int} (ha : a.natAbs < 2 ^ 64) (hb : b.natAbs < 2 ^ 64) (hc : c.natAbs < 2 ^ 64) (hd : d.natAbs < 2 ^ 64) : m__law_less [.val (fr a b), .val (fr c d)] = some (.ret (.val (.bl (decide (a * d < c * b)))), [.val (fr a b), .val (fr c d)]) := by
  simp [List.findIdx?_cons, eqG, neG, eqP, toPy, toPys, SeqAt.shaped, PyData.canLay0, PyData.canLayAll0, PyData.depth, PyData.depthAll, PyData.eqv, PyData.eqvAll, fnD, starD, valsOf, seqS, skipS, exps, M.bind, M.ret, M.fail, M.lift, toO, nameO, frzAt, op2, app2, app1, res, ownOf, callD, appN, resN, consO, consD, one, two, setV, setOw, giveUp, parS, augS, asB, truB, truG, andB, orB, notB, andD, orD, notD, ifD, chain3, tupD, lstD, ixG, strOf, seqOf, lisOf, tupOf, atI, ixN, negG, intG, subG, cmpG, addG, isiG, tyName, lenG, absG, intF, max2G, min2G, callS, callR, callM, argS, slotsOf, putB, toR, sVal, sOwn, inTo, setKind, isS, putC, ownM, ownT, appendG, storeS, setLG, gV, gT, gC, gN, walkL, walkT, walkR1, walkR2, loopF, backA, listG, isBG, joinD, sliceD, rangeL, allG, blsOf, partI, sizeLine, kb_int_int, kb_int_bool, kb_int_tuple, kb_int_str, kb_bool_int, kb_bool_bool, kb_bool_tuple, kb_bool_str, kb_NoneType_int, kb_NoneType_bool, kb_NoneType_tuple, kb_NoneType_str, kb_str_int, kb_str_bool, kb_str_tuple, kb_str_str, kb_tuple_int, kb_tuple_bool, kb_tuple_tuple, kb_tuple_str, kb_list_int, kb_list_bool, kb_list_tuple, kb_list_str, kb_dict_int, kb_dict_bool, kb_dict_tuple, kb_dict_str, m__law_less, g__law_less, mul_small ha hd, mul_small hc hb]

abbrev Sm (x : Int) : Prop := x.natAbs < 2 ^ 64
theorem lower_ev {a b c d : Int} (ha : Sm a) (hb : Sm b) (hc : Sm c) (hd : Sm d) (h1 : Lw (fr a b)) (h2 : Lw (fr c d)) : m_is_lower [.val (fr a b), .val (fr c d)] = some (.ret (.val (.bl (decide (a * d < c * b)))), [.val (fr a b), .val (fr c d)]) := by
  have hr := require_ev (ds := [fr a b, fr c d]) (by simp) (by simp) (by
    intro x hx
    simp only [List.mem_cons, List.not_mem_nil, or_false] at hx
    rcases hx with rfl | rfl
    · exact h1
    · exact h2)
  simp [List.findIdx?_cons, eqG, neG, eqP, toPy, toPys, SeqAt.shaped, PyData.canLay0, PyData.canLayAll0, PyData.depth, PyData.depthAll, PyData.eqv, PyData.eqvAll, fnD, starD, valsOf, seqS, skipS, exps, M.bind, M.ret, M.fail, M.lift, toO, nameO, frzAt, op2, app2, app1, res, ownOf, callD, appN, resN, consO, consD, one, two, setV, setOw, giveUp, parS, augS, asB, truB, truG, andB, orB, notB, andD, orD, notD, ifD, chain3, tupD, lstD, ixG, strOf, seqOf, lisOf, tupOf, atI, ixN, negG, intG, subG, cmpG, addG, isiG, tyName, lenG, absG, intF, max2G, min2G, callS, callR, callM, argS, slotsOf, putB, toR, sVal, sOwn, inTo, setKind, isS, putC, ownM, ownT, appendG, storeS, setLG, gV, gT, gC, gN, walkL, walkT, walkR1, walkR2, loopF, backA, listG, isBG, joinD, sliceD, rangeL, allG, blsOf, partI, sizeLine, kb_int_int, kb_int_bool, kb_int_tuple, kb_int_str, kb_bool_int, kb_bool_bool, kb_bool_tuple, kb_bool_str, kb_NoneType_int, kb_NoneType_bool, kb_NoneType_tuple, kb_NoneType_str, kb_str_int, kb_str_bool, kb_str_tuple, kb_str_str, kb_tuple_int, kb_tuple_bool, kb_tuple_tuple, kb_tuple_str, kb_list_int, kb_list_bool, kb_list_tuple, kb_list_str, kb_dict_int, kb_dict_bool, kb_dict_tuple, kb_dict_str, m_is_lower, g_is_lower, hr, isless_ev ha hb hc hd]
/-- the greatest of rows, by cross products -/
def bigger (x y : Int × Int) : Int × Int := if x.1 * y.2 < y.1 * x.2 then y else x
abbrev fp (p : Int × Int) : D := fr p.1 p.2
abbrev SmP (p : Int × Int) : Prop := Sm p.1 ∧ Sm p.2
theorem gloop : ∀ (ps : List (Int × Int)) (f : Int × Int) (z s : Sl), SmP f → (∀ p ∈ ps, SmP p) → ∃ s', loopF s1_greatest_in b2_greatest_in (ps.map fp) [z, .val (fp f), s] = some (.nx, [z, .val (fp (ps.foldl bigger f)), s'])
  | [], f, z, s, _, _ => ⟨s, rfl⟩
  | p :: ps, f, z, s, hf, h => by
    have hp := h p (List.mem_cons_self ..)
    obtain ⟨s', e⟩ := gloop ps (bigger f p) z (.val (fp p)) (by unfold bigger; split <;> assumption) fun q m => h q (List.mem_cons_of_mem _ m)
    refine ⟨s', ?_⟩
    have hl := isless_ev hf.1 hf.2 hp.1 hp.2
    rw [List.map_cons, loopF_nx (ρ1 := [z, .val (fp f), .val (fp p)]) (ρ2 := [z, .val (fp (bigger f p)), .val (fp p)]) (by simp [List.findIdx?_cons, eqG, neG, eqP, toPy, toPys, SeqAt.shaped, PyData.canLay0, PyData.canLayAll0, PyData.depth, PyData.depthAll, PyData.eqv, PyData.eqvAll, fnD, starD, valsOf, seqS, skipS, exps, M.bind, M.ret, M.fail, M.lift, toO, nameO, frzAt, op2, app2, app1, res, ownOf, callD, appN, resN, consO, consD, one, two, setV, setOw, giveUp, parS, augS, asB, truB, truG, andB, orB, notB, andD, orD, notD, ifD, chain3, tupD, lstD, ixG, strOf, seqOf, lisOf, tupOf, atI, ixN, negG, intG, subG, cmpG, addG, isiG, tyName, lenG, absG, intF, max2G, min2G, callS, callR, callM, argS, slotsOf, putB, toR, sVal, sOwn, inTo, setKind, isS, putC, ownM, ownT, appendG, storeS, setLG, gV, gT, gC, gN, walkL, walkT, walkR1, walkR2, loopF, backA, listG, isBG, joinD, sliceD, rangeL, allG, blsOf, partI, sizeLine, kb_int_int, kb_int_bool, kb_int_tuple, kb_int_str, kb_bool_int, kb_bool_bool, kb_bool_tuple, kb_bool_str, kb_NoneType_int, kb_NoneType_bool, kb_NoneType_tuple, kb_NoneType_str, kb_str_int, kb_str_bool, kb_str_tuple, kb_str_str, kb_tuple_int, kb_tuple_bool, kb_tuple_tuple, kb_tuple_str, kb_list_int, kb_list_bool, kb_list_tuple, kb_list_str, kb_dict_int, kb_dict_bool, kb_dict_tuple, kb_dict_str, s1_greatest_in]) ?_]
    · exact e
    · by_cases c : f.1 * p.2 < p.1 * f.2
      · simp [List.findIdx?_cons, eqG, neG, eqP, toPy, toPys, SeqAt.shaped, PyData.canLay0, PyData.canLayAll0, PyData.depth, PyData.depthAll, PyData.eqv, PyData.eqvAll, fnD, starD, valsOf, seqS, skipS, exps, M.bind, M.ret, M.fail, M.lift, toO, nameO, frzAt, op2, app2, app1, res, ownOf, callD, appN, resN, consO, consD, one, two, setV, setOw, giveUp, parS, augS, asB, truB, truG, andB, orB, notB, andD, orD, notD, ifD, chain3, tupD, lstD, ixG, strOf, seqOf, lisOf, tupOf, atI, ixN, negG, intG, subG, cmpG, addG, isiG, tyName, lenG, absG, intF, max2G, min2G, callS, callR, callM, argS, slotsOf, putB, toR, sVal, sOwn, inTo, setKind, isS, putC, ownM, ownT, appendG, storeS, setLG, gV, gT, gC, gN, walkL, walkT, walkR1, walkR2, loopF, backA, listG, isBG, joinD, sliceD, rangeL, allG, blsOf, partI, sizeLine, kb_int_int, kb_int_bool, kb_int_tuple, kb_int_str, kb_bool_int, kb_bool_bool, kb_bool_tuple, kb_bool_str, kb_NoneType_int, kb_NoneType_bool, kb_NoneType_tuple, kb_NoneType_str, kb_str_int, kb_str_bool, kb_str_tuple, kb_str_str, kb_tuple_int, kb_tuple_bool, kb_tuple_tuple, kb_tuple_str, kb_list_int, kb_list_bool, kb_list_tuple, kb_list_str, kb_dict_int, kb_dict_bool, kb_dict_tuple, kb_dict_str, b2_greatest_in, hl, c, bigger]
      · simp [List.findIdx?_cons, eqG, neG, eqP, toPy, toPys, SeqAt.shaped, PyData.canLay0, PyData.canLayAll0, PyData.depth, PyData.depthAll, PyData.eqv, PyData.eqvAll, fnD, starD, valsOf, seqS, skipS, exps, M.bind, M.ret, M.fail, M.lift, toO, nameO, frzAt, op2, app2, app1, res, ownOf, callD, appN, resN, consO, consD, one, two, setV, setOw, giveUp, parS, augS, asB, truB, truG, andB, orB, notB, andD, orD, notD, ifD, chain3, tupD, lstD, ixG, strOf, seqOf, lisOf, tupOf, atI, ixN, negG, intG, subG, cmpG, addG, isiG, tyName, lenG, absG, intF, max2G, min2G, callS, callR, callM, argS, slotsOf, putB, toR, sVal, sOwn, inTo, setKind, isS, putC, ownM, ownT, appendG, storeS, setLG, gV, gT, gC, gN, walkL, walkT, walkR1, walkR2, loopF, backA, listG, isBG, joinD, sliceD, rangeL, allG, blsOf, partI, sizeLine, kb_int_int, kb_int_bool, kb_int_tuple, kb_int_str, kb_bool_int, kb_bool_bool, kb_bool_tuple, kb_bool_str, kb_NoneType_int, kb_NoneType_bool, kb_NoneType_tuple, kb_NoneType_str, kb_str_int, kb_str_bool, kb_str_tuple, kb_str_str, kb_tuple_int, kb_tuple_bool, kb_tuple_tuple, kb_tuple_str, kb_list_int, kb_list_bool, kb_list_tuple, kb_list_str, kb_dict_int, kb_dict_bool, kb_dict_tuple, kb_dict_str, b2_greatest_in, hl, c, bigger]
theorem greatestin_ev {p : Int × Int} {ps : List (Int × Int)} (hl : ps.length < 100) (h : ∀ q ∈ p :: ps, SmP q) : m_greatest_in [.val (.tup ((p :: ps).map fp))] = some (.ret (.val (fp ((p :: ps).foldl bigger p))), [.val (.tup ((p :: ps).map fp))]) := by
  obtain ⟨s', e⟩ := gloop (p :: ps) p (.val (.tup ((p :: ps).map fp))) .no (h p (List.mem_cons_self ..)) h
  have ix : ixG (.tup ((p :: ps).map fp)) (.int 0) = some (fp p) := by
    have : (0 : Int) < (((p :: ps).map fp).length : Int) := by rw [List.length_map, List.length_cons]; omega
    simp [List.findIdx?_cons, eqG, neG, eqP, toPy, toPys, SeqAt.shaped, PyData.canLay0, PyData.canLayAll0, PyData.depth, PyData.depthAll, PyData.eqv, PyData.eqvAll, fnD, starD, valsOf, seqS, skipS, exps, M.bind, M.ret, M.fail, M.lift, toO, nameO, frzAt, op2, app2, app1, res, ownOf, callD, appN, resN, consO, consD, one, two, setV, setOw, giveUp, parS, augS, asB, truB, truG, andB, orB, notB, andD, orD, notD, ifD, chain3, tupD, lstD, ixG, strOf, seqOf, lisOf, tupOf, atI, ixN, negG, intG, subG, cmpG, addG, isiG, tyName, lenG, absG, intF, max2G, min2G, callS, callR, callM, argS, slotsOf, putB, toR, sVal, sOwn, inTo, setKind, isS, putC, ownM, ownT, appendG, storeS, setLG, gV, gT, gC, gN, walkL, walkT, walkR1, walkR2, loopF, backA, listG, isBG, joinD, sliceD, rangeL, allG, blsOf, partI, sizeLine, kb_int_int, kb_int_bool, kb_int_tuple, kb_int_str, kb_bool_int, kb_bool_bool, kb_bool_tuple, kb_bool_str, kb_NoneType_int, kb_NoneType_bool, kb_NoneType_tuple, kb_NoneType_str, kb_str_int, kb_str_bool, kb_str_tuple, kb_str_str, kb_tuple_int, kb_tuple_bool, kb_tuple_tuple, kb_tuple_str, kb_list_int, kb_list_bool, kb_list_tuple, kb_list_str, kb_dict_int, kb_dict_bool, kb_dict_tuple, kb_dict_str]
  generalize hT : D.tup ((p :: ps).map fp) = T at *
  have hw : tupOf T = some ((p :: ps).map fp) := by rw [← hT]; rfl
  have hs : seqS (exps (op2 ixG (nameO 0) (toO (M.ret (.int 0)))) (setV 1)) (seqS (exps (walkT (frzAt 0)) fun ds => loopF s1_greatest_in b2_greatest_in ds) (exps (frzAt 1) fun d ρ => some (.ret (.val d), ρ))) [.val T, .no, .no] = some (.ret (.val (fp ((p :: ps).foldl bigger p))), [.val T, .val (fp ((p :: ps).foldl bigger p)), s']) := by
    rw [seqS_nx (ρ1 := [.val T, .val (fp p), .no]) (by
      unfold exps op2 nameO toO M.bind M.ret app2 setV
      simp [res, ix, M.bind, M.ret])]
    rw [seqS_nx (ρ1 := [.val T, .val (fp ((p :: ps).foldl bigger p)), s']) (by
      rw [exps_ev (a := (p :: ps).map fp) (ρ1 := [.val T, .val (fp p), .no]) (by
        unfold walkT
        rw [bind_ev (a := T) (ρ1 := [.val T, .val (fp p), .no]) (by simp [List.findIdx?_cons, eqG, neG, eqP, toPy, toPys, SeqAt.shaped, PyData.canLay0, PyData.canLayAll0, PyData.depth, PyData.depthAll, PyData.eqv, PyData.eqvAll, fnD, starD, valsOf, seqS, skipS, exps, M.bind, M.ret, M.fail, M.lift, toO, nameO, frzAt, op2, app2, app1, res, ownOf, callD, appN, resN, consO, consD, one, two, setV, setOw, giveUp, parS, augS, asB, truB, truG, andB, orB, notB, andD, orD, notD, ifD, chain3, tupD, lstD, ixG, strOf, seqOf, lisOf, tupOf, atI, ixN, negG, intG, subG, cmpG, addG, isiG, tyName, lenG, absG, intF, max2G, min2G, callS, callR, callM, argS, slotsOf, putB, toR, sVal, sOwn, inTo, setKind, isS, putC, ownM, ownT, appendG, storeS, setLG, gV, gT, gC, gN, walkL, walkT, walkR1, walkR2, loopF, backA, listG, isBG, joinD, sliceD, rangeL, allG, blsOf, partI, sizeLine, kb_int_int, kb_int_bool, kb_int_tuple, kb_int_str, kb_bool_int, kb_bool_bool, kb_bool_tuple, kb_bool_str, kb_NoneType_int, kb_NoneType_bool, kb_NoneType_tuple, kb_NoneType_str, kb_str_int, kb_str_bool, kb_str_tuple, kb_str_str, kb_tuple_int, kb_tuple_bool, kb_tuple_tuple, kb_tuple_str, kb_list_int, kb_list_bool, kb_list_tuple, kb_list_str, kb_dict_int, kb_dict_bool, kb_dict_tuple, kb_dict_str])]
        unfold M.lift; rw [hw])]
      exact e)]
    simp [List.findIdx?_cons, eqG, neG, eqP, toPy, toPys, SeqAt.shaped, PyData.canLay0, PyData.canLayAll0, PyData.depth, PyData.depthAll, PyData.eqv, PyData.eqvAll, fnD, starD, valsOf, seqS, skipS, exps, M.bind, M.ret, M.fail, M.lift, toO, nameO, frzAt, op2, app2, app1, res, ownOf, callD, appN, resN, consO, consD, one, two, setV, setOw, giveUp, parS, augS, asB, truB, truG, andB, orB, notB, andD, orD, notD, ifD, chain3, tupD, lstD, ixG, strOf, seqOf, lisOf, tupOf, atI, ixN, negG, intG, subG, cmpG, addG, isiG, tyName, lenG, absG, intF, max2G, min2G, callS, callR, callM, argS, slotsOf, putB, toR, sVal, sOwn, inTo, setKind, isS, putC, ownM, ownT, appendG, storeS, setLG, gV, gT, gC, gN, walkL, walkT, walkR1, walkR2, loopF, backA, listG, isBG, joinD, sliceD, rangeL, allG, blsOf, partI, sizeLine, kb_int_int, kb_int_bool, kb_int_tuple, kb_int_str, kb_bool_int, kb_bool_bool, kb_bool_tuple, kb_bool_str, kb_NoneType_int, kb_NoneType_bool, kb_NoneType_tuple, kb_NoneType_str, kb_str_int, kb_str_bool, kb_str_tuple, kb_str_str, kb_tuple_int, kb_tuple_bool, kb_tuple_tuple, kb_tuple_str, kb_list_int, kb_list_bool, kb_list_tuple, kb_list_str, kb_dict_int, kb_dict_bool, kb_dict_tuple, kb_dict_str]
  exact fnD_ret rfl hs rfl
theorem greatest_ev {p : Int × Int} {ps : List (Int × Int)} (hl : ps.length < 100) (h : ∀ q ∈ p :: ps, SmP q) (hw : ∀ q ∈ p :: ps, Lw (fp q)) : m_greatest ((p :: ps).map fun q => .val (fp q)) = some (.ret (.val (fp ((p :: ps).foldl bigger p))), (p :: ps).map fun q => .val (fp q)) := by
  have hr := require_ev (ds := (p :: ps).map fp) (by simp) (by simp; omega) (by
    intro x hx
    obtain ⟨q, m, rfl⟩ := List.mem_map.mp hx
    exact hw q m)
  have hg := greatestin_ev hl h
  have hv : valsOf ((p :: ps).map fun q => Sl.val (fp q)) = some ((p :: ps).map fp) := by
    generalize p :: ps = l
    induction l with
    | nil => rfl
    | cons a l ih =>
      show (valsOf (l.map fun q => Sl.val (fp q))).map (fun ds => fp a :: ds) = _
      rw [ih]; rfl
  have hlen : ((p :: ps).map fp).length ≤ sizeLine := by
    rw [List.length_map, List.length_cons]
    have : (100 : Nat) ≤ sizeLine := by decide
    omega
  generalize hT : (p :: ps).map fp = T at *
  generalize ((p :: ps).map fun q => Sl.val (fp q)) = T2 at *
  unfold m_greatest starD
  rw [hv]
  show (if 0 ≤ T.length ∧ T.length ≤ sizeLine then (fnD 1 1 g_greatest ((T.take 0).map .val ++ [.val (.tup (T.drop 0))])).bind fun q => some (q.1, T2) else none) = _
  rw [if_pos ⟨Nat.zero_le _, hlen⟩]
  simp [List.findIdx?_cons, eqG, neG, eqP, toPy, toPys, SeqAt.shaped, PyData.canLay0, PyData.canLayAll0, PyData.depth, PyData.depthAll, PyData.eqv, PyData.eqvAll, fnD, starD, valsOf, seqS, skipS, exps, M.bind, M.ret, M.fail, M.lift, toO, nameO, frzAt, op2, app2, app1, res, ownOf, callD, appN, resN, consO, consD, one, two, setV, setOw, giveUp, parS, augS, asB, truB, truG, andB, orB, notB, andD, orD, notD, ifD, chain3, tupD, lstD, ixG, strOf, seqOf, lisOf, tupOf, atI, ixN, negG, intG, subG, cmpG, addG, isiG, tyName, lenG, absG, intF, max2G, min2G, callS, callR, callM, argS, slotsOf, putB, toR, sVal, sOwn, inTo, setKind, isS, putC, ownM, ownT, appendG, storeS, setLG, gV, gT, gC, gN, walkL, walkT, walkR1, walkR2, loopF, backA, listG, isBG, joinD, sliceD, rangeL, allG, blsOf, partI, sizeLine, kb_int_int, kb_int_bool, kb_int_tuple, kb_int_str, kb_bool_int, kb_bool_bool, kb_bool_tuple, kb_bool_str, kb_NoneType_int, kb_NoneType_bool, kb_NoneType_tuple, kb_NoneType_str, kb_str_int, kb_str_bool, kb_str_tuple, kb_str_str, kb_tuple_int, kb_tuple_bool, kb_tuple_tuple, kb_tuple_str, kb_list_int, kb_list_bool, kb_list_tuple, kb_list_str, kb_dict_int, kb_dict_bool, kb_dict_tuple, kb_dict_str, g_greatest, hr, hg]
/-! the dice -/
abbrev dc (a b c : Int) : D := .lst [.int a, .int b, .int c]
/-- a dice that may be rolled n times more -/
def Dc (n : Nat) (d : D) : Prop := ∃ a b c : Int, d = dc a b c ∧ 0 ≤ b ∧ b < 2 ^ 32 ∧ 0 ≤ c ∧ c + n ≤ 2 ^ 30
theorem Dc.le {n m : Nat} {d : D} (h : Dc n d) (l : m ≤ n) : Dc m d := by
  obtain ⟨a, b, c, e, h1, h2, h3, h4⟩ := h
  exact ⟨a, b, c, e, h1, h2, h3, by omega⟩
theorem roll_ev {n : Nat} {d : D} {t : Int} (h : Dc (n + 1) d) (h0 : 0 < t) (h1 : t < 2 ^ 40) : ∃ (x : Int) (d' : D), 0 ≤ x ∧ x < t ∧ Dc n d' ∧ m__law_roll [.par d, .val (.int t)] = some (.ret (.val (.int x)), [.par d', .val (.int t)]) := by
  obtain ⟨a, b, c, rfl, b0, b1, c0, c1⟩ := h
  by_cases ha : 0 < a
  · refine ⟨a % t, dc (a / t) b c, Int.emod_nonneg _ (by omega), Int.emod_lt_of_pos _ h0, ⟨_, _, _, rfl, b0, b1, c0, by omega⟩, ?_⟩
    have f1 := fun i => fdiv_small (i := i) h0 (by omega)
    simp [List.findIdx?_cons, eqG, neG, eqP, toPy, toPys, SeqAt.shaped, PyData.canLay0, PyData.canLayAll0, PyData.depth, PyData.depthAll, PyData.eqv, PyData.eqvAll, fnD, starD, valsOf, seqS, skipS, exps, M.bind, M.ret, M.fail, M.lift, toO, nameO, frzAt, op2, app2, app1, res, ownOf, callD, appN, resN, consO, consD, one, two, setV, setOw, giveUp, parS, augS, asB, truB, truG, andB, orB, notB, andD, orD, notD, ifD, chain3, tupD, lstD, ixG, strOf, seqOf, lisOf, tupOf, atI, ixN, negG, intG, subG, cmpG, addG, isiG, tyName, lenG, absG, intF, max2G, min2G, callS, callR, callM, argS, slotsOf, putB, toR, sVal, sOwn, inTo, setKind, isS, putC, ownM, ownT, appendG, storeS, setLG, gV, gT, gC, gN, walkL, walkT, walkR1, walkR2, loopF, backA, listG, isBG, joinD, sliceD, rangeL, allG, blsOf, partI, sizeLine, kb_int_int, kb_int_bool, kb_int_tuple, kb_int_str, kb_bool_int, kb_bool_bool, kb_bool_tuple, kb_bool_str, kb_NoneType_int, kb_NoneType_bool, kb_NoneType_tuple, kb_NoneType_str, kb_str_int, kb_str_bool, kb_str_tuple, kb_str_str, kb_tuple_int, kb_tuple_bool, kb_tuple_tuple, kb_tuple_str, kb_list_int, kb_list_bool, kb_list_tuple, kb_list_str, kb_dict_int, kb_dict_bool, kb_dict_tuple, kb_dict_str, m__law_roll, g__law_roll, ha, mod_pos h0, f1]
  · have q1 : (1000249 : Int) * (c + 1) < 2 ^ 64 := by omega
    obtain ⟨u1, e1⟩ : ∃ o, o = (b + 1000249 * (c + 1)) % 2305843009213693951 := ⟨_, rfl⟩
    have o0 : 0 ≤ u1 := by omega
    have o1 : u1 < 2305843009213693951 := by omega
    obtain ⟨u2, e2⟩ : ∃ o, o = u1 * u1 % 2305843009213693921 := ⟨_, rfl⟩
    have t0 : 0 ≤ u2 := by rw [e2]; exact Int.emod_nonneg _ (by decide)
    have t1 : u2 < 2305843009213693921 := by rw [e2]; exact Int.emod_lt_of_pos _ (by decide)
    refine ⟨(u2 * u1 + 9437 * (c + 1)) % 2305843009213693907 / 4096 % t, dc a b (c + 1), Int.emod_nonneg _ (by omega), Int.emod_lt_of_pos _ h0, ⟨_, _, _, rfl, b0, b1, by omega, by omega⟩, ?_⟩
    have m1 := mul_small (i := 1000249) (j := c + 1) (by decide) (by omega)
    have m2 := mul_small (i := u1) (j := u1) (by omega) (by omega)
    have m3 := mul_small (i := u2) (j := u1) (by omega) (by omega)
    have m4 := mul_small (i := 9437) (j := c + 1) (by decide) (by omega)
    have d1 := fun i => mod_pos (i := i) (j := 2305843009213693951) (by decide)
    have d2 := fun i => mod_pos (i := i) (j := 2305843009213693921) (by decide)
    have d3 := fun i => mod_pos (i := i) (j := 2305843009213693907) (by decide)
    have d4 := fun i => fdiv_small (i := i) (j := 4096) (by decide) (by decide)
    simp [List.findIdx?_cons, eqG, neG, eqP, toPy, toPys, SeqAt.shaped, PyData.canLay0, PyData.canLayAll0, PyData.depth, PyData.depthAll, PyData.eqv, PyData.eqvAll, fnD, starD, valsOf, seqS, skipS, exps, M.bind, M.ret, M.fail, M.lift, toO, nameO, frzAt, op2, app2, app1, res, ownOf, callD, appN, resN, consO, consD, one, two, setV, setOw, giveUp, parS, augS, asB, truB, truG, andB, orB, notB, andD, orD, notD, ifD, chain3, tupD, lstD, ixG, strOf, seqOf, lisOf, tupOf, atI, ixN, negG, intG, subG, cmpG, addG, isiG, tyName, lenG, absG, intF, max2G, min2G, callS, callR, callM, argS, slotsOf, putB, toR, sVal, sOwn, inTo, setKind, isS, putC, ownM, ownT, appendG, storeS, setLG, gV, gT, gC, gN, walkL, walkT, walkR1, walkR2, loopF, backA, listG, isBG, joinD, sliceD, rangeL, allG, blsOf, partI, sizeLine, kb_int_int, kb_int_bool, kb_int_tuple, kb_int_str, kb_bool_int, kb_bool_bool, kb_bool_tuple, kb_bool_str, kb_NoneType_int, kb_NoneType_bool, kb_NoneType_tuple, kb_NoneType_str, kb_str_int, kb_str_bool, kb_str_tuple, kb_str_str, kb_tuple_int, kb_tuple_bool, kb_tuple_tuple, kb_tuple_str, kb_list_int, kb_list_bool, kb_list_tuple, kb_list_str, kb_dict_int, kb_dict_bool, kb_dict_tuple, kb_dict_str, m__law_roll, g__law_roll, ha, m1, m2, m3, m4, d1, d2, d3, d4, mod_pos h0, ← e1, ← e2]
theorem oneof_ev {n : Nat} {d : D} {ds : List D} (h : Dc (n + 1) d) (h0 : 0 < ds.length) (h1 : ds.length < 1000) : ∃ (x d' : D), x ∈ ds ∧ Dc n d' ∧ m__law_one_of [.par d, .val (.lst ds)] = some (.ret (.val x), [.par d', .val (.lst ds)]) := by
  obtain ⟨x, d', x0, x1, hd, e⟩ := roll_ev (t := (ds.length : Int)) h (by omega) (by omega)
  have hk : x.toNat < ds.length := by omega
  refine ⟨ds[x.toNat], d', List.getElem_mem .., hd, ?_⟩
  have ix : ixG (.lst ds) (.int x) = some ds[x.toNat] := by
    show (atI ds x) = _
    unfold atI ixN
    rw [if_pos x0, if_pos x1]
    exact List.getElem?_eq_getElem hk
  have hl : lenG (.lst ds) = some (.int ds.length) := rfl
  generalize D.lst ds = T at *
  simp [m__law_one_of, g__law_one_of, fnD, exps, M.bind, M.ret, op2, nameO, toO, callS, consO, callD, appN, resN, res, Pd.one, hl, callR, callM, argS, ownOf, slotsOf, e, putB, List.findIdx?_cons, isS, inTo, setKind, toR, sVal, app2, ix, backA]
end K01
end Pd

namespace Pd
open PySem PySem.Spec L2
namespace K01
theorem drawn_ev {n : Nat} {d : D} (h : Dc (n + 3) d) : ∃ (x y : Int) (d' : D), -40 ≤ x ∧ x ≤ 40 ∧ 1 ≤ y ∧ y ≤ 40 ∧ Dc n d' ∧ m__law_drawn [.par d] = some (.ret (.val (fr x y)), [.par d']) := by
  obtain ⟨g, d1, hg, hd1, e1⟩ := oneof_ev (n := n + 2) (ds := [.int 5, .int 13, .int 40]) h (by decide) (by decide)
  obtain ⟨g, rfl, g0, g1⟩ : ∃ i : Int, g = .int i ∧ 1 ≤ i ∧ i ≤ 40 := by
    simp only [List.mem_cons, List.not_mem_nil, or_false] at hg
    rcases hg with rfl | rfl | rfl
    · exact ⟨_, rfl, by decide, by decide⟩
    · exact ⟨_, rfl, by decide, by decide⟩
    · exact ⟨_, rfl, by decide, by decide⟩
  obtain ⟨x, d2, x0, x1, hd2, e2⟩ := roll_ev (n := n + 1) (t := 2 * g) hd1 (by omega) (by omega)
  obtain ⟨y, d3, y0, y1, hd3, e3⟩ := roll_ev (n := n) (t := g) hd2 (by omega) (by omega)
  refine ⟨x - g, 1 + y, d3, by omega, by omega, by omega, by omega, hd3, ?_⟩
  have m1 := mul_small (i := 2) (j := g) (by decide) (by omega)
  simp [List.findIdx?_cons, eqG, neG, eqP, toPy, toPys, SeqAt.shaped, PyData.canLay0, PyData.canLayAll0, PyData.depth, PyData.depthAll, PyData.eqv, PyData.eqvAll, fnD, starD, valsOf, seqS, skipS, exps, M.bind, M.ret, M.fail, M.lift, toO, nameO, frzAt, op2, app2, app1, res, ownOf, callD, appN, resN, consO, consD, one, two, setV, setOw, giveUp, parS, augS, asB, truB, truG, andB, orB, notB, andD, orD, notD, ifD, chain3, tupD, lstD, ixG, strOf, seqOf, lisOf, tupOf, atI, ixN, negG, intG, subG, cmpG, addG, isiG, tyName, lenG, absG, intF, max2G, min2G, callS, callR, callM, argS, slotsOf, putB, toR, sVal, sOwn, inTo, setKind, isS, putC, ownM, ownT, appendG, storeS, setLG, gV, gT, gC, gN, walkL, walkT, walkR1, walkR2, loopF, backA, listG, isBG, joinD, sliceD, rangeL, allG, blsOf, partI, sizeLine, kb_int_int, kb_int_bool, kb_int_tuple, kb_int_str, kb_bool_int, kb_bool_bool, kb_bool_tuple, kb_bool_str, kb_NoneType_int, kb_NoneType_bool, kb_NoneType_tuple, kb_NoneType_str, kb_str_int, kb_str_bool, kb_str_tuple, kb_str_str, kb_tuple_int, kb_tuple_bool, kb_tuple_tuple, kb_tuple_str, kb_list_int, kb_list_bool, kb_list_tuple, kb_list_str, kb_dict_int, kb_dict_bool, kb_dict_tuple, kb_dict_str, m__law_drawn, g__law_drawn, e1, e2, e3, m1]
/-! what is in lowest terms -/
theorem toPys_ints : ∀ is : List Int, toPys (is.map D.int) = some (is.map PyData.int)
  | [] => rfl
  | i :: is => by
    show (toPy (.int i)).bind (fun p => (toPys (is.map D.int)).map fun ps => p :: ps) = _
    rw [toPys_ints is]; rfl
theorem lay_ints : ∀ is : List Int, PyData.canLayAll0 (is.map PyData.int) = true
  | [] => rfl
  | i :: is => by
    show (PyData.canLay0 (.int i) && PyData.canLayAll0 (is.map PyData.int)) = true
    rw [lay_ints is]; rfl
theorem depth_ints : ∀ is : List Int, PyData.depthAll (is.map PyData.int) = 0
  | [] => rfl
  | i :: is => by
    show max (PyData.depth (.int i)) (PyData.depthAll (is.map PyData.int)) = 0
    rw [depth_ints is]; rfl
theorem eq_nil {is : List Int} : eqG (.lst (is.map .int)) (.lst []) = some (.bl is.isEmpty) := by
  have h1 := toPys_ints is
  have h2 := lay_ints is
  have h3 := depth_ints is
  cases is with
  | nil => simp [List.findIdx?_cons, eqG, neG, eqP, toPy, toPys, SeqAt.shaped, PyData.canLay0, PyData.canLayAll0, PyData.depth, PyData.depthAll, PyData.eqv, PyData.eqvAll, fnD, starD, valsOf, seqS, skipS, exps, M.bind, M.ret, M.fail, M.lift, toO, nameO, frzAt, op2, app2, app1, res, ownOf, callD, appN, resN, consO, consD, one, two, setV, setOw, giveUp, parS, augS, asB, truB, truG, andB, orB, notB, andD, orD, notD, ifD, chain3, tupD, lstD, ixG, strOf, seqOf, lisOf, tupOf, atI, ixN, negG, intG, subG, cmpG, addG, isiG, tyName, lenG, absG, intF, max2G, min2G, callS, callR, callM, argS, slotsOf, putB, toR, sVal, sOwn, inTo, setKind, isS, putC, ownM, ownT, appendG, storeS, setLG, gV, gT, gC, gN, walkL, walkT, walkR1, walkR2, loopF, backA, listG, isBG, joinD, sliceD, rangeL, allG, blsOf, partI, sizeLine, kb_int_int, kb_int_bool, kb_int_tuple, kb_int_str, kb_bool_int, kb_bool_bool, kb_bool_tuple, kb_bool_str, kb_NoneType_int, kb_NoneType_bool, kb_NoneType_tuple, kb_NoneType_str, kb_str_int, kb_str_bool, kb_str_tuple, kb_str_str, kb_tuple_int, kb_tuple_bool, kb_tuple_tuple, kb_tuple_str, kb_list_int, kb_list_bool, kb_list_tuple, kb_list_str, kb_dict_int, kb_dict_bool, kb_dict_tuple, kb_dict_str]
  | cons i is =>
    have h4 := toPys_ints is
    have h5 := lay_ints is
    have h6 := depth_ints is
    simp [List.findIdx?_cons, eqG, neG, eqP, toPy, toPys, SeqAt.shaped, PyData.canLay0, PyData.canLayAll0, PyData.depth, PyData.depthAll, PyData.eqv, PyData.eqvAll, fnD, starD, valsOf, seqS, skipS, exps, M.bind, M.ret, M.fail, M.lift, toO, nameO, frzAt, op2, app2, app1, res, ownOf, callD, appN, resN, consO, consD, one, two, setV, setOw, giveUp, parS, augS, asB, truB, truG, andB, orB, notB, andD, orD, notD, ifD, chain3, tupD, lstD, ixG, strOf, seqOf, lisOf, tupOf, atI, ixN, negG, intG, subG, cmpG, addG, isiG, tyName, lenG, absG, intF, max2G, min2G, callS, callR, callM, argS, slotsOf, putB, toR, sVal, sOwn, inTo, setKind, isS, putC, ownM, ownT, appendG, storeS, setLG, gV, gT, gC, gN, walkL, walkT, walkR1, walkR2, loopF, backA, listG, isBG, joinD, sliceD, rangeL, allG, blsOf, partI, sizeLine, kb_int_int, kb_int_bool, kb_int_tuple, kb_int_str, kb_bool_int, kb_bool_bool, kb_bool_tuple, kb_bool_str, kb_NoneType_int, kb_NoneType_bool, kb_NoneType_tuple, kb_NoneType_str, kb_str_int, kb_str_bool, kb_str_tuple, kb_str_str, kb_tuple_int, kb_tuple_bool, kb_tuple_tuple, kb_tuple_str, kb_list_int, kb_list_bool, kb_list_tuple, kb_list_str, kb_dict_int, kb_dict_bool, kb_dict_tuple, kb_dict_str, h4, h5, h6]
theorem gcd_all {n d : Int} (hd : 0 < d) : (∀ i : Int, 2 ≤ i → i ≤ (if n < 0 then -n else n) + d → ¬ (n % i = 0 ∧ d % i = 0)) ↔ Int.gcd n d = 1 := by
  have g0 := gpos (n := n) hd
  have g1 := gle (n := n) hd
  constructor
  · intro h
    refine Classical.byContradiction fun c => ?_
    refine h (Int.gcd n d) (by omega) (by split <;> omega) ⟨?_, ?_⟩
    · exact Int.emod_eq_zero_of_dvd (Int.gcd_dvd_left ..)
    · exact Int.emod_eq_zero_of_dvd (Int.gcd_dvd_right ..)
  · intro h i h2 h3 ⟨h4, h5⟩
    have k : i ∣ (Int.gcd n d : Int) := Int.dvd_coe_gcd (Int.dvd_of_emod_eq_zero h4) (Int.dvd_of_emod_eq_zero h5)
    rw [h] at k
    have := Int.le_of_dvd (by decide) k
    omega
theorem islow_ev {n d : Int} (h0 : 0 < d) (h1 : d ≤ 1000) (h2 : -1000 ≤ n) (h3 : n ≤ 1000) : m__law_is_lowest [.val (fr n d)] = some (.ret (.val (.bl (decide (Int.gcd n d = 1)))), [.val (fr n d)]) := by
  obtain ⟨A, hA⟩ : ∃ A, A = if n < 0 then -n else n := ⟨_, rfl⟩
  have A0 : 0 ≤ A := by rw [hA]; split <;> omega
  have A1 : A ≤ 1000 := by rw [hA]; split <;> omega
  obtain ⟨p, hp⟩ : ∃ p : Int → Bool, p = fun i => decide (n % i = 0) && decide (d % i = 0) := ⟨_, rfl⟩
  obtain ⟨is, his⟩ : ∃ is : List Int, is = (List.range (A + d + 1 - 2).toNat).map fun (i : Nat) => (2 : Int) + i := ⟨_, rfl⟩
  have hr : rngI 2 (A + d + 1 - 2).toNat = is.map D.int := by rw [his]; unfold rngI; rw [List.map_map]; rfl
  have hmem : ∀ i ∈ is, 2 ≤ i ∧ i ≤ A + d := fun i m => by
    rw [his] at m
    obtain ⟨j, mj, rfl⟩ := List.mem_map.mp m
    have := List.mem_range.mp mj
    omega
  have hc : l4__law_is_lowest [.val (fr n d), .val (.int n), .val (.int d), .val (.lst (is.map .int)), .no] = some (.ok (.lst ((is.filter p).map .int)), [.val (fr n d), .val (.int n), .val (.int d), .val (.lst (is.map .int)), .no]) := by
    have := compD_pure (fi := walkL (frzAt 3)) (gs := s1__law_is_lowest) (ft := t2__law_is_lowest) (fe := e3__law_is_lowest) (vs := [4]) (ρ := [.val (fr n d), .val (.int n), .val (.int d), .val (.lst (is.map .int)), .no]) (ds := is.map D.int) (ρ1 := [.val (fr n d), .val (.int n), .val (.int d), .val (.lst (is.map .int)), .no])
      (fun x => match x with | .int i => p i | _ => false) (fun x => x) (by simp [List.findIdx?_cons, eqG, neG, eqP, toPy, toPys, SeqAt.shaped, PyData.canLay0, PyData.canLayAll0, PyData.depth, PyData.depthAll, PyData.eqv, PyData.eqvAll, fnD, starD, valsOf, seqS, skipS, exps, M.bind, M.ret, M.fail, M.lift, toO, nameO, frzAt, op2, app2, app1, res, ownOf, callD, appN, resN, consO, consD, one, two, setV, setOw, giveUp, parS, augS, asB, truB, truG, andB, orB, notB, andD, orD, notD, ifD, chain3, tupD, lstD, ixG, strOf, seqOf, lisOf, tupOf, atI, ixN, negG, intG, subG, cmpG, addG, isiG, tyName, lenG, absG, intF, max2G, min2G, callS, callR, callM, argS, slotsOf, putB, toR, sVal, sOwn, inTo, setKind, isS, putC, ownM, ownT, appendG, storeS, setLG, gV, gT, gC, gN, walkL, walkT, walkR1, walkR2, loopF, backA, listG, isBG, joinD, sliceD, rangeL, allG, blsOf, partI, sizeLine, kb_int_int, kb_int_bool, kb_int_tuple, kb_int_str, kb_bool_int, kb_bool_bool, kb_bool_tuple, kb_bool_str, kb_NoneType_int, kb_NoneType_bool, kb_NoneType_tuple, kb_NoneType_str, kb_str_int, kb_str_bool, kb_str_tuple, kb_str_str, kb_tuple_int, kb_tuple_bool, kb_tuple_tuple, kb_tuple_str, kb_list_int, kb_list_bool, kb_list_tuple, kb_list_str, kb_dict_int, kb_dict_bool, kb_dict_tuple, kb_dict_str]) (by rfl) (by
        rw [List.length_map, his, List.length_map, List.length_range]
        have : (3000 : Nat) ≤ sizeLine := by decide
        omega) fun x m => by
      obtain ⟨i, mi, rfl⟩ := List.mem_map.mp m
      have hi := hmem i mi
      have p1 : (0 : Int) < i := by omega
      refine ⟨[.val (fr n d), .val (.int n), .val (.int d), .val (.lst (is.map .int)), .val (.int i)], by simp [List.findIdx?_cons, eqG, neG, eqP, toPy, toPys, SeqAt.shaped, PyData.canLay0, PyData.canLayAll0, PyData.depth, PyData.depthAll, PyData.eqv, PyData.eqvAll, fnD, starD, valsOf, seqS, skipS, exps, M.bind, M.ret, M.fail, M.lift, toO, nameO, frzAt, op2, app2, app1, res, ownOf, callD, appN, resN, consO, consD, one, two, setV, setOw, giveUp, parS, augS, asB, truB, truG, andB, orB, notB, andD, orD, notD, ifD, chain3, tupD, lstD, ixG, strOf, seqOf, lisOf, tupOf, atI, ixN, negG, intG, subG, cmpG, addG, isiG, tyName, lenG, absG, intF, max2G, min2G, callS, callR, callM, argS, slotsOf, putB, toR, sVal, sOwn, inTo, setKind, isS, putC, ownM, ownT, appendG, storeS, setLG, gV, gT, gC, gN, walkL, walkT, walkR1, walkR2, loopF, backA, listG, isBG, joinD, sliceD, rangeL, allG, blsOf, partI, sizeLine, kb_int_int, kb_int_bool, kb_int_tuple, kb_int_str, kb_bool_int, kb_bool_bool, kb_bool_tuple, kb_bool_str, kb_NoneType_int, kb_NoneType_bool, kb_NoneType_tuple, kb_NoneType_str, kb_str_int, kb_str_bool, kb_str_tuple, kb_str_str, kb_tuple_int, kb_tuple_bool, kb_tuple_tuple, kb_tuple_str, kb_list_int, kb_list_bool, kb_list_tuple, kb_list_str, kb_dict_int, kb_dict_bool, kb_dict_tuple, kb_dict_str, s1__law_is_lowest, wipeE], [.val (fr n d), .val (.int n), .val (.int d), .val (.lst (is.map .int)), .val (.int i)], ?_, fun _ => ⟨[.val (fr n d), .val (.int n), .val (.int d), .val (.lst (is.map .int)), .val (.int i)], by simp [List.findIdx?_cons, eqG, neG, eqP, toPy, toPys, SeqAt.shaped, PyData.canLay0, PyData.canLayAll0, PyData.depth, PyData.depthAll, PyData.eqv, PyData.eqvAll, fnD, starD, valsOf, seqS, skipS, exps, M.bind, M.ret, M.fail, M.lift, toO, nameO, frzAt, op2, app2, app1, res, ownOf, callD, appN, resN, consO, consD, one, two, setV, setOw, giveUp, parS, augS, asB, truB, truG, andB, orB, notB, andD, orD, notD, ifD, chain3, tupD, lstD, ixG, strOf, seqOf, lisOf, tupOf, atI, ixN, negG, intG, subG, cmpG, addG, isiG, tyName, lenG, absG, intF, max2G, min2G, callS, callR, callM, argS, slotsOf, putB, toR, sVal, sOwn, inTo, setKind, isS, putC, ownM, ownT, appendG, storeS, setLG, gV, gT, gC, gN, walkL, walkT, walkR1, walkR2, loopF, backA, listG, isBG, joinD, sliceD, rangeL, allG, blsOf, partI, sizeLine, kb_int_int, kb_int_bool, kb_int_tuple, kb_int_str, kb_bool_int, kb_bool_bool, kb_bool_tuple, kb_bool_str, kb_NoneType_int, kb_NoneType_bool, kb_NoneType_tuple, kb_NoneType_str, kb_str_int, kb_str_bool, kb_str_tuple, kb_str_str, kb_tuple_int, kb_tuple_bool, kb_tuple_tuple, kb_tuple_str, kb_list_int, kb_list_bool, kb_list_tuple, kb_list_str, kb_dict_int, kb_dict_bool, kb_dict_tuple, kb_dict_str, e3__law_is_lowest], by simp [wipeE]⟩, fun _ => by simp [wipeE]⟩
      have q1 := mod_pos (i := n) p1
      have q2 := mod_pos (i := d) p1
      by_cases c1 : n % i = 0
      · by_cases c2 : d % i = 0
        · simp [List.findIdx?_cons, eqG, neG, eqP, toPy, toPys, SeqAt.shaped, PyData.canLay0, PyData.canLayAll0, PyData.depth, PyData.depthAll, PyData.eqv, PyData.eqvAll, fnD, starD, valsOf, seqS, skipS, exps, M.bind, M.ret, M.fail, M.lift, toO, nameO, frzAt, op2, app2, app1, res, ownOf, callD, appN, resN, consO, consD, one, two, setV, setOw, giveUp, parS, augS, asB, truB, truG, andB, orB, notB, andD, orD, notD, ifD, chain3, tupD, lstD, ixG, strOf, seqOf, lisOf, tupOf, atI, ixN, negG, intG, subG, cmpG, addG, isiG, tyName, lenG, absG, intF, max2G, min2G, callS, callR, callM, argS, slotsOf, putB, toR, sVal, sOwn, inTo, setKind, isS, putC, ownM, ownT, appendG, storeS, setLG, gV, gT, gC, gN, walkL, walkT, walkR1, walkR2, loopF, backA, listG, isBG, joinD, sliceD, rangeL, allG, blsOf, partI, sizeLine, kb_int_int, kb_int_bool, kb_int_tuple, kb_int_str, kb_bool_int, kb_bool_bool, kb_bool_tuple, kb_bool_str, kb_NoneType_int, kb_NoneType_bool, kb_NoneType_tuple, kb_NoneType_str, kb_str_int, kb_str_bool, kb_str_tuple, kb_str_str, kb_tuple_int, kb_tuple_bool, kb_tuple_tuple, kb_tuple_str, kb_list_int, kb_list_bool, kb_list_tuple, kb_list_str, kb_dict_int, kb_dict_bool, kb_dict_tuple, kb_dict_str, t2__law_is_lowest, q1, q2, hp, c1, c2]
        · simp [List.findIdx?_cons, eqG, neG, eqP, toPy, toPys, SeqAt.shaped, PyData.canLay0, PyData.canLayAll0, PyData.depth, PyData.depthAll, PyData.eqv, PyData.eqvAll, fnD, starD, valsOf, seqS, skipS, exps, M.bind, M.ret, M.fail, M.lift, toO, nameO, frzAt, op2, app2, app1, res, ownOf, callD, appN, resN, consO, consD, one, two, setV, setOw, giveUp, parS, augS, asB, truB, truG, andB, orB, notB, andD, orD, notD, ifD, chain3, tupD, lstD, ixG, strOf, seqOf, lisOf, tupOf, atI, ixN, negG, intG, subG, cmpG, addG, isiG, tyName, lenG, absG, intF, max2G, min2G, callS, callR, callM, argS, slotsOf, putB, toR, sVal, sOwn, inTo, setKind, isS, putC, ownM, ownT, appendG, storeS, setLG, gV, gT, gC, gN, walkL, walkT, walkR1, walkR2, loopF, backA, listG, isBG, joinD, sliceD, rangeL, allG, blsOf, partI, sizeLine, kb_int_int, kb_int_bool, kb_int_tuple, kb_int_str, kb_bool_int, kb_bool_bool, kb_bool_tuple, kb_bool_str, kb_NoneType_int, kb_NoneType_bool, kb_NoneType_tuple, kb_NoneType_str, kb_str_int, kb_str_bool, kb_str_tuple, kb_str_str, kb_tuple_int, kb_tuple_bool, kb_tuple_tuple, kb_tuple_str, kb_list_int, kb_list_bool, kb_list_tuple, kb_list_str, kb_dict_int, kb_dict_bool, kb_dict_tuple, kb_dict_str, t2__law_is_lowest, q1, q2, hp, c1, c2]
      · simp [List.findIdx?_cons, eqG, neG, eqP, toPy, toPys, SeqAt.shaped, PyData.canLay0, PyData.canLayAll0, PyData.depth, PyData.depthAll, PyData.eqv, PyData.eqvAll, fnD, starD, valsOf, seqS, skipS, exps, M.bind, M.ret, M.fail, M.lift, toO, nameO, frzAt, op2, app2, app1, res, ownOf, callD, appN, resN, consO, consD, one, two, setV, setOw, giveUp, parS, augS, asB, truB, truG, andB, orB, notB, andD, orD, notD, ifD, chain3, tupD, lstD, ixG, strOf, seqOf, lisOf, tupOf, atI, ixN, negG, intG, subG, cmpG, addG, isiG, tyName, lenG, absG, intF, max2G, min2G, callS, callR, callM, argS, slotsOf, putB, toR, sVal, sOwn, inTo, setKind, isS, putC, ownM, ownT, appendG, storeS, setLG, gV, gT, gC, gN, walkL, walkT, walkR1, walkR2, loopF, backA, listG, isBG, joinD, sliceD, rangeL, allG, blsOf, partI, sizeLine, kb_int_int, kb_int_bool, kb_int_tuple, kb_int_str, kb_bool_int, kb_bool_bool, kb_bool_tuple, kb_bool_str, kb_NoneType_int, kb_NoneType_bool, kb_NoneType_tuple, kb_NoneType_str, kb_str_int, kb_str_bool, kb_str_tuple, kb_str_str, kb_tuple_int, kb_tuple_bool, kb_tuple_tuple, kb_tuple_str, kb_list_int, kb_list_bool, kb_list_tuple, kb_list_str, kb_dict_int, kb_dict_bool, kb_dict_tuple, kb_dict_str, t2__law_is_lowest, q1, q2, hp, c1]
    unfold l4__law_is_lowest
    rw [this, List.filter_map, List.map_map]
    rfl
  have he : (is.filter p).isEmpty = decide (Int.gcd n d = 1) := by
    rw [Bool.eq_iff_iff, List.isEmpty_iff, List.filter_eq_nil_iff, decide_eq_true_iff, ← gcd_all h0]
    constructor
    · intro h i a b c
      refine h i ?_ (by rw [hp]; simp [c.1, c.2])
      rw [his]
      refine List.mem_map.mpr ⟨(i - 2).toNat, List.mem_range.mpr (by rw [← hA] at b; omega), by omega⟩
    · intro h i m c
      have := hmem i m
      rw [hp] at c
      simp only [Bool.and_eq_true, decide_eq_true_eq] at c
      exact h i this.1 (by rw [← hA]; exact this.2) c
  have hq := eq_nil (is := is.filter p)
  rw [he] at hq
  have ha : absG (.int n) = some (.int A) := by rw [hA]; rfl
  obtain ⟨J, hJ⟩ : ∃ J, J = A + d + 1 := ⟨_, rfl⟩
  rw [← hJ] at hr
  have hj1 : J ≤ 3000 := by omega
  have hj0 : 0 ≤ J := by omega
  unfold m__law_is_lowest
  refine fnD_ret (ρ := [.val (fr n d), .val (.int n), .val (.int d), .val (.lst (is.map .int)), .no]) rfl ?_ rfl
  generalize (is.filter p).map D.int = T2 at *
  generalize is.map D.int = T at *
  unfold g__law_is_lowest
  rw [seqS_nx (ρ1 := [.val (fr n d), .val (.int n), .val (.int d), .no, .no]) (by simp [List.findIdx?_cons, PyData.canLay0, PyData.canLayAll0, PyData.depth, PyData.depthAll, PyData.eqv, PyData.eqvAll, fnD, starD, valsOf, seqS, skipS, exps, M.bind, M.ret, M.fail, M.lift, toO, nameO, frzAt, op2, app2, app1, res, ownOf, callD, appN, resN, consO, consD, one, two, setV, setOw, giveUp, parS, augS, asB, truB, truG, andB, orB, notB, andD, orD, notD, ifD, chain3, tupD, lstD, ixG, strOf, seqOf, lisOf, tupOf, atI, ixN, negG, intG, subG, cmpG, addG, isiG, tyName, lenG, intF, max2G, min2G, callS, callR, callM, argS, slotsOf, putB, toR, sVal, sOwn, inTo, setKind, isS, putC, ownM, ownT, appendG, storeS, setLG, gV, gT, gC, gN, walkL, walkT, walkR1, walkR2, loopF, backA, listG, isBG, joinD, sliceD, allG, blsOf, partI, sizeLine, kb_int_int, kb_int_bool, kb_int_tuple, kb_int_str, kb_bool_int, kb_bool_bool, kb_bool_tuple, kb_bool_str, kb_NoneType_int, kb_NoneType_bool, kb_NoneType_tuple, kb_NoneType_str, kb_str_int, kb_str_bool, kb_str_tuple, kb_str_str, kb_tuple_int, kb_tuple_bool, kb_tuple_tuple, kb_tuple_str, kb_list_int, kb_list_bool, kb_list_tuple, kb_list_str, kb_dict_int, kb_dict_bool, kb_dict_tuple, kb_dict_str])]
  rw [seqS_nx (ρ1 := [.val (fr n d), .val (.int n), .val (.int d), .val (.lst T), .no]) (by
    rw [exps_ev (a := .lst T) (ρ1 := [.val (fr n d), .val (.int n), .val (.int d), .no, .no]) (by
      rw [← hr]
      exact rangeL_ev (ρ1 := [.val (fr n d), .val (.int n), .val (.int d), .no, .no]) rfl (by simp [List.findIdx?_cons, PyData.canLay0, PyData.canLayAll0, PyData.depth, PyData.depthAll, PyData.eqv, PyData.eqvAll, fnD, starD, valsOf, seqS, skipS, exps, M.bind, M.ret, M.fail, M.lift, toO, nameO, frzAt, op2, app2, app1, res, ownOf, callD, appN, resN, consO, consD, one, two, setV, setOw, giveUp, parS, augS, asB, truB, truG, andB, orB, notB, andD, orD, notD, ifD, chain3, tupD, lstD, ixG, strOf, seqOf, lisOf, tupOf, atI, ixN, negG, intG, subG, cmpG, addG, isiG, tyName, lenG, intF, max2G, min2G, callS, callR, callM, argS, slotsOf, putB, toR, sVal, sOwn, inTo, setKind, isS, putC, ownM, ownT, appendG, storeS, setLG, gV, gT, gC, gN, walkL, walkT, walkR1, walkR2, loopF, backA, listG, isBG, joinD, sliceD, allG, blsOf, partI, sizeLine, kb_int_int, kb_int_bool, kb_int_tuple, kb_int_str, kb_bool_int, kb_bool_bool, kb_bool_tuple, kb_bool_str, kb_NoneType_int, kb_NoneType_bool, kb_NoneType_tuple, kb_NoneType_str, kb_str_int, kb_str_bool, kb_str_tuple, kb_str_str, kb_tuple_int, kb_tuple_bool, kb_tuple_tuple, kb_tuple_str, kb_list_int, kb_list_bool, kb_list_tuple, kb_list_str, kb_dict_int, kb_dict_bool, kb_dict_tuple, kb_dict_str, ha, hJ.symm]) (by decide) (by decide) (by omega) (by omega) (by omega))]
    simp [List.findIdx?_cons, PyData.canLay0, PyData.canLayAll0, PyData.depth, PyData.depthAll, PyData.eqv, PyData.eqvAll, fnD, starD, valsOf, seqS, skipS, exps, M.bind, M.ret, M.fail, M.lift, toO, nameO, frzAt, op2, app2, app1, res, ownOf, callD, appN, resN, consO, consD, one, two, setV, setOw, giveUp, parS, augS, asB, truB, truG, andB, orB, notB, andD, orD, notD, ifD, chain3, tupD, lstD, ixG, strOf, seqOf, lisOf, tupOf, atI, ixN, negG, intG, subG, cmpG, addG, isiG, tyName, lenG, intF, max2G, min2G, callS, callR, callM, argS, slotsOf, putB, toR, sVal, sOwn, inTo, setKind, isS, putC, ownM, ownT, appendG, storeS, setLG, gV, gT, gC, gN, walkL, walkT, walkR1, walkR2, loopF, backA, listG, isBG, joinD, sliceD, allG, blsOf, partI, sizeLine, kb_int_int, kb_int_bool, kb_int_tuple, kb_int_str, kb_bool_int, kb_bool_bool, kb_bool_tuple, kb_bool_str, kb_NoneType_int, kb_NoneType_bool, kb_NoneType_tuple, kb_NoneType_str, kb_str_int, kb_str_bool, kb_str_tuple, kb_str_str, kb_tuple_int, kb_tuple_bool, kb_tuple_tuple, kb_tuple_str, kb_list_int, kb_list_bool, kb_list_tuple, kb_list_str, kb_dict_int, kb_dict_bool, kb_dict_tuple, kb_dict_str])]
  simp [List.findIdx?_cons, PyData.canLay0, PyData.canLayAll0, PyData.depth, PyData.depthAll, PyData.eqv, PyData.eqvAll, fnD, starD, valsOf, seqS, skipS, exps, M.bind, M.ret, M.fail, M.lift, toO, nameO, frzAt, op2, app2, app1, res, ownOf, callD, appN, resN, consO, consD, one, two, setV, setOw, giveUp, parS, augS, asB, truB, truG, andB, orB, notB, andD, orD, notD, ifD, chain3, tupD, lstD, ixG, strOf, seqOf, lisOf, tupOf, atI, ixN, negG, intG, subG, cmpG, addG, isiG, tyName, lenG, intF, max2G, min2G, callS, callR, callM, argS, slotsOf, putB, toR, sVal, sOwn, inTo, setKind, isS, putC, ownM, ownT, appendG, storeS, setLG, gV, gT, gC, gN, walkL, walkT, walkR1, walkR2, loopF, backA, listG, isBG, joinD, sliceD, allG, blsOf, partI, sizeLine, kb_int_int, kb_int_bool, kb_int_tuple, kb_int_str, kb_bool_int, kb_bool_bool, kb_bool_tuple, kb_bool_str, kb_NoneType_int, kb_NoneType_bool, kb_NoneType_tuple, kb_NoneType_str, kb_str_int, kb_str_bool, kb_str_tuple, kb_str_str, kb_tuple_int, kb_tuple_bool, kb_tuple_tuple, kb_tuple_str, kb_list_int, kb_list_bool, kb_list_tuple, kb_list_str, kb_dict_int, kb_dict_bool, kb_dict_tuple, kb_dict_str, hc, hq, h0]
/-! one turn over fractions -/
structure Fr (p : Int × Int) : Prop where
  n0 : -40 ≤ p.1
  n1 : p.1 ≤ 40
  d0 : 1 ≤ p.2
  d1 : p.2 ≤ 40
abbrev low (p : Int × Int) : Int × Int := (p.1 / Int.gcd p.1 p.2, p.2 / Int.gcd p.1 p.2)
theorem low_lw {n d : Int} (hd : 0 < d) : Lw (fr (n / Int.gcd n d) (d / Int.gcd n d)) := by
  have g0 := gpos (n := n) hd
  refine ⟨_, _, rfl, ?_, ?_⟩
  · exact Int.ediv_pos_of_pos_of_dvd hd (by omega) (Int.gcd_dvd_right ..)
  · exact Int.gcd_ediv_gcd_ediv_gcd (by omega)
theorem low_fr {p : Int × Int} (h : Fr p) : Fr (low p) := by
  have g0 := gpos (n := p.1) (d := p.2) (by have := h.d0; omega)
  generalize hg : (Int.gcd p.1 p.2 : Int) = g at *
  have h1 := h.n0
  have h2 := h.n1
  have h3 := h.d0
  have h4 := h.d1
  have k : g ∣ p.2 := by rw [← hg]; exact Int.gcd_dvd_right ..
  have := Int.ediv_pos_of_pos_of_dvd (by omega) (by omega) k
  have e : low p = (p.1 / g, p.2 / g) := by unfold low; rw [hg]
  rw [e]
  refine ⟨?_, ?_, by show 1 ≤ p.2 / g; omega, ?_⟩
  · show -40 ≤ p.1 / g
    exact (Int.le_ediv_iff_mul_le g0).mpr (by
      have : (-40 : Int) * g ≤ -40 := by omega
      omega)
  · show p.1 / g ≤ 40
    exact Int.ediv_le_of_le_mul g0 (by omega)
  · show p.2 / g ≤ 40
    exact Int.le_trans (Int.ediv_le_self _ (by omega)) h4
end K01
end Pd

namespace Pd
open PySem PySem.Spec L2
namespace K01
theorem Fr.sm {p : Int × Int} (h : Fr p) : SmP p := by
  have h1 := h.n0
  have h2 := h.n1
  have h3 := h.d0
  have h4 := h.d1
  exact ⟨by unfold Sm; omega, by unfold Sm; omega⟩
theorem Fr.lw {p : Int × Int} (h : Fr p) : Lw (fp (low p)) := low_lw (by have := h.d0; omega)
theorem b9_ev {p q : Int × Int} (hp : SmP p) (hq : SmP q) (lp : Lw (fp p)) (lq : Lw (fp q)) {s0 s1 s2 s5 s6 s7 s8 s9 s10 : Sl} :
    b9__law_right [s0, s1, s2, .val (fp p), .val (fp q), s5, s6, s7, s8, s9, s10] = some (.nx, [s0, s1, s2, .val (fp p), .val (fp q), s5, s6, s7, s8, s9, s10]) := by
  have h1 := lower_ev hp.1 hp.2 hq.1 hq.2 lp lq
  have h2 := lower_ev hq.1 hq.2 hp.1 hp.2 lq lp
  have h3 := lless_ev hp.1 hp.2 hq.1 hq.2
  by_cases c : p.1 * q.2 < q.1 * p.2
  · have c2 : ¬ q.1 * p.2 < p.1 * q.2 := by omega
    simp only [c, c2, decide_true, decide_false] at h1 h2 h3
    simp [List.findIdx?_cons, eqG, neG, eqP, toPy, toPys, SeqAt.shaped, PyData.canLay0, PyData.canLayAll0, PyData.depth, PyData.depthAll, PyData.eqv, PyData.eqvAll, fnD, starD, valsOf, seqS, skipS, exps, M.bind, M.ret, M.fail, M.lift, toO, nameO, frzAt, op2, app2, app1, res, ownOf, callD, appN, resN, consO, consD, one, two, setV, setOw, giveUp, parS, augS, asB, truB, truG, andB, orB, notB, andD, orD, notD, ifD, chain3, tupD, lstD, ixG, strOf, seqOf, lisOf, tupOf, atI, ixN, negG, intG, subG, cmpG, addG, isiG, tyName, lenG, absG, intF, max2G, min2G, callS, callR, callM, argS, slotsOf, putB, toR, sVal, sOwn, inTo, setKind, isS, putC, ownM, ownT, appendG, storeS, setLG, gV, gT, gC, gN, walkL, walkT, walkR1, walkR2, loopF, backA, listG, isBG, joinD, sliceD, rangeL, allG, blsOf, partI, sizeLine, kb_int_int, kb_int_bool, kb_int_tuple, kb_int_str, kb_bool_int, kb_bool_bool, kb_bool_tuple, kb_bool_str, kb_NoneType_int, kb_NoneType_bool, kb_NoneType_tuple, kb_NoneType_str, kb_str_int, kb_str_bool, kb_str_tuple, kb_str_str, kb_tuple_int, kb_tuple_bool, kb_tuple_tuple, kb_tuple_str, kb_list_int, kb_list_bool, kb_list_tuple, kb_list_str, kb_dict_int, kb_dict_bool, kb_dict_tuple, kb_dict_str, b9__law_right, h1, h2, h3]
  · simp only [c, decide_false] at h1 h3
    simp [List.findIdx?_cons, eqG, neG, eqP, toPy, toPys, SeqAt.shaped, PyData.canLay0, PyData.canLayAll0, PyData.depth, PyData.depthAll, PyData.eqv, PyData.eqvAll, fnD, starD, valsOf, seqS, skipS, exps, M.bind, M.ret, M.fail, M.lift, toO, nameO, frzAt, op2, app2, app1, res, ownOf, callD, appN, resN, consO, consD, one, two, setV, setOw, giveUp, parS, augS, asB, truB, truG, andB, orB, notB, andD, orD, notD, ifD, chain3, tupD, lstD, ixG, strOf, seqOf, lisOf, tupOf, atI, ixN, negG, intG, subG, cmpG, addG, isiG, tyName, lenG, absG, intF, max2G, min2G, callS, callR, callM, argS, slotsOf, putB, toR, sVal, sOwn, inTo, setKind, isS, putC, ownM, ownT, appendG, storeS, setLG, gV, gT, gC, gN, walkL, walkT, walkR1, walkR2, loopF, backA, listG, isBG, joinD, sliceD, rangeL, allG, blsOf, partI, sizeLine, kb_int_int, kb_int_bool, kb_int_tuple, kb_int_str, kb_bool_int, kb_bool_bool, kb_bool_tuple, kb_bool_str, kb_NoneType_int, kb_NoneType_bool, kb_NoneType_tuple, kb_NoneType_str, kb_str_int, kb_str_bool, kb_str_tuple, kb_str_str, kb_tuple_int, kb_tuple_bool, kb_tuple_tuple, kb_tuple_str, kb_list_int, kb_list_bool, kb_list_tuple, kb_list_str, kb_dict_int, kb_dict_bool, kb_dict_tuple, kb_dict_str, b9__law_right, h1, h3]
theorem pairs_ev {d : D} (h : Dc 40 d) : ∃ (p0 p1 p2 : Int × Int) (d' : D), Fr p0 ∧ Fr p1 ∧ Fr p2 ∧ Dc 31 d' ∧ l22__law_right [.par d, .no, .no, .no, .no, .no, .no, .no, .no, .no, .no] = some (.ok (.lst [fp p0, fp p1, fp p2]), [.par d', .no, .no, .no, .no, .no, .no, .no, .no, .no, .no]) := by
  obtain ⟨xs, ρ', e1, e2, d', s, rfl, hd⟩ := compF_rel (gs := s20__law_right) (ft := M.ret true) (fe := e21__law_right) (vs := [10]) (fun n ρ => ∃ d' s, ρ = [.par d', .no, .no, .no, .no, .no, .no, .no, .no, .no, s] ∧ Dc (3 * n + 31) d') (fun _ xs => ∃ p, xs = [fp p] ∧ Fr p) [.int 0, .int 1, .int 2] [] [.par d, .no, .no, .no, .no, .no, .no, .no, .no, .no, .no] ⟨d, .no, rfl, h⟩ (by decide) (by
    rintro x _ n ρ ⟨d1, s, rfl, hd⟩
    obtain ⟨u, v, d2, u0, u1, v0, v1, hd2, e⟩ := drawn_ev (n := 3 * n + 31) (Dc.le hd (by omega))
    refine ⟨[.par d1, .no, .no, .no, .no, .no, .no, .no, .no, .no, .val x], by simp [List.findIdx?_cons, eqG, neG, eqP, toPy, toPys, SeqAt.shaped, PyData.canLay0, PyData.canLayAll0, PyData.depth, PyData.depthAll, PyData.eqv, PyData.eqvAll, fnD, starD, valsOf, seqS, skipS, exps, M.bind, M.ret, M.fail, M.lift, toO, nameO, frzAt, op2, app2, app1, res, ownOf, callD, appN, resN, consO, consD, one, two, setV, setOw, giveUp, parS, augS, asB, truB, truG, andB, orB, notB, andD, orD, notD, ifD, chain3, tupD, lstD, ixG, strOf, seqOf, lisOf, tupOf, atI, ixN, negG, intG, subG, cmpG, addG, isiG, tyName, lenG, absG, intF, max2G, min2G, callS, callR, callM, argS, slotsOf, putB, toR, sVal, sOwn, inTo, setKind, isS, putC, ownM, ownT, appendG, storeS, setLG, gV, gT, gC, gN, walkL, walkT, walkR1, walkR2, loopF, backA, listG, isBG, joinD, sliceD, rangeL, allG, blsOf, partI, sizeLine, kb_int_int, kb_int_bool, kb_int_tuple, kb_int_str, kb_bool_int, kb_bool_bool, kb_bool_tuple, kb_bool_str, kb_NoneType_int, kb_NoneType_bool, kb_NoneType_tuple, kb_NoneType_str, kb_str_int, kb_str_bool, kb_str_tuple, kb_str_str, kb_tuple_int, kb_tuple_bool, kb_tuple_tuple, kb_tuple_str, kb_list_int, kb_list_bool, kb_list_tuple, kb_list_str, kb_dict_int, kb_dict_bool, kb_dict_tuple, kb_dict_str, s20__law_right, wipeE], .inl ⟨_, fr u v, [.par d2, .no, .no, .no, .no, .no, .no, .no, .no, .no, .val x], rfl, ?_, ⟨(u, v), rfl, ⟨u0, u1, v0, v1⟩⟩, d2, _, rfl, hd2⟩⟩
    simp [List.findIdx?_cons, eqG, neG, eqP, toPy, toPys, SeqAt.shaped, PyData.canLay0, PyData.canLayAll0, PyData.depth, PyData.depthAll, PyData.eqv, PyData.eqvAll, fnD, starD, valsOf, seqS, skipS, exps, M.bind, M.ret, M.fail, M.lift, toO, nameO, frzAt, op2, app2, app1, res, ownOf, callD, appN, resN, consO, consD, one, two, setV, setOw, giveUp, parS, augS, asB, truB, truG, andB, orB, notB, andD, orD, notD, ifD, chain3, tupD, lstD, ixG, strOf, seqOf, lisOf, tupOf, atI, ixN, negG, intG, subG, cmpG, addG, isiG, tyName, lenG, absG, intF, max2G, min2G, callS, callR, callM, argS, slotsOf, putB, toR, sVal, sOwn, inTo, setKind, isS, putC, ownM, ownT, appendG, storeS, setLG, gV, gT, gC, gN, walkL, walkT, walkR1, walkR2, loopF, backA, listG, isBG, joinD, sliceD, rangeL, allG, blsOf, partI, sizeLine, kb_int_int, kb_int_bool, kb_int_tuple, kb_int_str, kb_bool_int, kb_bool_bool, kb_bool_tuple, kb_bool_str, kb_NoneType_int, kb_NoneType_bool, kb_NoneType_tuple, kb_NoneType_str, kb_str_int, kb_str_bool, kb_str_tuple, kb_str_str, kb_tuple_int, kb_tuple_bool, kb_tuple_tuple, kb_tuple_str, kb_list_int, kb_list_bool, kb_list_tuple, kb_list_str, kb_dict_int, kb_dict_bool, kb_dict_tuple, kb_dict_str, e21__law_right, e])
  cases e2 with
  | cons h0 e2 => cases e2 with
    | cons h1 e2 => cases e2 with
      | cons h2 e2 =>
        cases e2
        obtain ⟨p0, rfl, f0⟩ := h0
        obtain ⟨p1, rfl, f1⟩ := h1
        obtain ⟨p2, rfl, f2⟩ := h2
        refine ⟨p0, p1, p2, d', f0, f1, f2, hd, ?_⟩
        unfold l22__law_right
        rw [compD_ev (ρ1 := [.par d, .no, .no, .no, .no, .no, .no, .no, .no, .no, .no]) (ds := [.int 0, .int 1, .int 2]) rfl rfl e1]
        rfl
/-- fraction of each pair, lowest of each pair -/
def lowD : D → D
  | .tup [.int n, .int d] => fr (n / Int.gcd n d) (d / Int.gcd n d)
  | _ => .non
theorem rows_ev {p0 p1 p2 : Int × Int} (f0 : Fr p0) (f1 : Fr p1) (f2 : Fr p2) {s0 s2 : Sl} : l19__law_right [s0, .val (.lst [fp p0, fp p1, fp p2]), s2, .no, .no, .no, .no, .no, .no, .no, .no] = some (.ok (.lst [fp (low p0), fp (low p1), fp (low p2)]), [s0, .val (.lst [fp p0, fp p1, fp p2]), s2, .no, .no, .no, .no, .no, .no, .no, .no]) := by
  have := compD_pure (fi := walkL (frzAt 1)) (gs := s17__law_right) (ft := M.ret true) (fe := e18__law_right) (vs := [3, 4]) (ρ := [s0, .val (.lst [fp p0, fp p1, fp p2]), s2, .no, .no, .no, .no, .no, .no, .no, .no]) (ρ1 := [s0, .val (.lst [fp p0, fp p1, fp p2]), s2, .no, .no, .no, .no, .no, .no, .no, .no])
    (ds := [fp p0, fp p1, fp p2]) (fun _ => true) lowD (by simp [List.findIdx?_cons, eqG, neG, eqP, toPy, toPys, SeqAt.shaped, PyData.canLay0, PyData.canLayAll0, PyData.depth, PyData.depthAll, PyData.eqv, PyData.eqvAll, fnD, starD, valsOf, seqS, skipS, exps, M.bind, M.ret, M.fail, M.lift, toO, nameO, frzAt, op2, app2, app1, res, ownOf, callD, appN, resN, consO, consD, one, two, setV, setOw, giveUp, parS, augS, asB, truB, truG, andB, orB, notB, andD, orD, notD, ifD, chain3, tupD, lstD, ixG, strOf, seqOf, lisOf, tupOf, atI, ixN, negG, intG, subG, cmpG, addG, isiG, tyName, lenG, absG, intF, max2G, min2G, callS, callR, callM, argS, slotsOf, putB, toR, sVal, sOwn, inTo, setKind, isS, putC, ownM, ownT, appendG, storeS, setLG, gV, gT, gC, gN, walkL, walkT, walkR1, walkR2, loopF, backA, listG, isBG, joinD, sliceD, rangeL, allG, blsOf, partI, sizeLine, kb_int_int, kb_int_bool, kb_int_tuple, kb_int_str, kb_bool_int, kb_bool_bool, kb_bool_tuple, kb_bool_str, kb_NoneType_int, kb_NoneType_bool, kb_NoneType_tuple, kb_NoneType_str, kb_str_int, kb_str_bool, kb_str_tuple, kb_str_str, kb_tuple_int, kb_tuple_bool, kb_tuple_tuple, kb_tuple_str, kb_list_int, kb_list_bool, kb_list_tuple, kb_list_str, kb_dict_int, kb_dict_bool, kb_dict_tuple, kb_dict_str]) rfl (show 3 ≤ sizeLine by decide) fun x m => by
      obtain ⟨p, rfl, f⟩ : ∃ p, x = fp p ∧ Fr p := by
        simp only [List.mem_cons, List.not_mem_nil, or_false] at m
        rcases m with rfl | rfl | rfl
        · exact ⟨_, rfl, f0⟩
        · exact ⟨_, rfl, f1⟩
        · exact ⟨_, rfl, f2⟩
      have e := fraction_ev (n := p.1) (d := p.2) (by have := f.d0; omega) (by have := f.d1; omega)
      refine ⟨[s0, .val (.lst [fp p0, fp p1, fp p2]), s2, .val (.int p.1), .val (.int p.2), .no, .no, .no, .no, .no, .no], by simp [List.findIdx?_cons, eqG, neG, eqP, toPy, toPys, SeqAt.shaped, PyData.canLay0, PyData.canLayAll0, PyData.depth, PyData.depthAll, PyData.eqv, PyData.eqvAll, fnD, starD, valsOf, seqS, skipS, exps, M.bind, M.ret, M.fail, M.lift, toO, nameO, frzAt, op2, app2, app1, res, ownOf, callD, appN, resN, consO, consD, one, two, setV, setOw, giveUp, parS, augS, asB, truB, truG, andB, orB, notB, andD, orD, notD, ifD, chain3, tupD, lstD, ixG, strOf, seqOf, lisOf, tupOf, atI, ixN, negG, intG, subG, cmpG, addG, isiG, tyName, lenG, absG, intF, max2G, min2G, callS, callR, callM, argS, slotsOf, putB, toR, sVal, sOwn, inTo, setKind, isS, putC, ownM, ownT, appendG, storeS, setLG, gV, gT, gC, gN, walkL, walkT, walkR1, walkR2, loopF, backA, listG, isBG, joinD, sliceD, rangeL, allG, blsOf, partI, sizeLine, kb_int_int, kb_int_bool, kb_int_tuple, kb_int_str, kb_bool_int, kb_bool_bool, kb_bool_tuple, kb_bool_str, kb_NoneType_int, kb_NoneType_bool, kb_NoneType_tuple, kb_NoneType_str, kb_str_int, kb_str_bool, kb_str_tuple, kb_str_str, kb_tuple_int, kb_tuple_bool, kb_tuple_tuple, kb_tuple_str, kb_list_int, kb_list_bool, kb_list_tuple, kb_list_str, kb_dict_int, kb_dict_bool, kb_dict_tuple, kb_dict_str, s17__law_right, wipeE], _, rfl, fun _ => ⟨[s0, .val (.lst [fp p0, fp p1, fp p2]), s2, .val (.int p.1), .val (.int p.2), .no, .no, .no, .no, .no, .no], ?_, by simp [List.findIdx?_cons, eqG, neG, eqP, toPy, toPys, SeqAt.shaped, PyData.canLay0, PyData.canLayAll0, PyData.depth, PyData.depthAll, PyData.eqv, PyData.eqvAll, fnD, starD, valsOf, seqS, skipS, exps, M.bind, M.ret, M.fail, M.lift, toO, nameO, frzAt, op2, app2, app1, res, ownOf, callD, appN, resN, consO, consD, one, two, setV, setOw, giveUp, parS, augS, asB, truB, truG, andB, orB, notB, andD, orD, notD, ifD, chain3, tupD, lstD, ixG, strOf, seqOf, lisOf, tupOf, atI, ixN, negG, intG, subG, cmpG, addG, isiG, tyName, lenG, absG, intF, max2G, min2G, callS, callR, callM, argS, slotsOf, putB, toR, sVal, sOwn, inTo, setKind, isS, putC, ownM, ownT, appendG, storeS, setLG, gV, gT, gC, gN, walkL, walkT, walkR1, walkR2, loopF, backA, listG, isBG, joinD, sliceD, rangeL, allG, blsOf, partI, sizeLine, kb_int_int, kb_int_bool, kb_int_tuple, kb_int_str, kb_bool_int, kb_bool_bool, kb_bool_tuple, kb_bool_str, kb_NoneType_int, kb_NoneType_bool, kb_NoneType_tuple, kb_NoneType_str, kb_str_int, kb_str_bool, kb_str_tuple, kb_str_str, kb_tuple_int, kb_tuple_bool, kb_tuple_tuple, kb_tuple_str, kb_list_int, kb_list_bool, kb_list_tuple, kb_list_str, kb_dict_int, kb_dict_bool, kb_dict_tuple, kb_dict_str, wipeE]⟩, fun c => by cases c⟩
      simp [List.findIdx?_cons, eqG, neG, eqP, toPy, toPys, SeqAt.shaped, PyData.canLay0, PyData.canLayAll0, PyData.depth, PyData.depthAll, PyData.eqv, PyData.eqvAll, fnD, starD, valsOf, seqS, skipS, exps, M.bind, M.ret, M.fail, M.lift, toO, nameO, frzAt, op2, app2, app1, res, ownOf, callD, appN, resN, consO, consD, one, two, setV, setOw, giveUp, parS, augS, asB, truB, truG, andB, orB, notB, andD, orD, notD, ifD, chain3, tupD, lstD, ixG, strOf, seqOf, lisOf, tupOf, atI, ixN, negG, intG, subG, cmpG, addG, isiG, tyName, lenG, absG, intF, max2G, min2G, callS, callR, callM, argS, slotsOf, putB, toR, sVal, sOwn, inTo, setKind, isS, putC, ownM, ownT, appendG, storeS, setLG, gV, gT, gC, gN, walkL, walkT, walkR1, walkR2, loopF, backA, listG, isBG, joinD, sliceD, rangeL, allG, blsOf, partI, sizeLine, kb_int_int, kb_int_bool, kb_int_tuple, kb_int_str, kb_bool_int, kb_bool_bool, kb_bool_tuple, kb_bool_str, kb_NoneType_int, kb_NoneType_bool, kb_NoneType_tuple, kb_NoneType_str, kb_str_int, kb_str_bool, kb_str_tuple, kb_str_str, kb_tuple_int, kb_tuple_bool, kb_tuple_tuple, kb_tuple_str, kb_list_int, kb_list_bool, kb_list_tuple, kb_list_str, kb_dict_int, kb_dict_bool, kb_dict_tuple, kb_dict_str, e18__law_right, e, lowD]
  unfold l19__law_right
  rw [this]
  rfl
theorem lows_ev {p0 p1 p2 : Int × Int} (f0 : Fr p0) (f1 : Fr p1) (f2 : Fr p2) {s0 s2 : Sl} : l16__law_right [s0, .val (.lst [fp p0, fp p1, fp p2]), s2, .no, .no, .no, .no, .no, .no, .no, .no] = some (.ok (.lst [fp (low p0), fp (low p1), fp (low p2)]), [s0, .val (.lst [fp p0, fp p1, fp p2]), s2, .no, .no, .no, .no, .no, .no, .no, .no]) := by
  have := compD_pure (fi := walkL (frzAt 1)) (gs := s14__law_right) (ft := M.ret true) (fe := e15__law_right) (vs := [3, 4]) (ρ := [s0, .val (.lst [fp p0, fp p1, fp p2]), s2, .no, .no, .no, .no, .no, .no, .no, .no]) (ρ1 := [s0, .val (.lst [fp p0, fp p1, fp p2]), s2, .no, .no, .no, .no, .no, .no, .no, .no])
    (ds := [fp p0, fp p1, fp p2]) (fun _ => true) lowD (by simp [List.findIdx?_cons, eqG, neG, eqP, toPy, toPys, SeqAt.shaped, PyData.canLay0, PyData.canLayAll0, PyData.depth, PyData.depthAll, PyData.eqv, PyData.eqvAll, fnD, starD, valsOf, seqS, skipS, exps, M.bind, M.ret, M.fail, M.lift, toO, nameO, frzAt, op2, app2, app1, res, ownOf, callD, appN, resN, consO, consD, one, two, setV, setOw, giveUp, parS, augS, asB, truB, truG, andB, orB, notB, andD, orD, notD, ifD, chain3, tupD, lstD, ixG, strOf, seqOf, lisOf, tupOf, atI, ixN, negG, intG, subG, cmpG, addG, isiG, tyName, lenG, absG, intF, max2G, min2G, callS, callR, callM, argS, slotsOf, putB, toR, sVal, sOwn, inTo, setKind, isS, putC, ownM, ownT, appendG, storeS, setLG, gV, gT, gC, gN, walkL, walkT, walkR1, walkR2, loopF, backA, listG, isBG, joinD, sliceD, rangeL, allG, blsOf, partI, sizeLine, kb_int_int, kb_int_bool, kb_int_tuple, kb_int_str, kb_bool_int, kb_bool_bool, kb_bool_tuple, kb_bool_str, kb_NoneType_int, kb_NoneType_bool, kb_NoneType_tuple, kb_NoneType_str, kb_str_int, kb_str_bool, kb_str_tuple, kb_str_str, kb_tuple_int, kb_tuple_bool, kb_tuple_tuple, kb_tuple_str, kb_list_int, kb_list_bool, kb_list_tuple, kb_list_str, kb_dict_int, kb_dict_bool, kb_dict_tuple, kb_dict_str]) rfl (show 3 ≤ sizeLine by decide) fun x m => by
      obtain ⟨p, rfl, f⟩ : ∃ p, x = fp p ∧ Fr p := by
        simp only [List.mem_cons, List.not_mem_nil, or_false] at m
        rcases m with rfl | rfl | rfl
        · exact ⟨_, rfl, f0⟩
        · exact ⟨_, rfl, f1⟩
        · exact ⟨_, rfl, f2⟩
      have e := lowest_ev (n := p.1) (d := p.2) (by have := f.d0; omega) (by have := f.d1; omega)
      refine ⟨[s0, .val (.lst [fp p0, fp p1, fp p2]), s2, .val (.int p.1), .val (.int p.2), .no, .no, .no, .no, .no, .no], by simp [List.findIdx?_cons, eqG, neG, eqP, toPy, toPys, SeqAt.shaped, PyData.canLay0, PyData.canLayAll0, PyData.depth, PyData.depthAll, PyData.eqv, PyData.eqvAll, fnD, starD, valsOf, seqS, skipS, exps, M.bind, M.ret, M.fail, M.lift, toO, nameO, frzAt, op2, app2, app1, res, ownOf, callD, appN, resN, consO, consD, one, two, setV, setOw, giveUp, parS, augS, asB, truB, truG, andB, orB, notB, andD, orD, notD, ifD, chain3, tupD, lstD, ixG, strOf, seqOf, lisOf, tupOf, atI, ixN, negG, intG, subG, cmpG, addG, isiG, tyName, lenG, absG, intF, max2G, min2G, callS, callR, callM, argS, slotsOf, putB, toR, sVal, sOwn, inTo, setKind, isS, putC, ownM, ownT, appendG, storeS, setLG, gV, gT, gC, gN, walkL, walkT, walkR1, walkR2, loopF, backA, listG, isBG, joinD, sliceD, rangeL, allG, blsOf, partI, sizeLine, kb_int_int, kb_int_bool, kb_int_tuple, kb_int_str, kb_bool_int, kb_bool_bool, kb_bool_tuple, kb_bool_str, kb_NoneType_int, kb_NoneType_bool, kb_NoneType_tuple, kb_NoneType_str, kb_str_int, kb_str_bool, kb_str_tuple, kb_str_str, kb_tuple_int, kb_tuple_bool, kb_tuple_tuple, kb_tuple_str, kb_list_int, kb_list_bool, kb_list_tuple, kb_list_str, kb_dict_int, kb_dict_bool, kb_dict_tuple, kb_dict_str, s14__law_right, wipeE], _, rfl, fun _ => ⟨[s0, .val (.lst [fp p0, fp p1, fp p2]), s2, .val (.int p.1), .val (.int p.2), .no, .no, .no, .no, .no, .no], ?_, by simp [List.findIdx?_cons, eqG, neG, eqP, toPy, toPys, SeqAt.shaped, PyData.canLay0, PyData.canLayAll0, PyData.depth, PyData.depthAll, PyData.eqv, PyData.eqvAll, fnD, starD, valsOf, seqS, skipS, exps, M.bind, M.ret, M.fail, M.lift, toO, nameO, frzAt, op2, app2, app1, res, ownOf, callD, appN, resN, consO, consD, one, two, setV, setOw, giveUp, parS, augS, asB, truB, truG, andB, orB, notB, andD, orD, notD, ifD, chain3, tupD, lstD, ixG, strOf, seqOf, lisOf, tupOf, atI, ixN, negG, intG, subG, cmpG, addG, isiG, tyName, lenG, absG, intF, max2G, min2G, callS, callR, callM, argS, slotsOf, putB, toR, sVal, sOwn, inTo, setKind, isS, putC, ownM, ownT, appendG, storeS, setLG, gV, gT, gC, gN, walkL, walkT, walkR1, walkR2, loopF, backA, listG, isBG, joinD, sliceD, rangeL, allG, blsOf, partI, sizeLine, kb_int_int, kb_int_bool, kb_int_tuple, kb_int_str, kb_bool_int, kb_bool_bool, kb_bool_tuple, kb_bool_str, kb_NoneType_int, kb_NoneType_bool, kb_NoneType_tuple, kb_NoneType_str, kb_str_int, kb_str_bool, kb_str_tuple, kb_str_str, kb_tuple_int, kb_tuple_bool, kb_tuple_tuple, kb_tuple_str, kb_list_int, kb_list_bool, kb_list_tuple, kb_list_str, kb_dict_int, kb_dict_bool, kb_dict_tuple, kb_dict_str, wipeE]⟩, fun c => by cases c⟩
      simp [List.findIdx?_cons, eqG, neG, eqP, toPy, toPys, SeqAt.shaped, PyData.canLay0, PyData.canLayAll0, PyData.depth, PyData.depthAll, PyData.eqv, PyData.eqvAll, fnD, starD, valsOf, seqS, skipS, exps, M.bind, M.ret, M.fail, M.lift, toO, nameO, frzAt, op2, app2, app1, res, ownOf, callD, appN, resN, consO, consD, one, two, setV, setOw, giveUp, parS, augS, asB, truB, truG, andB, orB, notB, andD, orD, notD, ifD, chain3, tupD, lstD, ixG, strOf, seqOf, lisOf, tupOf, atI, ixN, negG, intG, subG, cmpG, addG, isiG, tyName, lenG, absG, intF, max2G, min2G, callS, callR, callM, argS, slotsOf, putB, toR, sVal, sOwn, inTo, setKind, isS, putC, ownM, ownT, appendG, storeS, setLG, gV, gT, gC, gN, walkL, walkT, walkR1, walkR2, loopF, backA, listG, isBG, joinD, sliceD, rangeL, allG, blsOf, partI, sizeLine, kb_int_int, kb_int_bool, kb_int_tuple, kb_int_str, kb_bool_int, kb_bool_bool, kb_bool_tuple, kb_bool_str, kb_NoneType_int, kb_NoneType_bool, kb_NoneType_tuple, kb_NoneType_str, kb_str_int, kb_str_bool, kb_str_tuple, kb_str_str, kb_tuple_int, kb_tuple_bool, kb_tuple_tuple, kb_tuple_str, kb_list_int, kb_list_bool, kb_list_tuple, kb_list_str, kb_dict_int, kb_dict_bool, kb_dict_tuple, kb_dict_str, e15__law_right, e, lowD]
  unfold l16__law_right
  rw [this]
  rfl
/-- no row is not in lowest terms -/
theorem nolow_ev {r0 r1 r2 : Int × Int} (f0 : Fr r0) (f1 : Fr r1) (f2 : Fr r2) (w0 : Lw (fp r0)) (w1 : Lw (fp r1)) (w2 : Lw (fp r2)) {s0 s1 : Sl} : l13__law_right [s0, s1, .val (.lst [fp r0, fp r1, fp r2]), .no, .no, .no, .no, .no, .no, .no, .no] = some (.ok (.lst []), [s0, s1, .val (.lst [fp r0, fp r1, fp r2]), .no, .no, .no, .no, .no, .no, .no, .no]) := by
  have := compD_pure (fi := walkL (frzAt 2)) (gs := s10__law_right) (ft := t11__law_right) (fe := e12__law_right) (vs := [3]) (ρ := [s0, s1, .val (.lst [fp r0, fp r1, fp r2]), .no, .no, .no, .no, .no, .no, .no, .no]) (ρ1 := [s0, s1, .val (.lst [fp r0, fp r1, fp r2]), .no, .no, .no, .no, .no, .no, .no, .no])
    (ds := [fp r0, fp r1, fp r2]) (fun _ => false) (fun x => x) (by simp [List.findIdx?_cons, eqG, neG, eqP, toPy, toPys, SeqAt.shaped, PyData.canLay0, PyData.canLayAll0, PyData.depth, PyData.depthAll, PyData.eqv, PyData.eqvAll, fnD, starD, valsOf, seqS, skipS, exps, M.bind, M.ret, M.fail, M.lift, toO, nameO, frzAt, op2, app2, app1, res, ownOf, callD, appN, resN, consO, consD, one, two, setV, setOw, giveUp, parS, augS, asB, truB, truG, andB, orB, notB, andD, orD, notD, ifD, chain3, tupD, lstD, ixG, strOf, seqOf, lisOf, tupOf, atI, ixN, negG, intG, subG, cmpG, addG, isiG, tyName, lenG, absG, intF, max2G, min2G, callS, callR, callM, argS, slotsOf, putB, toR, sVal, sOwn, inTo, setKind, isS, putC, ownM, ownT, appendG, storeS, setLG, gV, gT, gC, gN, walkL, walkT, walkR1, walkR2, loopF, backA, listG, isBG, joinD, sliceD, rangeL, allG, blsOf, partI, sizeLine, kb_int_int, kb_int_bool, kb_int_tuple, kb_int_str, kb_bool_int, kb_bool_bool, kb_bool_tuple, kb_bool_str, kb_NoneType_int, kb_NoneType_bool, kb_NoneType_tuple, kb_NoneType_str, kb_str_int, kb_str_bool, kb_str_tuple, kb_str_str, kb_tuple_int, kb_tuple_bool, kb_tuple_tuple, kb_tuple_str, kb_list_int, kb_list_bool, kb_list_tuple, kb_list_str, kb_dict_int, kb_dict_bool, kb_dict_tuple, kb_dict_str]) rfl (show 3 ≤ sizeLine by decide) fun x m => by
      obtain ⟨p, rfl, f, w⟩ : ∃ p, x = fp p ∧ Fr p ∧ Lw (fp p) := by
        simp only [List.mem_cons, List.not_mem_nil, or_false] at m
        rcases m with rfl | rfl | rfl
        · exact ⟨_, rfl, f0, w0⟩
        · exact ⟨_, rfl, f1, w1⟩
        · exact ⟨_, rfl, f2, w2⟩
      have e := islow_ev (n := p.1) (d := p.2) (by have := f.d0; omega) (by have := f.d1; omega) (by have := f.n0; omega) (by have := f.n1; omega)
      obtain ⟨u, v, uv, _, g⟩ := w
      have uv : p.1 = u ∧ p.2 = v := by injection uv with h; injection h with h1 h2; injection h2 with h2; exact ⟨by injection h1, by injection h2⟩
      rw [← uv.1, ← uv.2] at g
      rw [show decide (Int.gcd p.1 p.2 = 1) = true by rw [g]; rfl] at e
      refine ⟨[s0, s1, .val (.lst [fp r0, fp r1, fp r2]), .val (fp p), .no, .no, .no, .no, .no, .no, .no], by simp [List.findIdx?_cons, eqG, neG, eqP, toPy, toPys, SeqAt.shaped, PyData.canLay0, PyData.canLayAll0, PyData.depth, PyData.depthAll, PyData.eqv, PyData.eqvAll, fnD, starD, valsOf, seqS, skipS, exps, M.bind, M.ret, M.fail, M.lift, toO, nameO, frzAt, op2, app2, app1, res, ownOf, callD, appN, resN, consO, consD, one, two, setV, setOw, giveUp, parS, augS, asB, truB, truG, andB, orB, notB, andD, orD, notD, ifD, chain3, tupD, lstD, ixG, strOf, seqOf, lisOf, tupOf, atI, ixN, negG, intG, subG, cmpG, addG, isiG, tyName, lenG, absG, intF, max2G, min2G, callS, callR, callM, argS, slotsOf, putB, toR, sVal, sOwn, inTo, setKind, isS, putC, ownM, ownT, appendG, storeS, setLG, gV, gT, gC, gN, walkL, walkT, walkR1, walkR2, loopF, backA, listG, isBG, joinD, sliceD, rangeL, allG, blsOf, partI, sizeLine, kb_int_int, kb_int_bool, kb_int_tuple, kb_int_str, kb_bool_int, kb_bool_bool, kb_bool_tuple, kb_bool_str, kb_NoneType_int, kb_NoneType_bool, kb_NoneType_tuple, kb_NoneType_str, kb_str_int, kb_str_bool, kb_str_tuple, kb_str_str, kb_tuple_int, kb_tuple_bool, kb_tuple_tuple, kb_tuple_str, kb_list_int, kb_list_bool, kb_list_tuple, kb_list_str, kb_dict_int, kb_dict_bool, kb_dict_tuple, kb_dict_str, s10__law_right, wipeE], [s0, s1, .val (.lst [fp r0, fp r1, fp r2]), .val (fp p), .no, .no, .no, .no, .no, .no, .no], by simp [List.findIdx?_cons, eqG, neG, eqP, toPy, toPys, SeqAt.shaped, PyData.canLay0, PyData.canLayAll0, PyData.depth, PyData.depthAll, PyData.eqv, PyData.eqvAll, fnD, starD, valsOf, seqS, skipS, exps, M.bind, M.ret, M.fail, M.lift, toO, nameO, frzAt, op2, app2, app1, res, ownOf, callD, appN, resN, consO, consD, one, two, setV, setOw, giveUp, parS, augS, asB, truB, truG, andB, orB, notB, andD, orD, notD, ifD, chain3, tupD, lstD, ixG, strOf, seqOf, lisOf, tupOf, atI, ixN, negG, intG, subG, cmpG, addG, isiG, tyName, lenG, absG, intF, max2G, min2G, callS, callR, callM, argS, slotsOf, putB, toR, sVal, sOwn, inTo, setKind, isS, putC, ownM, ownT, appendG, storeS, setLG, gV, gT, gC, gN, walkL, walkT, walkR1, walkR2, loopF, backA, listG, isBG, joinD, sliceD, rangeL, allG, blsOf, partI, sizeLine, kb_int_int, kb_int_bool, kb_int_tuple, kb_int_str, kb_bool_int, kb_bool_bool, kb_bool_tuple, kb_bool_str, kb_NoneType_int, kb_NoneType_bool, kb_NoneType_tuple, kb_NoneType_str, kb_str_int, kb_str_bool, kb_str_tuple, kb_str_str, kb_tuple_int, kb_tuple_bool, kb_tuple_tuple, kb_tuple_str, kb_list_int, kb_list_bool, kb_list_tuple, kb_list_str, kb_dict_int, kb_dict_bool, kb_dict_tuple, kb_dict_str, t11__law_right, e], (fun c => by cases c), fun _ => by simp [List.findIdx?_cons, eqG, neG, eqP, toPy, toPys, SeqAt.shaped, PyData.canLay0, PyData.canLayAll0, PyData.depth, PyData.depthAll, PyData.eqv, PyData.eqvAll, fnD, starD, valsOf, seqS, skipS, exps, M.bind, M.ret, M.fail, M.lift, toO, nameO, frzAt, op2, app2, app1, res, ownOf, callD, appN, resN, consO, consD, one, two, setV, setOw, giveUp, parS, augS, asB, truB, truG, andB, orB, notB, andD, orD, notD, ifD, chain3, tupD, lstD, ixG, strOf, seqOf, lisOf, tupOf, atI, ixN, negG, intG, subG, cmpG, addG, isiG, tyName, lenG, absG, intF, max2G, min2G, callS, callR, callM, argS, slotsOf, putB, toR, sVal, sOwn, inTo, setKind, isS, putC, ownM, ownT, appendG, storeS, setLG, gV, gT, gC, gN, walkL, walkT, walkR1, walkR2, loopF, backA, listG, isBG, joinD, sliceD, rangeL, allG, blsOf, partI, sizeLine, kb_int_int, kb_int_bool, kb_int_tuple, kb_int_str, kb_bool_int, kb_bool_bool, kb_bool_tuple, kb_bool_str, kb_NoneType_int, kb_NoneType_bool, kb_NoneType_tuple, kb_NoneType_str, kb_str_int, kb_str_bool, kb_str_tuple, kb_str_str, kb_tuple_int, kb_tuple_bool, kb_tuple_tuple, kb_tuple_str, kb_list_int, kb_list_bool, kb_list_tuple, kb_list_str, kb_dict_int, kb_dict_bool, kb_dict_tuple, kb_dict_str, wipeE]⟩
  unfold l13__law_right
  rw [this]
  rfl
/-! the greatest -/
theorem big_ge (a b c : Int × Int) (ha : 0 < a.2) (hb : 0 < b.2) (hc : 0 < c.2) :
    (∀ r ∈ [a, b, c], ¬ ((([a, b, c].foldl bigger a).1 * r.2 < r.1 * ([a, b, c].foldl bigger a).2))) ∧ ([a, b, c].foldl bigger a) ∈ [a, b, c] := by
  have tr : ∀ x y z : Int × Int, 0 < x.2 → 0 < y.2 → 0 < z.2 → ¬ (x.1 * y.2 < y.1 * x.2) → y.1 * z.2 < z.1 * y.2 ∨ True → ¬ (y.1 * z.2 < z.1 * y.2) → ¬ (x.1 * z.2 < z.1 * x.2) := by
    intro x y z hx hy hz h1 _ h2 h3
    have h1 : y.1 * x.2 ≤ x.1 * y.2 := by omega
    have h2 : z.1 * y.2 ≤ y.1 * z.2 := by omega
    have e1 : y.1 * x.2 * z.2 ≤ x.1 * y.2 * z.2 := Int.mul_le_mul_of_nonneg_right h1 (by omega)
    have e2 : z.1 * y.2 * x.2 ≤ y.1 * z.2 * x.2 := Int.mul_le_mul_of_nonneg_right h2 (by omega)
    have e3 : x.1 * z.2 * y.2 < z.1 * x.2 * y.2 := Int.mul_lt_mul_of_pos_right h3 hy
    have q1 : y.1 * x.2 * z.2 = y.1 * z.2 * x.2 := by rw [Int.mul_assoc, Int.mul_comm x.2, ← Int.mul_assoc]
    have q2 : x.1 * y.2 * z.2 = x.1 * z.2 * y.2 := by rw [Int.mul_assoc, Int.mul_comm y.2, ← Int.mul_assoc]
    have q3 : z.1 * y.2 * x.2 = z.1 * x.2 * y.2 := by rw [Int.mul_assoc, Int.mul_comm y.2, ← Int.mul_assoc]
    omega
  have irr : ∀ x : Int × Int, ¬ (x.1 * x.2 < x.1 * x.2) := fun x => by omega
  have e0 : bigger a a = a := by unfold bigger; rw [if_neg (irr a)]
  show (∀ r ∈ [a, b, c], ¬ ((bigger (bigger (bigger a a) b) c).1 * r.2 < r.1 * (bigger (bigger (bigger a a) b) c).2)) ∧ bigger (bigger (bigger a a) b) c ∈ [a, b, c]
  rw [e0]
  unfold bigger
  by_cases c1 : a.1 * b.2 < b.1 * a.2
  · rw [if_pos c1]
    by_cases c2 : b.1 * c.2 < c.1 * b.2
    · rw [if_pos c2]
      refine ⟨fun r m => ?_, by simp⟩
      simp only [List.mem_cons, List.not_mem_nil, or_false] at m
      rcases m with rfl | rfl | rfl
      · exact tr c b r hc hb ha (by omega) (.inr trivial) (by omega)
      · omega
      · exact irr _
    · rw [if_neg c2]
      refine ⟨fun r m => ?_, by simp⟩
      simp only [List.mem_cons, List.not_mem_nil, or_false] at m
      rcases m with rfl | rfl | rfl
      · omega
      · exact irr _
      · exact c2
  · rw [if_neg c1]
    by_cases c2 : a.1 * c.2 < c.1 * a.2
    · rw [if_pos c2]
      refine ⟨fun r m => ?_, by simp⟩
      simp only [List.mem_cons, List.not_mem_nil, or_false] at m
      rcases m with rfl | rfl | rfl
      · omega
      · exact tr c a r hc ha hb (by omega) (.inr trivial) c1
      · exact irr _
    · rw [if_neg c2]
      refine ⟨fun r m => ?_, by simp⟩
      simp only [List.mem_cons, List.not_mem_nil, or_false] at m
      rcases m with rfl | rfl | rfl
      · exact irr _
      · exact c1
      · exact c2
theorem noless_ev {r0 r1 r2 m : Int × Int} (f0 : SmP r0) (f1 : SmP r1) (f2 : SmP r2) (fm : SmP m) (hm : ∀ r ∈ [r0, r1, r2], ¬ (m.1 * r.2 < r.1 * m.2)) {s0 s1 s3 s4 : Sl} (h3 : valsAt [s0, s1, .val (.lst [fp r0, fp r1, fp r2]), s3, s4, .val (fp m), .no, .no, .no, .no, .no] [3] = true) :
    l7__law_right [s0, s1, .val (.lst [fp r0, fp r1, fp r2]), s3, s4, .val (fp m), .no, .no, .no, .no, .no] = some (.ok (.lst []), [s0, s1, .val (.lst [fp r0, fp r1, fp r2]), s3, s4, .val (fp m), .no, .no, .no, .no, .no]) := by
  have := compD_pure (fi := walkL (frzAt 2)) (gs := s4__law_right) (ft := t5__law_right) (fe := e6__law_right) (vs := [3]) (ρ := [s0, s1, .val (.lst [fp r0, fp r1, fp r2]), s3, s4, .val (fp m), .no, .no, .no, .no, .no]) (ρ1 := [s0, s1, .val (.lst [fp r0, fp r1, fp r2]), s3, s4, .val (fp m), .no, .no, .no, .no, .no])
    (ds := [fp r0, fp r1, fp r2]) (fun _ => false) (fun x => x) (by simp [List.findIdx?_cons, eqG, neG, eqP, toPy, toPys, SeqAt.shaped, PyData.canLay0, PyData.canLayAll0, PyData.depth, PyData.depthAll, PyData.eqv, PyData.eqvAll, fnD, starD, valsOf, seqS, skipS, exps, M.bind, M.ret, M.fail, M.lift, toO, nameO, frzAt, op2, app2, app1, res, ownOf, callD, appN, resN, consO, consD, one, two, setV, setOw, giveUp, parS, augS, asB, truB, truG, andB, orB, notB, andD, orD, notD, ifD, chain3, tupD, lstD, ixG, strOf, seqOf, lisOf, tupOf, atI, ixN, negG, intG, subG, cmpG, addG, isiG, tyName, lenG, absG, intF, max2G, min2G, callS, callR, callM, argS, slotsOf, putB, toR, sVal, sOwn, inTo, setKind, isS, putC, ownM, ownT, appendG, storeS, setLG, gV, gT, gC, gN, walkL, walkT, walkR1, walkR2, loopF, backA, listG, isBG, joinD, sliceD, rangeL, allG, blsOf, partI, sizeLine, kb_int_int, kb_int_bool, kb_int_tuple, kb_int_str, kb_bool_int, kb_bool_bool, kb_bool_tuple, kb_bool_str, kb_NoneType_int, kb_NoneType_bool, kb_NoneType_tuple, kb_NoneType_str, kb_str_int, kb_str_bool, kb_str_tuple, kb_str_str, kb_tuple_int, kb_tuple_bool, kb_tuple_tuple, kb_tuple_str, kb_list_int, kb_list_bool, kb_list_tuple, kb_list_str, kb_dict_int, kb_dict_bool, kb_dict_tuple, kb_dict_str]) h3 (show 3 ≤ sizeLine by decide) fun x mm => by
      obtain ⟨p, rfl, f, w⟩ : ∃ p, x = fp p ∧ SmP p ∧ ¬ (m.1 * p.2 < p.1 * m.2) := by
        simp only [List.mem_cons, List.not_mem_nil, or_false] at mm
        rcases mm with rfl | rfl | rfl
        · exact ⟨_, rfl, f0, hm _ (by simp)⟩
        · exact ⟨_, rfl, f1, hm _ (by simp)⟩
        · exact ⟨_, rfl, f2, hm _ (by simp)⟩
      have e := lless_ev fm.1 fm.2 f.1 f.2
      rw [show decide (m.1 * p.2 < p.1 * m.2) = false from decide_eq_false w] at e
      refine ⟨[s0, s1, .val (.lst [fp r0, fp r1, fp r2]), .val (fp p), s4, .val (fp m), .no, .no, .no, .no, .no], by simp [List.findIdx?_cons, eqG, neG, eqP, toPy, toPys, SeqAt.shaped, PyData.canLay0, PyData.canLayAll0, PyData.depth, PyData.depthAll, PyData.eqv, PyData.eqvAll, fnD, starD, valsOf, seqS, skipS, exps, M.bind, M.ret, M.fail, M.lift, toO, nameO, frzAt, op2, app2, app1, res, ownOf, callD, appN, resN, consO, consD, one, two, setV, setOw, giveUp, parS, augS, asB, truB, truG, andB, orB, notB, andD, orD, notD, ifD, chain3, tupD, lstD, ixG, strOf, seqOf, lisOf, tupOf, atI, ixN, negG, intG, subG, cmpG, addG, isiG, tyName, lenG, absG, intF, max2G, min2G, callS, callR, callM, argS, slotsOf, putB, toR, sVal, sOwn, inTo, setKind, isS, putC, ownM, ownT, appendG, storeS, setLG, gV, gT, gC, gN, walkL, walkT, walkR1, walkR2, loopF, backA, listG, isBG, joinD, sliceD, rangeL, allG, blsOf, partI, sizeLine, kb_int_int, kb_int_bool, kb_int_tuple, kb_int_str, kb_bool_int, kb_bool_bool, kb_bool_tuple, kb_bool_str, kb_NoneType_int, kb_NoneType_bool, kb_NoneType_tuple, kb_NoneType_str, kb_str_int, kb_str_bool, kb_str_tuple, kb_str_str, kb_tuple_int, kb_tuple_bool, kb_tuple_tuple, kb_tuple_str, kb_list_int, kb_list_bool, kb_list_tuple, kb_list_str, kb_dict_int, kb_dict_bool, kb_dict_tuple, kb_dict_str, s4__law_right, wipeE], [s0, s1, .val (.lst [fp r0, fp r1, fp r2]), .val (fp p), s4, .val (fp m), .no, .no, .no, .no, .no], by simp [List.findIdx?_cons, eqG, neG, eqP, toPy, toPys, SeqAt.shaped, PyData.canLay0, PyData.canLayAll0, PyData.depth, PyData.depthAll, PyData.eqv, PyData.eqvAll, fnD, starD, valsOf, seqS, skipS, exps, M.bind, M.ret, M.fail, M.lift, toO, nameO, frzAt, op2, app2, app1, res, ownOf, callD, appN, resN, consO, consD, one, two, setV, setOw, giveUp, parS, augS, asB, truB, truG, andB, orB, notB, andD, orD, notD, ifD, chain3, tupD, lstD, ixG, strOf, seqOf, lisOf, tupOf, atI, ixN, negG, intG, subG, cmpG, addG, isiG, tyName, lenG, absG, intF, max2G, min2G, callS, callR, callM, argS, slotsOf, putB, toR, sVal, sOwn, inTo, setKind, isS, putC, ownM, ownT, appendG, storeS, setLG, gV, gT, gC, gN, walkL, walkT, walkR1, walkR2, loopF, backA, listG, isBG, joinD, sliceD, rangeL, allG, blsOf, partI, sizeLine, kb_int_int, kb_int_bool, kb_int_tuple, kb_int_str, kb_bool_int, kb_bool_bool, kb_bool_tuple, kb_bool_str, kb_NoneType_int, kb_NoneType_bool, kb_NoneType_tuple, kb_NoneType_str, kb_str_int, kb_str_bool, kb_str_tuple, kb_str_str, kb_tuple_int, kb_tuple_bool, kb_tuple_tuple, kb_tuple_str, kb_list_int, kb_list_bool, kb_list_tuple, kb_list_str, kb_dict_int, kb_dict_bool, kb_dict_tuple, kb_dict_str, t5__law_right, e], (fun c => by cases c), fun _ => by simp [List.findIdx?_cons, eqG, neG, eqP, toPy, toPys, SeqAt.shaped, PyData.canLay0, PyData.canLayAll0, PyData.depth, PyData.depthAll, PyData.eqv, PyData.eqvAll, fnD, starD, valsOf, seqS, skipS, exps, M.bind, M.ret, M.fail, M.lift, toO, nameO, frzAt, op2, app2, app1, res, ownOf, callD, appN, resN, consO, consD, one, two, setV, setOw, giveUp, parS, augS, asB, truB, truG, andB, orB, notB, andD, orD, notD, ifD, chain3, tupD, lstD, ixG, strOf, seqOf, lisOf, tupOf, atI, ixN, negG, intG, subG, cmpG, addG, isiG, tyName, lenG, absG, intF, max2G, min2G, callS, callR, callM, argS, slotsOf, putB, toR, sVal, sOwn, inTo, setKind, isS, putC, ownM, ownT, appendG, storeS, setLG, gV, gT, gC, gN, walkL, walkT, walkR1, walkR2, loopF, backA, listG, isBG, joinD, sliceD, rangeL, allG, blsOf, partI, sizeLine, kb_int_int, kb_int_bool, kb_int_tuple, kb_int_str, kb_bool_int, kb_bool_bool, kb_bool_tuple, kb_bool_str, kb_NoneType_int, kb_NoneType_bool, kb_NoneType_tuple, kb_NoneType_str, kb_str_int, kb_str_bool, kb_str_tuple, kb_str_str, kb_tuple_int, kb_tuple_bool, kb_tuple_tuple, kb_tuple_str, kb_list_int, kb_list_bool, kb_list_tuple, kb_list_str, kb_dict_int, kb_dict_bool, kb_dict_tuple, kb_dict_str, wipeE]⟩
  unfold l7__law_right
  rw [this]
  rfl
def isfrB : D → Bool
  | .tup [.int n, .int d] => decide (1 ≤ d) && decide (Int.gcd n d = 1)
  | _ => false
theorem nears_ev {ds : List D} (hl : ds.length ≤ 100) (h : ∀ x ∈ ds, m_is_fraction [.val x] = some (.ret (.val (.bl (isfrB x))), [.val x])) {s0 s1 s2 s3 s4 s5 s6 s7 s9 s10 : Sl} (h3 : valsAt [s0, s1, s2, s3, s4, s5, s6, s7, .val (.lst ds), s9, s10] [3] = true) :
    l3__law_right [s0, s1, s2, s3, s4, s5, s6, s7, .val (.lst ds), s9, s10] = some (.ok (.lst (ds.map fun x => .bl (isfrB x))), [s0, s1, s2, s3, s4, s5, s6, s7, .val (.lst ds), s9, s10]) := by
  have := compD_pure (fi := walkL (frzAt 8)) (gs := s1__law_right) (ft := M.ret true) (fe := e2__law_right) (vs := [3]) (ρ := [s0, s1, s2, s3, s4, s5, s6, s7, .val (.lst ds), s9, s10]) (ρ1 := [s0, s1, s2, s3, s4, s5, s6, s7, .val (.lst ds), s9, s10])
    (ds := ds) (fun _ => true) (fun x => .bl (isfrB x)) (by simp [List.findIdx?_cons, eqG, neG, eqP, toPy, toPys, SeqAt.shaped, PyData.canLay0, PyData.canLayAll0, PyData.depth, PyData.depthAll, PyData.eqv, PyData.eqvAll, fnD, starD, valsOf, seqS, skipS, exps, M.bind, M.ret, M.fail, M.lift, toO, nameO, frzAt, op2, app2, app1, res, ownOf, callD, appN, resN, consO, consD, one, two, setV, setOw, giveUp, parS, augS, asB, truB, truG, andB, orB, notB, andD, orD, notD, ifD, chain3, tupD, lstD, ixG, strOf, seqOf, lisOf, tupOf, atI, ixN, negG, intG, subG, cmpG, addG, isiG, tyName, lenG, absG, intF, max2G, min2G, callS, callR, callM, argS, slotsOf, putB, toR, sVal, sOwn, inTo, setKind, isS, putC, ownM, ownT, appendG, storeS, setLG, gV, gT, gC, gN, walkL, walkT, walkR1, walkR2, loopF, backA, listG, isBG, joinD, sliceD, rangeL, allG, blsOf, partI, sizeLine, kb_int_int, kb_int_bool, kb_int_tuple, kb_int_str, kb_bool_int, kb_bool_bool, kb_bool_tuple, kb_bool_str, kb_NoneType_int, kb_NoneType_bool, kb_NoneType_tuple, kb_NoneType_str, kb_str_int, kb_str_bool, kb_str_tuple, kb_str_str, kb_tuple_int, kb_tuple_bool, kb_tuple_tuple, kb_tuple_str, kb_list_int, kb_list_bool, kb_list_tuple, kb_list_str, kb_dict_int, kb_dict_bool, kb_dict_tuple, kb_dict_str]) h3 (Nat.le_trans hl (by decide)) fun x mm => by
      have e := h x mm
      refine ⟨[s0, s1, s2, .val x, s4, s5, s6, s7, .val (.lst ds), s9, s10], by simp [List.findIdx?_cons, eqG, neG, eqP, toPy, toPys, SeqAt.shaped, PyData.canLay0, PyData.canLayAll0, PyData.depth, PyData.depthAll, PyData.eqv, PyData.eqvAll, fnD, starD, valsOf, seqS, skipS, exps, M.bind, M.ret, M.fail, M.lift, toO, nameO, frzAt, op2, app2, app1, res, ownOf, callD, appN, resN, consO, consD, one, two, setV, setOw, giveUp, parS, augS, asB, truB, truG, andB, orB, notB, andD, orD, notD, ifD, chain3, tupD, lstD, ixG, strOf, seqOf, lisOf, tupOf, atI, ixN, negG, intG, subG, cmpG, addG, isiG, tyName, lenG, absG, intF, max2G, min2G, callS, callR, callM, argS, slotsOf, putB, toR, sVal, sOwn, inTo, setKind, isS, putC, ownM, ownT, appendG, storeS, setLG, gV, gT, gC, gN, walkL, walkT, walkR1, walkR2, loopF, backA, listG, isBG, joinD, sliceD, rangeL, allG, blsOf, partI, sizeLine, kb_int_int, kb_int_bool, kb_int_tuple, kb_int_str, kb_bool_int, kb_bool_bool, kb_bool_tuple, kb_bool_str, kb_NoneType_int, kb_NoneType_bool, kb_NoneType_tuple, kb_NoneType_str, kb_str_int, kb_str_bool, kb_str_tuple, kb_str_str, kb_tuple_int, kb_tuple_bool, kb_tuple_tuple, kb_tuple_str, kb_list_int, kb_list_bool, kb_list_tuple, kb_list_str, kb_dict_int, kb_dict_bool, kb_dict_tuple, kb_dict_str, s1__law_right, wipeE], _, rfl, fun _ => ⟨[s0, s1, s2, .val x, s4, s5, s6, s7, .val (.lst ds), s9, s10], by simp [List.findIdx?_cons, eqG, neG, eqP, toPy, toPys, SeqAt.shaped, PyData.canLay0, PyData.canLayAll0, PyData.depth, PyData.depthAll, PyData.eqv, PyData.eqvAll, fnD, starD, valsOf, seqS, skipS, exps, M.bind, M.ret, M.fail, M.lift, toO, nameO, frzAt, op2, app2, app1, res, ownOf, callD, appN, resN, consO, consD, one, two, setV, setOw, giveUp, parS, augS, asB, truB, truG, andB, orB, notB, andD, orD, notD, ifD, chain3, tupD, lstD, ixG, strOf, seqOf, lisOf, tupOf, atI, ixN, negG, intG, subG, cmpG, addG, isiG, tyName, lenG, absG, intF, max2G, min2G, callS, callR, callM, argS, slotsOf, putB, toR, sVal, sOwn, inTo, setKind, isS, putC, ownM, ownT, appendG, storeS, setLG, gV, gT, gC, gN, walkL, walkT, walkR1, walkR2, loopF, backA, listG, isBG, joinD, sliceD, rangeL, allG, blsOf, partI, sizeLine, kb_int_int, kb_int_bool, kb_int_tuple, kb_int_str, kb_bool_int, kb_bool_bool, kb_bool_tuple, kb_bool_str, kb_NoneType_int, kb_NoneType_bool, kb_NoneType_tuple, kb_NoneType_str, kb_str_int, kb_str_bool, kb_str_tuple, kb_str_str, kb_tuple_int, kb_tuple_bool, kb_tuple_tuple, kb_tuple_str, kb_list_int, kb_list_bool, kb_list_tuple, kb_list_str, kb_dict_int, kb_dict_bool, kb_dict_tuple, kb_dict_str, e2__law_right, e], by simp [List.findIdx?_cons, eqG, neG, eqP, toPy, toPys, SeqAt.shaped, PyData.canLay0, PyData.canLayAll0, PyData.depth, PyData.depthAll, PyData.eqv, PyData.eqvAll, fnD, starD, valsOf, seqS, skipS, exps, M.bind, M.ret, M.fail, M.lift, toO, nameO, frzAt, op2, app2, app1, res, ownOf, callD, appN, resN, consO, consD, one, two, setV, setOw, giveUp, parS, augS, asB, truB, truG, andB, orB, notB, andD, orD, notD, ifD, chain3, tupD, lstD, ixG, strOf, seqOf, lisOf, tupOf, atI, ixN, negG, intG, subG, cmpG, addG, isiG, tyName, lenG, absG, intF, max2G, min2G, callS, callR, callM, argS, slotsOf, putB, toR, sVal, sOwn, inTo, setKind, isS, putC, ownM, ownT, appendG, storeS, setLG, gV, gT, gC, gN, walkL, walkT, walkR1, walkR2, loopF, backA, listG, isBG, joinD, sliceD, rangeL, allG, blsOf, partI, sizeLine, kb_int_int, kb_int_bool, kb_int_tuple, kb_int_str, kb_bool_int, kb_bool_bool, kb_bool_tuple, kb_bool_str, kb_NoneType_int, kb_NoneType_bool, kb_NoneType_tuple, kb_NoneType_str, kb_str_int, kb_str_bool, kb_str_tuple, kb_str_str, kb_tuple_int, kb_tuple_bool, kb_tuple_tuple, kb_tuple_str, kb_list_int, kb_list_bool, kb_list_tuple, kb_list_str, kb_dict_int, kb_dict_bool, kb_dict_tuple, kb_dict_str, wipeE]⟩, fun c => by cases c⟩
  unfold l3__law_right
  rw [this, List.filter_eq_self.mpr fun _ _ => rfl]
end K01
end Pd

namespace Pd
open PySem PySem.Spec L2
namespace K01
theorem gcd_far {f : Int} (h : 0 < f) : (Int.gcd f f : Int) = f := by rw [Int.gcd_self]; omega
theorem gcd_by {n d k : Int} (hk : 0 < k) : (Int.gcd (n * k) (d * k) : Int) = Int.gcd n d * k := by
  rw [Int.gcd_mul_right]; push_cast; rw [show ((k.natAbs : Nat) : Int) = k by omega]
theorem pw11 : powG (.int 10) (.int 11) = some (.int 100000000000) := by rfl
theorem notin3 (m a b c : Int × Int) : notInDG (fp m) (.lst [fp a, fp b, fp c]) = some (.bl (!([PyData.tuple [.int a.1, .int a.2], .tuple [.int b.1, .int b.2], .tuple [.int c.1, .int c.2]].any fun z => PyData.eqv z (.tuple [.int m.1, .int m.2])))) := rfl
theorem eqv_self (m : Int × Int) : PyData.eqv (.tuple [.int m.1, .int m.2]) (.tuple [.int m.1, .int m.2]) = true := by simp [PyData.eqv, PyData.eqvAll]
theorem right_ev {d : D} (h : Dc 40 d) : ∃ d', Dc 20 d' ∧ m__law_right [.par d] = some (.ret (.val (.bl true)), [.par d']) := by
  obtain ⟨p0, p1, p2, d1, f0, f1, f2, hd1, e1⟩ := pairs_ev h
  obtain ⟨x, d2, x0, x1, hd2, e2⟩ := roll_ev (n := 30) (t := 5) hd1 (by decide) (by decide)
  obtain ⟨y, d3, y0, y1, hd3, e3⟩ := roll_ev (n := 29) (t := 1000) hd2 (by decide) (by decide)
  have l0 := low_fr f0
  have l1 := low_fr f1
  have l2 := low_fr f2
  have w0 := f0.lw
  have w1 := f1.lw
  have w2 := f2.lw
  have er := fun s0 s2 => rows_ev (s0 := s0) (s2 := s2) f0 f1 f2
  have el := fun s0 s2 => lows_ev (s0 := s0) (s2 := s2) f0 f1 f2
  have z0 : fraction_ev (n := p0.1) (d := p0.2) = fraction_ev (n := p0.1) (d := p0.2) := rfl
  -- one pair more often
  have B0 : 0 < 2 + x := by omega
  have d0p : 0 < p0.2 := by have := f0.d0; omega
  have g0 := gpos (n := p0.1) d0p
  have fb := fraction_ev (n := p0.1 * (2 + x)) (d := p0.2 * (2 + x)) (Int.mul_pos d0p B0) (by
    have : p0.2 * (2 + x) ≤ 40 * (2 + x) := Int.mul_le_mul_of_nonneg_right f0.d1 (by omega)
    omega)
  rw [gcd_by B0, Int.mul_ediv_mul_of_pos_left _ _ B0, Int.mul_ediv_mul_of_pos_left _ _ B0] at fb
  have ff := fraction_ev (n := 100000000000 + y) (d := 100000000000 + y) (by omega) (by omega)
  rw [gcd_far (by omega), Int.ediv_self (by omega)] at ff
  have m1 := mul_small (i := p0.1) (j := 2 + x) (by have := f0.n0; have := f0.n1; omega) (by omega)
  have m2 := mul_small (i := p0.2) (j := 2 + x) (by have := f0.d0; have := f0.d1; omega) (by omega)
  -- the rows
  have hp0 : isfrB (fp p0) = decide (Int.gcd p0.1 p0.2 = 1) := by show (decide (1 ≤ p0.2) && _) = _; rw [decide_eq_true f0.d0, Bool.true_and]
  have ip0 := islow_ev (n := p0.1) (d := p0.2) d0p (by have := f0.d1; omega) (by have := f0.n0; omega) (by have := f0.n1; omega)
  obtain ⟨r0, hr0⟩ : ∃ r, r = low p0 := ⟨_, rfl⟩
  obtain ⟨r1, hr1⟩ : ∃ r, r = low p1 := ⟨_, rfl⟩
  obtain ⟨r2, hr2⟩ : ∃ r, r = low p2 := ⟨_, rfl⟩
  have fb' : m_fraction [.val (.int (p0.1 * (2 + x))), .val (.int (p0.2 * (2 + x)))] = some (.ret (.val (fp r0)), [.val (.int (p0.1 * (2 + x))), .val (.int (p0.2 * (2 + x)))]) := by rw [hr0]; exact fb
  rw [← hr0] at l0 w0 er el
  rw [← hr1] at l1 w1 er el
  rw [← hr2] at l2 w2 er el
  clear fb hr0 hr1 hr2 z0
  have hb0 : isfrB (fp r0) = true := by
    obtain ⟨u, v, uv, _, g⟩ := w0
    have uv : r0.1 = u ∧ r0.2 = v := by injection uv with h; injection h with h1 h2; injection h2 with h2; exact ⟨by injection h1, by injection h2⟩
    rw [← uv.1, ← uv.2] at g
    show (decide (1 ≤ r0.2) && decide (Int.gcd r0.1 r0.2 = 1)) = true
    rw [decide_eq_true l0.d0, g]; rfl
  obtain ⟨mx, hmx⟩ : ∃ m, m = [r0, r1, r2].foldl bigger r0 := ⟨_, rfl⟩
  have bg := big_ge r0 r1 r2 (by have := l0.d0; omega) (by have := l1.d0; omega) (by have := l2.d0; omega)
  rw [← hmx] at bg
  have smx : SmP mx := by
    have := bg.2
    simp only [List.mem_cons, List.not_mem_nil, or_false] at this
    rcases this with rfl | rfl | rfl
    · exact l0.sm
    · exact l1.sm
    · exact l2.sm
  have gr := greatest_ev (p := r0) (ps := [r1, r2]) (by simp) (by
    intro q m
    simp only [List.mem_cons, List.not_mem_nil, or_false] at m
    rcases m with rfl | rfl | rfl
    · exact l0.sm
    · exact l1.sm
    · exact l2.sm) (by
    intro q m
    simp only [List.mem_cons, List.not_mem_nil, or_false] at m
    rcases m with rfl | rfl | rfl
    · exact w0
    · exact w1
    · exact w2)
  rw [← hmx] at gr
  have gr1 := greatest_ev (p := r1) (ps := []) (by simp) (by
    intro q m
    simp only [List.mem_cons, List.not_mem_nil, or_false] at m
    rw [m]; exact l1.sm) (by
    intro q m
    simp only [List.mem_cons, List.not_mem_nil, or_false] at m
    rw [m]; exact w1)
  have b11 : bigger r1 r1 = r1 := by unfold bigger; rw [if_neg (by omega)]
  simp only [List.foldl, List.map, b11] at gr1 gr
  have nin : notInDG (fp mx) (.lst [fp r0, fp r1, fp r2]) = some (.bl false) := by
    have := bg.2
    simp only [List.mem_cons, List.not_mem_nil, or_false] at this
    rw [notin3]
    rcases this with e | e | e <;> (rw [e]; simp only [List.any_cons, eqv_self, Bool.true_or, Bool.or_true, Bool.not_true])
  have nl := fun s0 s1 s3 s4 h3 => noless_ev (s0 := s0) (s1 := s1) (s3 := s3) (s4 := s4) l0.sm l1.sm l2.sm smx bg.1 h3
  have b9a := fun (p q : Int × Int) hp hq lp lq s0 s1 s2 s5 => b9_ev (p := p) (q := q) hp hq lp lq (s0 := s0) (s1 := s1) (s2 := s2) (s5 := s5) (s6 := .no) (s7 := .no) (s8 := .no) (s9 := .no) (s10 := .no)
  have nw := fun s0 s1 => nolow_ev (s0 := s0) (s1 := s1) l0 l1 l2 w0 w1 w2
  -- the near values
  obtain ⟨ds, hds⟩ : ∃ ds : List D, ds = [fp r0, fp p0, fr r0.1 0, fr r0.1 (-1), .tup [.int r0.1, .int r0.2, .int 1], .lst [.int r0.1, .int r0.2], .tup [.bl true, .int 2], .tup [.int 1, .bl true], .non, .int 3] := ⟨_, rfl⟩
  have hn : ∀ x ∈ ds, m_is_fraction [.val x] = some (.ret (.val (.bl (isfrB x))), [.val x]) := by
    intro x m
    rw [hds] at m
    simp only [List.mem_cons, List.not_mem_nil, or_false] at m
    rcases m with rfl | rfl | rfl | rfl | rfl | rfl | rfl | rfl | rfl | rfl
    · exact isfr_fr
    · exact isfr_fr
    · exact isfr_fr
    · exact isfr_fr
    · exact isfr_3
    · exact isfr_lst
    · exact isfr_bi
    · exact isfr_ib
    · exact isfr_non
    · exact isfr_int
  have ne := fun s0 s1 s2 s3 s4 s5 s6 s7 s9 s10 h3 => nears_ev (ds := ds) (by rw [hds]; simp) hn (s0 := s0) (s1 := s1) (s2 := s2) (s3 := s3) (s4 := s4) (s5 := s5) (s6 := s6) (s7 := s7) (s9 := s9) (s10 := s10) h3
  have hmap : ds.map (fun x => D.bl (isfrB x)) = [.bl true, .bl (decide (Int.gcd p0.1 p0.2 = 1)), .bl false, .bl false, .bl false, .bl false, .bl false, .bl false, .bl false, .bl false] := by
    rw [hds]
    simp only [List.map]
    rw [hb0, hp0]
    rfl
  have is02 : m_is_fraction [.val (.tup [.int 0, .int 2])] = some (.ret (.val (.bl false)), [.val (.tup [.int 0, .int 2])]) := isfr_fr
  refine ⟨d3, hd3.le (by decide), ?_⟩
  unfold m__law_right
  let L0 : List D := [fp p0, fp p1, fp p2]
  let L1 : List D := [fp r0, fp r1, fp r2]
  refine fnD_ret (ρ := [.par d3, .val (.lst L0), .val (.lst L1), .val (fp r2), .val (fp r2), .val (fp mx), .val (.int (2 + x)), .val (.int (100000000000 + y)), .val (.lst ds), .val (.lst [.bl true, .bl (decide (Int.gcd p0.1 p0.2 = 1)), .bl false, .bl false, .bl false, .bl false, .bl false, .bl false, .bl false, .bl false]), .no]) rfl ?_ rfl
  show g__law_right [.par d, .no, .no, .no, .no, .no, .no, .no, .no, .no, .no] = _
  unfold g__law_right
  rw [seqS_nx (ρ1 := [.par d1, .val (.lst L0), .no, .no, .no, .no, .no, .no, .no, .no, .no]) (by rw [exps_ev e1]; rfl)]
  rw [seqS_nx (ρ1 := [.par d1, .val (.lst L0), .val (.lst L1), .no, .no, .no, .no, .no, .no, .no, .no]) (by rw [exps_ev (er _ _)]; rfl)]
  rw [seqS_nx (ρ1 := [.par d1, .val (.lst L0), .val (.lst L1), .no, .no, .no, .no, .no, .no, .no, .no]) (by
    have e := el (.par d1) (.val (.lst L1))
    simp [List.findIdx?_cons, eqG, neG, eqP, toPy, toPys, SeqAt.shaped, PyData.canLay0, PyData.canLayAll0, PyData.depth, PyData.depthAll, PyData.eqv, PyData.eqvAll, fnD, starD, valsOf, seqS, skipS, exps, M.bind, M.ret, M.fail, M.lift, toO, nameO, frzAt, op2, app2, app1, res, ownOf, callD, appN, resN, consO, consD, one, two, setV, setOw, giveUp, parS, augS, asB, truB, truG, andB, orB, notB, andD, orD, notD, ifD, chain3, tupD, lstD, ixG, strOf, seqOf, lisOf, tupOf, atI, ixN, negG, intG, subG, cmpG, addG, isiG, tyName, lenG, absG, intF, max2G, min2G, callS, callR, callM, argS, slotsOf, putB, toR, sVal, sOwn, inTo, setKind, isS, putC, ownM, ownT, appendG, storeS, setLG, gV, gT, gC, gN, walkL, walkT, walkR1, walkR2, loopF, backA, listG, isBG, joinD, sliceD, rangeL, allG, blsOf, partI, sizeLine, kb_int_int, kb_int_bool, kb_int_tuple, kb_int_str, kb_bool_int, kb_bool_bool, kb_bool_tuple, kb_bool_str, kb_NoneType_int, kb_NoneType_bool, kb_NoneType_tuple, kb_NoneType_str, kb_str_int, kb_str_bool, kb_str_tuple, kb_str_str, kb_tuple_int, kb_tuple_bool, kb_tuple_tuple, kb_tuple_str, kb_list_int, kb_list_bool, kb_list_tuple, kb_list_str, kb_dict_int, kb_dict_bool, kb_dict_tuple, kb_dict_str, e, L0, L1])]
  rw [seqS_nx (ρ1 := [.par d1, .val (.lst L0), .val (.lst L1), .no, .no, .no, .no, .no, .no, .no, .no]) (by
    have e := nw (.par d1) (.val (.lst L0))
    simp [List.findIdx?_cons, eqG, neG, eqP, toPy, toPys, SeqAt.shaped, PyData.canLay0, PyData.canLayAll0, PyData.depth, PyData.depthAll, PyData.eqv, PyData.eqvAll, fnD, starD, valsOf, seqS, skipS, exps, M.bind, M.ret, M.fail, M.lift, toO, nameO, frzAt, op2, app2, app1, res, ownOf, callD, appN, resN, consO, consD, one, two, setV, setOw, giveUp, parS, augS, asB, truB, truG, andB, orB, notB, andD, orD, notD, ifD, chain3, tupD, lstD, ixG, strOf, seqOf, lisOf, tupOf, atI, ixN, negG, intG, subG, cmpG, addG, isiG, tyName, lenG, absG, intF, max2G, min2G, callS, callR, callM, argS, slotsOf, putB, toR, sVal, sOwn, inTo, setKind, isS, putC, ownM, ownT, appendG, storeS, setLG, gV, gT, gC, gN, walkL, walkT, walkR1, walkR2, loopF, backA, listG, isBG, joinD, sliceD, rangeL, allG, blsOf, partI, sizeLine, kb_int_int, kb_int_bool, kb_int_tuple, kb_int_str, kb_bool_int, kb_bool_bool, kb_bool_tuple, kb_bool_str, kb_NoneType_int, kb_NoneType_bool, kb_NoneType_tuple, kb_NoneType_str, kb_str_int, kb_str_bool, kb_str_tuple, kb_str_str, kb_tuple_int, kb_tuple_bool, kb_tuple_tuple, kb_tuple_str, kb_list_int, kb_list_bool, kb_list_tuple, kb_list_str, kb_dict_int, kb_dict_bool, kb_dict_tuple, kb_dict_str, e, L0, L1])]
  rw [seqS_nx (ρ1 := [.par d1, .val (.lst L0), .val (.lst L1), .val (fp r2), .val (fp r2), .no, .no, .no, .no, .no, .no]) (by
    rw [exps_ev (a := [.tup [fp r0, fp r1], .tup [fp r1, fp r2], .tup [fp r2, fp r2]]) (ρ1 := [.par d1, .val (.lst L0), .val (.lst L1), .no, .no, .no, .no, .no, .no, .no, .no]) (by simp [List.findIdx?_cons, eqG, neG, eqP, toPy, toPys, SeqAt.shaped, PyData.canLay0, PyData.canLayAll0, PyData.depth, PyData.depthAll, PyData.eqv, PyData.eqvAll, fnD, starD, valsOf, seqS, skipS, exps, M.bind, M.ret, M.fail, M.lift, toO, nameO, frzAt, op2, app2, app1, res, ownOf, callD, appN, resN, consO, consD, one, two, setV, setOw, giveUp, parS, augS, asB, truB, truG, andB, orB, notB, andD, orD, notD, ifD, chain3, tupD, lstD, ixG, strOf, seqOf, lisOf, tupOf, atI, ixN, negG, intG, subG, cmpG, addG, isiG, tyName, lenG, absG, intF, max2G, min2G, callS, callR, callM, argS, slotsOf, putB, toR, sVal, sOwn, inTo, setKind, isS, putC, ownM, ownT, appendG, storeS, setLG, gV, gT, gC, gN, walkL, walkT, walkR1, walkR2, loopF, backA, listG, isBG, joinD, sliceD, rangeL, allG, blsOf, partI, sizeLine, kb_int_int, kb_int_bool, kb_int_tuple, kb_int_str, kb_bool_int, kb_bool_bool, kb_bool_tuple, kb_bool_str, kb_NoneType_int, kb_NoneType_bool, kb_NoneType_tuple, kb_NoneType_str, kb_str_int, kb_str_bool, kb_str_tuple, kb_str_str, kb_tuple_int, kb_tuple_bool, kb_tuple_tuple, kb_tuple_str, kb_list_int, kb_list_bool, kb_list_tuple, kb_list_str, kb_dict_int, kb_dict_bool, kb_dict_tuple, kb_dict_str, L0, L1])]
    rw [loopF_nx (ρ1 := [.par d1, .val (.lst L0), .val (.lst L1), .val (fp r0), .val (fp r1), .no, .no, .no, .no, .no, .no]) (by simp [List.findIdx?_cons, eqG, neG, eqP, toPy, toPys, SeqAt.shaped, PyData.canLay0, PyData.canLayAll0, PyData.depth, PyData.depthAll, PyData.eqv, PyData.eqvAll, fnD, starD, valsOf, seqS, skipS, exps, M.bind, M.ret, M.fail, M.lift, toO, nameO, frzAt, op2, app2, app1, res, ownOf, callD, appN, resN, consO, consD, one, two, setV, setOw, giveUp, parS, augS, asB, truB, truG, andB, orB, notB, andD, orD, notD, ifD, chain3, tupD, lstD, ixG, strOf, seqOf, lisOf, tupOf, atI, ixN, negG, intG, subG, cmpG, addG, isiG, tyName, lenG, absG, intF, max2G, min2G, callS, callR, callM, argS, slotsOf, putB, toR, sVal, sOwn, inTo, setKind, isS, putC, ownM, ownT, appendG, storeS, setLG, gV, gT, gC, gN, walkL, walkT, walkR1, walkR2, loopF, backA, listG, isBG, joinD, sliceD, rangeL, allG, blsOf, partI, sizeLine, kb_int_int, kb_int_bool, kb_int_tuple, kb_int_str, kb_bool_int, kb_bool_bool, kb_bool_tuple, kb_bool_str, kb_NoneType_int, kb_NoneType_bool, kb_NoneType_tuple, kb_NoneType_str, kb_str_int, kb_str_bool, kb_str_tuple, kb_str_str, kb_tuple_int, kb_tuple_bool, kb_tuple_tuple, kb_tuple_str, kb_list_int, kb_list_bool, kb_list_tuple, kb_list_str, kb_dict_int, kb_dict_bool, kb_dict_tuple, kb_dict_str, s8__law_right]) (b9a _ _ l0.sm l1.sm w0 w1 _ _ _ _)]
    rw [loopF_nx (ρ1 := [.par d1, .val (.lst L0), .val (.lst L1), .val (fp r1), .val (fp r2), .no, .no, .no, .no, .no, .no]) (by simp [List.findIdx?_cons, eqG, neG, eqP, toPy, toPys, SeqAt.shaped, PyData.canLay0, PyData.canLayAll0, PyData.depth, PyData.depthAll, PyData.eqv, PyData.eqvAll, fnD, starD, valsOf, seqS, skipS, exps, M.bind, M.ret, M.fail, M.lift, toO, nameO, frzAt, op2, app2, app1, res, ownOf, callD, appN, resN, consO, consD, one, two, setV, setOw, giveUp, parS, augS, asB, truB, truG, andB, orB, notB, andD, orD, notD, ifD, chain3, tupD, lstD, ixG, strOf, seqOf, lisOf, tupOf, atI, ixN, negG, intG, subG, cmpG, addG, isiG, tyName, lenG, absG, intF, max2G, min2G, callS, callR, callM, argS, slotsOf, putB, toR, sVal, sOwn, inTo, setKind, isS, putC, ownM, ownT, appendG, storeS, setLG, gV, gT, gC, gN, walkL, walkT, walkR1, walkR2, loopF, backA, listG, isBG, joinD, sliceD, rangeL, allG, blsOf, partI, sizeLine, kb_int_int, kb_int_bool, kb_int_tuple, kb_int_str, kb_bool_int, kb_bool_bool, kb_bool_tuple, kb_bool_str, kb_NoneType_int, kb_NoneType_bool, kb_NoneType_tuple, kb_NoneType_str, kb_str_int, kb_str_bool, kb_str_tuple, kb_str_str, kb_tuple_int, kb_tuple_bool, kb_tuple_tuple, kb_tuple_str, kb_list_int, kb_list_bool, kb_list_tuple, kb_list_str, kb_dict_int, kb_dict_bool, kb_dict_tuple, kb_dict_str, s8__law_right]) (b9a _ _ l1.sm l2.sm w1 w2 _ _ _ _)]
    rw [loopF_nx (ρ1 := [.par d1, .val (.lst L0), .val (.lst L1), .val (fp r2), .val (fp r2), .no, .no, .no, .no, .no, .no]) (by simp [List.findIdx?_cons, eqG, neG, eqP, toPy, toPys, SeqAt.shaped, PyData.canLay0, PyData.canLayAll0, PyData.depth, PyData.depthAll, PyData.eqv, PyData.eqvAll, fnD, starD, valsOf, seqS, skipS, exps, M.bind, M.ret, M.fail, M.lift, toO, nameO, frzAt, op2, app2, app1, res, ownOf, callD, appN, resN, consO, consD, one, two, setV, setOw, giveUp, parS, augS, asB, truB, truG, andB, orB, notB, andD, orD, notD, ifD, chain3, tupD, lstD, ixG, strOf, seqOf, lisOf, tupOf, atI, ixN, negG, intG, subG, cmpG, addG, isiG, tyName, lenG, absG, intF, max2G, min2G, callS, callR, callM, argS, slotsOf, putB, toR, sVal, sOwn, inTo, setKind, isS, putC, ownM, ownT, appendG, storeS, setLG, gV, gT, gC, gN, walkL, walkT, walkR1, walkR2, loopF, backA, listG, isBG, joinD, sliceD, rangeL, allG, blsOf, partI, sizeLine, kb_int_int, kb_int_bool, kb_int_tuple, kb_int_str, kb_bool_int, kb_bool_bool, kb_bool_tuple, kb_bool_str, kb_NoneType_int, kb_NoneType_bool, kb_NoneType_tuple, kb_NoneType_str, kb_str_int, kb_str_bool, kb_str_tuple, kb_str_str, kb_tuple_int, kb_tuple_bool, kb_tuple_tuple, kb_tuple_str, kb_list_int, kb_list_bool, kb_list_tuple, kb_list_str, kb_dict_int, kb_dict_bool, kb_dict_tuple, kb_dict_str, s8__law_right]) (b9a _ _ l2.sm l2.sm w2 w2 _ _ _ _)]
    rfl)]
  rw [seqS_nx (ρ1 := [.par d1, .val (.lst L0), .val (.lst L1), .val (fp r2), .val (fp r2), .val (fp mx), .no, .no, .no, .no, .no]) (by
    simp [List.findIdx?_cons, eqG, neG, eqP, toPy, toPys, SeqAt.shaped, PyData.canLay0, PyData.canLayAll0, PyData.depth, PyData.depthAll, PyData.eqv, PyData.eqvAll, fnD, starD, valsOf, seqS, skipS, exps, M.bind, M.ret, M.fail, M.lift, toO, nameO, frzAt, op2, app2, app1, res, ownOf, callD, appN, resN, consO, consD, one, two, setV, setOw, giveUp, parS, augS, asB, truB, truG, andB, orB, notB, andD, orD, notD, ifD, chain3, tupD, lstD, ixG, strOf, seqOf, lisOf, tupOf, atI, ixN, negG, intG, subG, cmpG, addG, isiG, tyName, lenG, absG, intF, max2G, min2G, callS, callR, callM, argS, slotsOf, putB, toR, sVal, sOwn, inTo, setKind, isS, putC, ownM, ownT, appendG, storeS, setLG, gV, gT, gC, gN, walkL, walkT, walkR1, walkR2, loopF, backA, listG, isBG, joinD, sliceD, rangeL, allG, blsOf, partI, sizeLine, kb_int_int, kb_int_bool, kb_int_tuple, kb_int_str, kb_bool_int, kb_bool_bool, kb_bool_tuple, kb_bool_str, kb_NoneType_int, kb_NoneType_bool, kb_NoneType_tuple, kb_NoneType_str, kb_str_int, kb_str_bool, kb_str_tuple, kb_str_str, kb_tuple_int, kb_tuple_bool, kb_tuple_tuple, kb_tuple_str, kb_list_int, kb_list_bool, kb_list_tuple, kb_list_str, kb_dict_int, kb_dict_bool, kb_dict_tuple, kb_dict_str, L0, L1, gr])]
  rw [seqS_nx (ρ1 := [.par d1, .val (.lst L0), .val (.lst L1), .val (fp r2), .val (fp r2), .val (fp mx), .no, .no, .no, .no, .no]) (by
    have a := nl (.par d1) (.val (.lst L0)) (.val (fp r2)) (.val (fp r2)) rfl
    simp [List.findIdx?_cons, eqG, neG, eqP, toPy, toPys, SeqAt.shaped, PyData.canLay0, PyData.canLayAll0, PyData.depth, PyData.depthAll, PyData.eqv, PyData.eqvAll, fnD, starD, valsOf, seqS, skipS, exps, M.bind, M.ret, M.fail, M.lift, toO, nameO, frzAt, op2, app2, app1, res, ownOf, callD, appN, resN, consO, consD, one, two, setV, setOw, giveUp, parS, augS, asB, truB, truG, andB, orB, notB, andD, orD, notD, ifD, chain3, tupD, lstD, ixG, strOf, seqOf, lisOf, tupOf, atI, ixN, negG, intG, subG, cmpG, addG, isiG, tyName, lenG, absG, intF, max2G, min2G, callS, callR, callM, argS, slotsOf, putB, toR, sVal, sOwn, inTo, setKind, isS, putC, ownM, ownT, appendG, storeS, setLG, gV, gT, gC, gN, walkL, walkT, walkR1, walkR2, loopF, backA, listG, isBG, joinD, sliceD, rangeL, allG, blsOf, partI, sizeLine, kb_int_int, kb_int_bool, kb_int_tuple, kb_int_str, kb_bool_int, kb_bool_bool, kb_bool_tuple, kb_bool_str, kb_NoneType_int, kb_NoneType_bool, kb_NoneType_tuple, kb_NoneType_str, kb_str_int, kb_str_bool, kb_str_tuple, kb_str_str, kb_tuple_int, kb_tuple_bool, kb_tuple_tuple, kb_tuple_str, kb_list_int, kb_list_bool, kb_list_tuple, kb_list_str, kb_dict_int, kb_dict_bool, kb_dict_tuple, kb_dict_str, L0, L1, nin, a, gr1])]
  rw [seqS_nx (ρ1 := [.par d3, .val (.lst L0), .val (.lst L1), .val (fp r2), .val (fp r2), .val (fp mx), .val (.int (2 + x)), .val (.int (100000000000 + y)), .no, .no, .no]) (by
    simp [List.findIdx?_cons, eqG, neG, eqP, toPy, toPys, SeqAt.shaped, PyData.canLay0, PyData.canLayAll0, PyData.depth, PyData.depthAll, PyData.eqv, PyData.eqvAll, fnD, starD, valsOf, seqS, skipS, exps, M.bind, M.ret, M.fail, M.lift, toO, nameO, frzAt, op2, app2, app1, res, ownOf, callD, appN, resN, consO, consD, one, two, setV, setOw, giveUp, parS, augS, asB, truB, truG, andB, orB, notB, andD, orD, notD, ifD, chain3, tupD, lstD, ixG, strOf, seqOf, lisOf, tupOf, atI, ixN, negG, intG, subG, cmpG, addG, isiG, tyName, lenG, absG, intF, max2G, min2G, callS, callR, callM, argS, slotsOf, putB, toR, sVal, sOwn, inTo, setKind, isS, putC, ownM, ownT, appendG, storeS, setLG, gV, gT, gC, gN, walkL, walkT, walkR1, walkR2, loopF, backA, listG, isBG, joinD, sliceD, rangeL, allG, blsOf, partI, sizeLine, kb_int_int, kb_int_bool, kb_int_tuple, kb_int_str, kb_bool_int, kb_bool_bool, kb_bool_tuple, kb_bool_str, kb_NoneType_int, kb_NoneType_bool, kb_NoneType_tuple, kb_NoneType_str, kb_str_int, kb_str_bool, kb_str_tuple, kb_str_str, kb_tuple_int, kb_tuple_bool, kb_tuple_tuple, kb_tuple_str, kb_list_int, kb_list_bool, kb_list_tuple, kb_list_str, kb_dict_int, kb_dict_bool, kb_dict_tuple, kb_dict_str, e2, e3, pw11])]
  rw [seqS_nx (ρ1 := [.par d3, .val (.lst L0), .val (.lst L1), .val (fp r2), .val (fp r2), .val (fp mx), .val (.int (2 + x)), .val (.int (100000000000 + y)), .no, .no, .no]) (by
    simp [List.findIdx?_cons, eqG, neG, eqP, toPy, toPys, SeqAt.shaped, PyData.canLay0, PyData.canLayAll0, PyData.depth, PyData.depthAll, PyData.eqv, PyData.eqvAll, fnD, starD, valsOf, seqS, skipS, exps, M.bind, M.ret, M.fail, M.lift, toO, nameO, frzAt, op2, app2, app1, res, ownOf, callD, appN, resN, consO, consD, one, two, setV, setOw, giveUp, parS, augS, asB, truB, truG, andB, orB, notB, andD, orD, notD, ifD, chain3, tupD, lstD, ixG, strOf, seqOf, lisOf, tupOf, atI, ixN, negG, intG, subG, cmpG, addG, isiG, tyName, lenG, absG, intF, max2G, min2G, callS, callR, callM, argS, slotsOf, putB, toR, sVal, sOwn, inTo, setKind, isS, putC, ownM, ownT, appendG, storeS, setLG, gV, gT, gC, gN, walkL, walkT, walkR1, walkR2, loopF, backA, listG, isBG, joinD, sliceD, rangeL, allG, blsOf, partI, sizeLine, kb_int_int, kb_int_bool, kb_int_tuple, kb_int_str, kb_bool_int, kb_bool_bool, kb_bool_tuple, kb_bool_str, kb_NoneType_int, kb_NoneType_bool, kb_NoneType_tuple, kb_NoneType_str, kb_str_int, kb_str_bool, kb_str_tuple, kb_str_str, kb_tuple_int, kb_tuple_bool, kb_tuple_tuple, kb_tuple_str, kb_list_int, kb_list_bool, kb_list_tuple, kb_list_str, kb_dict_int, kb_dict_bool, kb_dict_tuple, kb_dict_str, L0, L1, m1, m2, fb', ff])]
  rw [seqS_nx (ρ1 := [.par d3, .val (.lst L0), .val (.lst L1), .val (fp r2), .val (fp r2), .val (fp mx), .val (.int (2 + x)), .val (.int (100000000000 + y)), .val (.lst (ds.take 7)), .no, .no]) (by
    simp [List.findIdx?_cons, eqG, neG, eqP, toPy, toPys, SeqAt.shaped, PyData.canLay0, PyData.canLayAll0, PyData.depth, PyData.depthAll, PyData.eqv, PyData.eqvAll, fnD, starD, valsOf, seqS, skipS, exps, M.bind, M.ret, M.fail, M.lift, toO, nameO, frzAt, op2, app2, app1, res, ownOf, callD, appN, resN, consO, consD, one, two, setV, setOw, giveUp, parS, augS, asB, truB, truG, andB, orB, notB, andD, orD, notD, ifD, chain3, tupD, lstD, ixG, strOf, seqOf, lisOf, tupOf, atI, ixN, negG, intG, subG, cmpG, addG, isiG, tyName, lenG, absG, intF, max2G, min2G, callS, callR, callM, argS, slotsOf, putB, toR, sVal, sOwn, inTo, setKind, isS, putC, ownM, ownT, appendG, storeS, setLG, gV, gT, gC, gN, walkL, walkT, walkR1, walkR2, loopF, backA, listG, isBG, joinD, sliceD, rangeL, allG, blsOf, partI, sizeLine, kb_int_int, kb_int_bool, kb_int_tuple, kb_int_str, kb_bool_int, kb_bool_bool, kb_bool_tuple, kb_bool_str, kb_NoneType_int, kb_NoneType_bool, kb_NoneType_tuple, kb_NoneType_str, kb_str_int, kb_str_bool, kb_str_tuple, kb_str_str, kb_tuple_int, kb_tuple_bool, kb_tuple_tuple, kb_tuple_str, kb_list_int, kb_list_bool, kb_list_tuple, kb_list_str, kb_dict_int, kb_dict_bool, kb_dict_tuple, kb_dict_str, L0, L1, hds])]
  rw [seqS_nx (ρ1 := [.par d3, .val (.lst L0), .val (.lst L1), .val (fp r2), .val (fp r2), .val (fp mx), .val (.int (2 + x)), .val (.int (100000000000 + y)), .val (.lst ds), .no, .no]) (by
    simp [List.findIdx?_cons, eqG, neG, eqP, toPy, toPys, SeqAt.shaped, PyData.canLay0, PyData.canLayAll0, PyData.depth, PyData.depthAll, PyData.eqv, PyData.eqvAll, fnD, starD, valsOf, seqS, skipS, exps, M.bind, M.ret, M.fail, M.lift, toO, nameO, frzAt, op2, app2, app1, res, ownOf, callD, appN, resN, consO, consD, one, two, setV, setOw, giveUp, parS, augS, asB, truB, truG, andB, orB, notB, andD, orD, notD, ifD, chain3, tupD, lstD, ixG, strOf, seqOf, lisOf, tupOf, atI, ixN, negG, intG, subG, cmpG, addG, isiG, tyName, lenG, absG, intF, max2G, min2G, callS, callR, callM, argS, slotsOf, putB, toR, sVal, sOwn, inTo, setKind, isS, putC, ownM, ownT, appendG, storeS, setLG, gV, gT, gC, gN, walkL, walkT, walkR1, walkR2, loopF, backA, listG, isBG, joinD, sliceD, rangeL, allG, blsOf, partI, sizeLine, kb_int_int, kb_int_bool, kb_int_tuple, kb_int_str, kb_bool_int, kb_bool_bool, kb_bool_tuple, kb_bool_str, kb_NoneType_int, kb_NoneType_bool, kb_NoneType_tuple, kb_NoneType_str, kb_str_int, kb_str_bool, kb_str_tuple, kb_str_str, kb_tuple_int, kb_tuple_bool, kb_tuple_tuple, kb_tuple_str, kb_list_int, kb_list_bool, kb_list_tuple, kb_list_str, kb_dict_int, kb_dict_bool, kb_dict_tuple, kb_dict_str, L0, L1, hds])]
  rw [seqS_nx (ρ1 := [.par d3, .val (.lst L0), .val (.lst L1), .val (fp r2), .val (fp r2), .val (fp mx), .val (.int (2 + x)), .val (.int (100000000000 + y)), .val (.lst ds), .val (.lst [.bl true, .bl (decide (Int.gcd p0.1 p0.2 = 1)), .bl false, .bl false, .bl false, .bl false, .bl false, .bl false, .bl false, .bl false]), .no]) (by
    simp [List.findIdx?_cons, eqG, neG, eqP, toPy, toPys, SeqAt.shaped, PyData.canLay0, PyData.canLayAll0, PyData.depth, PyData.depthAll, PyData.eqv, PyData.eqvAll, fnD, starD, valsOf, seqS, skipS, exps, M.bind, M.ret, M.fail, M.lift, toO, nameO, frzAt, op2, app2, app1, res, ownOf, callD, appN, resN, consO, consD, one, two, setV, setOw, giveUp, parS, augS, asB, truB, truG, andB, orB, notB, andD, orD, notD, ifD, chain3, tupD, lstD, ixG, strOf, seqOf, lisOf, tupOf, atI, ixN, negG, intG, subG, cmpG, addG, isiG, tyName, lenG, absG, intF, max2G, min2G, callS, callR, callM, argS, slotsOf, putB, toR, sVal, sOwn, inTo, setKind, isS, putC, ownM, ownT, appendG, storeS, setLG, gV, gT, gC, gN, walkL, walkT, walkR1, walkR2, loopF, backA, listG, isBG, joinD, sliceD, rangeL, allG, blsOf, partI, sizeLine, kb_int_int, kb_int_bool, kb_int_tuple, kb_int_str, kb_bool_int, kb_bool_bool, kb_bool_tuple, kb_bool_str, kb_NoneType_int, kb_NoneType_bool, kb_NoneType_tuple, kb_NoneType_str, kb_str_int, kb_str_bool, kb_str_tuple, kb_str_str, kb_tuple_int, kb_tuple_bool, kb_tuple_tuple, kb_tuple_str, kb_list_int, kb_list_bool, kb_list_tuple, kb_list_str, kb_dict_int, kb_dict_bool, kb_dict_tuple, kb_dict_str, L0, L1, ip0, mulG])]
  have a := ne (.par d3) (.val (.lst L0)) (.val (.lst L1)) (.val (fp r2)) (.val (fp r2)) (.val (fp mx)) (.val (.int (2 + x))) (.val (.int (100000000000 + y))) (.val (.lst [.bl true, .bl (decide (Int.gcd p0.1 p0.2 = 1)), .bl false, .bl false, .bl false, .bl false, .bl false, .bl false, .bl false, .bl false])) .no rfl
  rw [hmap] at a
  simp [List.findIdx?_cons, eqG, neG, eqP, toPy, toPys, SeqAt.shaped, PyData.canLay0, PyData.canLayAll0, PyData.depth, PyData.depthAll, PyData.eqv, PyData.eqvAll, fnD, starD, valsOf, seqS, skipS, exps, M.bind, M.ret, M.fail, M.lift, toO, nameO, frzAt, op2, app2, app1, res, ownOf, callD, appN, resN, consO, consD, one, two, setV, setOw, giveUp, parS, augS, asB, truB, truG, andB, orB, notB, andD, orD, notD, ifD, chain3, tupD, lstD, ixG, strOf, seqOf, lisOf, tupOf, atI, ixN, negG, intG, subG, cmpG, addG, isiG, tyName, lenG, absG, intF, max2G, min2G, callS, callR, callM, argS, slotsOf, putB, toR, sVal, sOwn, inTo, setKind, isS, putC, ownM, ownT, appendG, storeS, setLG, gV, gT, gC, gN, walkL, walkT, walkR1, walkR2, loopF, backA, listG, isBG, joinD, sliceD, rangeL, allG, blsOf, partI, sizeLine, kb_int_int, kb_int_bool, kb_int_tuple, kb_int_str, kb_bool_int, kb_bool_bool, kb_bool_tuple, kb_bool_str, kb_NoneType_int, kb_NoneType_bool, kb_NoneType_tuple, kb_NoneType_str, kb_str_int, kb_str_bool, kb_str_tuple, kb_str_str, kb_tuple_int, kb_tuple_bool, kb_tuple_tuple, kb_tuple_str, kb_list_int, kb_list_bool, kb_list_tuple, kb_list_str, kb_dict_int, kb_dict_bool, kb_dict_tuple, kb_dict_str, a, is02]
end K01
end Pd

namespace Pd
open PySem PySem.Spec L2
namespace K01
abbrev sg (cs : List Nat) : Str := ⟨cs.toArray⟩
theorem sg_append (a b : List Nat) : sg a ++ sg b = sg (a ++ b) := by
  show Str.append (sg a) (sg b) = _
  unfold Str.append
  simp
theorem sg_join : ∀ cs : List Nat, Str.join (sg []) (cs.map fun c => sg [c]) = sg cs
  | [] => rfl
  | [c] => rfl
  | c :: e :: cs => by
    show sg [c] ++ sg [] ++ Str.join (sg []) ((e :: cs).map fun c => sg [c]) = _
    rw [sg_join (e :: cs), sg_append, sg_append]; rfl
theorem sg_strs : ∀ cs : List Nat, strsOf (cs.map fun c => D.str (sg [c])) = some (cs.map fun c => sg [c])
  | [] => rfl
  | c :: cs => by
    show (strsOf (cs.map fun c => D.str (sg [c]))).map (fun bs => sg [c] :: bs) = _
    rw [sg_strs cs]; rfl
theorem join_ev {cs : List Nat} (h : cs.length ≤ 1000) : joinG (.str (sg [])) (.lst (cs.map fun c => D.str (sg [c]))) = some (.str (sg cs)) := by
  show (strsOf (cs.map fun c => D.str (sg [c]))).bind (fun ys => if (ys.map (·.length)).sum + ys.length * (sg []).length ≤ 16777216 then some (D.str (Txt.join (sg []) ys)) else none) = _
  rw [sg_strs]
  have e : ((cs.map fun c => sg [c]).map (·.length)).sum = cs.length := by
    clear h
    induction cs with
    | nil => rfl
    | cons c cs ih => rw [List.map_cons, List.map_cons, List.sum_cons, ih, List.length_cons]; show 1 + cs.length = _; omega
  show (if ((cs.map fun c => sg [c]).map (·.length)).sum + (cs.map fun c => sg [c]).length * 0 ≤ 16777216 then some (D.str (Txt.join (sg []) (cs.map fun c => sg [c]))) else none) = _
  rw [e, if_pos (by omega), TL.join_eq, sg_join]
def lets : List Nat := ("abcdefghijklmnopqrstuvwxyz" : Str).cps.toList
def placeB (cs : List Nat) : Bool := decide (1 ≤ cs.length) && (decide (cs.length ≤ 8) && cs.all fun c => decide (c ∈ lets))
theorem place_ev {cs : List Nat} (h : cs.length ≤ 1000) : m_is_place [.val (.str (sg cs))] = some (.ret (.val (.bl (placeB cs))), [.val (.str (sg cs))]) := by
  have hl : lenG (.str (sg cs)) = some (.int cs.length) := by
    show (if (sg cs).length ≤ sizeLine then some (D.int ((sg cs).length : Int)) else none) = _
    have e : (sg cs).length = cs.length := by show cs.toArray.size = _; simp
    rw [e, if_pos (Nat.le_trans h (by decide))]
  have hw : walkS (frzAt 0) [.val (.str (sg cs)), .no] = some (.ok (cs.map fun c => D.str (sg [c])), [.val (.str (sg cs)), .no]) := by
    unfold walkS
    rw [bind_ev (a := .str (sg cs)) (ρ1 := [.val (.str (sg cs)), .no]) rfl]
    show M.lift (some (signs (sg cs))) _ = _
    unfold M.lift signs
    simp
  have hc := compD_pure (fi := walkS (frzAt 0)) (gs := s1_is_place) (ft := M.ret true) (fe := e2_is_place) (vs := [1]) (ρ := [.val (.str (sg cs)), .no]) (ρ1 := [.val (.str (sg cs)), .no]) (ds := cs.map fun c => D.str (sg [c])) (fun _ => true) (fun x => match signOf x with | some c => .bl (decide (c ∈ lets)) | none => .non) hw rfl (by rw [List.length_map]; exact Nat.le_trans h (by decide)) fun x m => by
    obtain ⟨c, _, rfl⟩ := List.mem_map.mp m
    refine ⟨[.val (.str (sg cs)), .val (.str (sg [c]))], by simp [List.findIdx?_cons, eqG, neG, eqP, toPy, toPys, SeqAt.shaped, PyData.canLay0, PyData.canLayAll0, PyData.depth, PyData.depthAll, PyData.eqv, PyData.eqvAll, fnD, starD, valsOf, seqS, skipS, exps, M.bind, M.ret, M.fail, M.lift, toO, nameO, frzAt, op2, app2, app1, res, ownOf, callD, appN, resN, consO, consD, one, two, setV, setOw, giveUp, parS, augS, asB, truB, truG, andB, orB, notB, andD, orD, notD, ifD, chain3, tupD, lstD, ixG, strOf, seqOf, lisOf, tupOf, atI, ixN, negG, intG, subG, cmpG, addG, isiG, tyName, lenG, absG, intF, max2G, min2G, callS, callR, callM, argS, slotsOf, putB, toR, sVal, sOwn, inTo, setKind, isS, putC, ownM, ownT, appendG, storeS, setLG, gV, gT, gC, gN, walkL, walkT, walkR1, walkR2, loopF, backA, listG, isBG, joinD, sliceD, rangeL, allG, blsOf, partI, sizeLine, kb_int_int, kb_int_bool, kb_int_tuple, kb_int_str, kb_bool_int, kb_bool_bool, kb_bool_tuple, kb_bool_str, kb_NoneType_int, kb_NoneType_bool, kb_NoneType_tuple, kb_NoneType_str, kb_str_int, kb_str_bool, kb_str_tuple, kb_str_str, kb_tuple_int, kb_tuple_bool, kb_tuple_tuple, kb_tuple_str, kb_list_int, kb_list_bool, kb_list_tuple, kb_list_str, kb_dict_int, kb_dict_bool, kb_dict_tuple, kb_dict_str, s1_is_place, wipeE], _, rfl, fun _ => ⟨[.val (.str (sg cs)), .val (.str (sg [c]))], ?_, by simp [List.findIdx?_cons, eqG, neG, eqP, toPy, toPys, SeqAt.shaped, PyData.canLay0, PyData.canLayAll0, PyData.depth, PyData.depthAll, PyData.eqv, PyData.eqvAll, fnD, starD, valsOf, seqS, skipS, exps, M.bind, M.ret, M.fail, M.lift, toO, nameO, frzAt, op2, app2, app1, res, ownOf, callD, appN, resN, consO, consD, one, two, setV, setOw, giveUp, parS, augS, asB, truB, truG, andB, orB, notB, andD, orD, notD, ifD, chain3, tupD, lstD, ixG, strOf, seqOf, lisOf, tupOf, atI, ixN, negG, intG, subG, cmpG, addG, isiG, tyName, lenG, absG, intF, max2G, min2G, callS, callR, callM, argS, slotsOf, putB, toR, sVal, sOwn, inTo, setKind, isS, putC, ownM, ownT, appendG, storeS, setLG, gV, gT, gC, gN, walkL, walkT, walkR1, walkR2, loopF, backA, listG, isBG, joinD, sliceD, rangeL, allG, blsOf, partI, sizeLine, kb_int_int, kb_int_bool, kb_int_tuple, kb_int_str, kb_bool_int, kb_bool_bool, kb_bool_tuple, kb_bool_str, kb_NoneType_int, kb_NoneType_bool, kb_NoneType_tuple, kb_NoneType_str, kb_str_int, kb_str_bool, kb_str_tuple, kb_str_str, kb_tuple_int, kb_tuple_bool, kb_tuple_tuple, kb_tuple_str, kb_list_int, kb_list_bool, kb_list_tuple, kb_list_str, kb_dict_int, kb_dict_bool, kb_dict_tuple, kb_dict_str, wipeE]⟩, fun c => by cases c⟩
    have hi : inG (.str (sg [c])) (.str "abcdefghijklmnopqrstuvwxyz") = some (.bl (decide (c ∈ lets))) := rfl
    unfold e2_is_place
    unfold op2
    rw [bind_ev (a := .v (.str (sg [c]))) (ρ1 := [.val (.str (sg cs)), .val (.str (sg [c]))]) rfl, bind_ev (a := .v (.str "abcdefghijklmnopqrstuvwxyz")) (ρ1 := [.val (.str (sg cs)), .val (.str (sg [c]))]) rfl]
    show ((inG (.str (sg [c])) (.str "abcdefghijklmnopqrstuvwxyz")).bind fun d => some (R.ok d, _)) = _
    rw [hi]; rfl
  have hb : blsOf (((cs.map fun c => D.str (sg [c])).filter fun _ => true).map fun x => match signOf x with | some c => D.bl (decide (c ∈ lets)) | none => .non) = some (cs.map fun c => decide (c ∈ lets)) := by
    rw [List.filter_eq_self.mpr fun _ _ => rfl, List.map_map]
    exact blsOf_map (f := fun c => decide (c ∈ lets)) cs
  have hc' : l3_is_place [.val (.str (sg cs)), .no] = _ := hc
  clear hc hw
  generalize ((cs.map fun c => D.str (sg [c])).filter fun _ => true).map (fun x => match signOf x with | some c => D.bl (decide (c ∈ lets)) | none => .non) = T at *
  have ha : allG (.lst T) = some (.bl (cs.all fun c => decide (c ∈ lets))) := by
    show (blsOf T).map (fun bs => D.bl (bs.all id)) = _
    rw [hb]
    show some (D.bl ((cs.map fun c => decide (c ∈ lets)).all id)) = _
    rw [List.all_map]; rfl
  generalize D.lst T = T2 at *
  unfold placeB
  have ty : tyName (.str (sg cs)) = some "str" := rfl
  generalize D.str (sg cs) = Z at *
  by_cases c1 : 1 ≤ cs.length
  · by_cases c2 : cs.length ≤ 8
    · have d1 : (1 : Int) ≤ (cs.length : Int) := by omega
      have d2 : (cs.length : Int) ≤ 8 := by omega
      simp [m_is_place, g_is_place, fnD, exps, andD, M.bind, M.ret, app1, nameO, res, isiG, ty, kb_str_str, chain3, toO, callD, consO, appN, resN, Pd.one, hl, app2, cmpG, c1, c2, d1, d2, hc', ha, backA]
    · have d1 : (1 : Int) ≤ (cs.length : Int) := by omega
      have d2 : ¬ (cs.length : Int) ≤ 8 := by omega
      simp [m_is_place, g_is_place, fnD, exps, andD, M.bind, M.ret, app1, nameO, res, isiG, ty, kb_str_str, chain3, toO, callD, consO, appN, resN, Pd.one, hl, app2, cmpG, c1, c2, d1, d2, hc', ha, backA]
  · have d1 : ¬ (1 : Int) ≤ (cs.length : Int) := by omega
    simp [m_is_place, g_is_place, fnD, exps, andD, M.bind, M.ret, app1, nameO, res, isiG, ty, kb_str_str, chain3, toO, callD, consO, appN, resN, Pd.one, hl, app2, cmpG, c1, d1, hc', ha, backA]
theorem place_tup {xs : List D} : m_is_place [.val (.tup xs)] = some (.ret (.val (.bl false)), [.val (.tup xs)]) := by simp [List.findIdx?_cons, eqG, neG, eqP, toPy, toPys, SeqAt.shaped, PyData.canLay0, PyData.canLayAll0, PyData.depth, PyData.depthAll, PyData.eqv, PyData.eqvAll, fnD, starD, valsOf, seqS, skipS, exps, M.bind, M.ret, M.fail, M.lift, toO, nameO, frzAt, op2, app2, app1, res, ownOf, callD, appN, resN, consO, consD, one, two, setV, setOw, giveUp, parS, augS, asB, truB, truG, andB, orB, notB, andD, orD, notD, ifD, chain3, tupD, lstD, ixG, strOf, seqOf, lisOf, tupOf, atI, ixN, negG, intG, subG, cmpG, addG, isiG, tyName, lenG, absG, intF, max2G, min2G, callS, callR, callM, argS, slotsOf, putB, toR, sVal, sOwn, inTo, setKind, isS, putC, ownM, ownT, appendG, storeS, setLG, gV, gT, gC, gN, walkL, walkT, walkR1, walkR2, loopF, backA, listG, isBG, joinD, sliceD, rangeL, allG, blsOf, partI, sizeLine, kb_int_int, kb_int_bool, kb_int_tuple, kb_int_str, kb_bool_int, kb_bool_bool, kb_bool_tuple, kb_bool_str, kb_NoneType_int, kb_NoneType_bool, kb_NoneType_tuple, kb_NoneType_str, kb_str_int, kb_str_bool, kb_str_tuple, kb_str_str, kb_tuple_int, kb_tuple_bool, kb_tuple_tuple, kb_tuple_str, kb_list_int, kb_list_bool, kb_list_tuple, kb_list_str, kb_dict_int, kb_dict_bool, kb_dict_tuple, kb_dict_str, m_is_place, g_is_place]
theorem place_lst {xs : List D} : m_is_place [.val (.lst xs)] = some (.ret (.val (.bl false)), [.val (.lst xs)]) := by simp [List.findIdx?_cons, eqG, neG, eqP, toPy, toPys, SeqAt.shaped, PyData.canLay0, PyData.canLayAll0, PyData.depth, PyData.depthAll, PyData.eqv, PyData.eqvAll, fnD, starD, valsOf, seqS, skipS, exps, M.bind, M.ret, M.fail, M.lift, toO, nameO, frzAt, op2, app2, app1, res, ownOf, callD, appN, resN, consO, consD, one, two, setV, setOw, giveUp, parS, augS, asB, truB, truG, andB, orB, notB, andD, orD, notD, ifD, chain3, tupD, lstD, ixG, strOf, seqOf, lisOf, tupOf, atI, ixN, negG, intG, subG, cmpG, addG, isiG, tyName, lenG, absG, intF, max2G, min2G, callS, callR, callM, argS, slotsOf, putB, toR, sVal, sOwn, inTo, setKind, isS, putC, ownM, ownT, appendG, storeS, setLG, gV, gT, gC, gN, walkL, walkT, walkR1, walkR2, loopF, backA, listG, isBG, joinD, sliceD, rangeL, allG, blsOf, partI, sizeLine, kb_int_int, kb_int_bool, kb_int_tuple, kb_int_str, kb_bool_int, kb_bool_bool, kb_bool_tuple, kb_bool_str, kb_NoneType_int, kb_NoneType_bool, kb_NoneType_tuple, kb_NoneType_str, kb_str_int, kb_str_bool, kb_str_tuple, kb_str_str, kb_tuple_int, kb_tuple_bool, kb_tuple_tuple, kb_tuple_str, kb_list_int, kb_list_bool, kb_list_tuple, kb_list_str, kb_dict_int, kb_dict_bool, kb_dict_tuple, kb_dict_str, m_is_place, g_is_place]
theorem place_dk : m_is_place [.val (.dk [])] = some (.ret (.val (.bl false)), [.val (.dk [])]) := by simp [List.findIdx?_cons, eqG, neG, eqP, toPy, toPys, SeqAt.shaped, PyData.canLay0, PyData.canLayAll0, PyData.depth, PyData.depthAll, PyData.eqv, PyData.eqvAll, fnD, starD, valsOf, seqS, skipS, exps, M.bind, M.ret, M.fail, M.lift, toO, nameO, frzAt, op2, app2, app1, res, ownOf, callD, appN, resN, consO, consD, one, two, setV, setOw, giveUp, parS, augS, asB, truB, truG, andB, orB, notB, andD, orD, notD, ifD, chain3, tupD, lstD, ixG, strOf, seqOf, lisOf, tupOf, atI, ixN, negG, intG, subG, cmpG, addG, isiG, tyName, lenG, absG, intF, max2G, min2G, callS, callR, callM, argS, slotsOf, putB, toR, sVal, sOwn, inTo, setKind, isS, putC, ownM, ownT, appendG, storeS, setLG, gV, gT, gC, gN, walkL, walkT, walkR1, walkR2, loopF, backA, listG, isBG, joinD, sliceD, rangeL, allG, blsOf, partI, sizeLine, kb_int_int, kb_int_bool, kb_int_tuple, kb_int_str, kb_bool_int, kb_bool_bool, kb_bool_tuple, kb_bool_str, kb_NoneType_int, kb_NoneType_bool, kb_NoneType_tuple, kb_NoneType_str, kb_str_int, kb_str_bool, kb_str_tuple, kb_str_str, kb_tuple_int, kb_tuple_bool, kb_tuple_tuple, kb_tuple_str, kb_list_int, kb_list_bool, kb_list_tuple, kb_list_str, kb_dict_int, kb_dict_bool, kb_dict_tuple, kb_dict_str, m_is_place, g_is_place]
theorem place_non : m_is_place [.val .non] = some (.ret (.val (.bl false)), [.val .non]) := by simp [List.findIdx?_cons, eqG, neG, eqP, toPy, toPys, SeqAt.shaped, PyData.canLay0, PyData.canLayAll0, PyData.depth, PyData.depthAll, PyData.eqv, PyData.eqvAll, fnD, starD, valsOf, seqS, skipS, exps, M.bind, M.ret, M.fail, M.lift, toO, nameO, frzAt, op2, app2, app1, res, ownOf, callD, appN, resN, consO, consD, one, two, setV, setOw, giveUp, parS, augS, asB, truB, truG, andB, orB, notB, andD, orD, notD, ifD, chain3, tupD, lstD, ixG, strOf, seqOf, lisOf, tupOf, atI, ixN, negG, intG, subG, cmpG, addG, isiG, tyName, lenG, absG, intF, max2G, min2G, callS, callR, callM, argS, slotsOf, putB, toR, sVal, sOwn, inTo, setKind, isS, putC, ownM, ownT, appendG, storeS, setLG, gV, gT, gC, gN, walkL, walkT, walkR1, walkR2, loopF, backA, listG, isBG, joinD, sliceD, rangeL, allG, blsOf, partI, sizeLine, kb_int_int, kb_int_bool, kb_int_tuple, kb_int_str, kb_bool_int, kb_bool_bool, kb_bool_tuple, kb_bool_str, kb_NoneType_int, kb_NoneType_bool, kb_NoneType_tuple, kb_NoneType_str, kb_str_int, kb_str_bool, kb_str_tuple, kb_str_str, kb_tuple_int, kb_tuple_bool, kb_tuple_tuple, kb_tuple_str, kb_list_int, kb_list_bool, kb_list_tuple, kb_list_str, kb_dict_int, kb_dict_bool, kb_dict_tuple, kb_dict_str, m_is_place, g_is_place]
theorem place_int {i : Int} : m_is_place [.val (.int i)] = some (.ret (.val (.bl false)), [.val (.int i)]) := by simp [List.findIdx?_cons, eqG, neG, eqP, toPy, toPys, SeqAt.shaped, PyData.canLay0, PyData.canLayAll0, PyData.depth, PyData.depthAll, PyData.eqv, PyData.eqvAll, fnD, starD, valsOf, seqS, skipS, exps, M.bind, M.ret, M.fail, M.lift, toO, nameO, frzAt, op2, app2, app1, res, ownOf, callD, appN, resN, consO, consD, one, two, setV, setOw, giveUp, parS, augS, asB, truB, truG, andB, orB, notB, andD, orD, notD, ifD, chain3, tupD, lstD, ixG, strOf, seqOf, lisOf, tupOf, atI, ixN, negG, intG, subG, cmpG, addG, isiG, tyName, lenG, absG, intF, max2G, min2G, callS, callR, callM, argS, slotsOf, putB, toR, sVal, sOwn, inTo, setKind, isS, putC, ownM, ownT, appendG, storeS, setLG, gV, gT, gC, gN, walkL, walkT, walkR1, walkR2, loopF, backA, listG, isBG, joinD, sliceD, rangeL, allG, blsOf, partI, sizeLine, kb_int_int, kb_int_bool, kb_int_tuple, kb_int_str, kb_bool_int, kb_bool_bool, kb_bool_tuple, kb_bool_str, kb_NoneType_int, kb_NoneType_bool, kb_NoneType_tuple, kb_NoneType_str, kb_str_int, kb_str_bool, kb_str_tuple, kb_str_str, kb_tuple_int, kb_tuple_bool, kb_tuple_tuple, kb_tuple_str, kb_list_int, kb_list_bool, kb_list_tuple, kb_list_str, kb_dict_int, kb_dict_bool, kb_dict_tuple, kb_dict_str, m_is_place, g_is_place]
theorem place_bl {i : Bool} : m_is_place [.val (.bl i)] = some (.ret (.val (.bl false)), [.val (.bl i)]) := by simp [List.findIdx?_cons, eqG, neG, eqP, toPy, toPys, SeqAt.shaped, PyData.canLay0, PyData.canLayAll0, PyData.depth, PyData.depthAll, PyData.eqv, PyData.eqvAll, fnD, starD, valsOf, seqS, skipS, exps, M.bind, M.ret, M.fail, M.lift, toO, nameO, frzAt, op2, app2, app1, res, ownOf, callD, appN, resN, consO, consD, one, two, setV, setOw, giveUp, parS, augS, asB, truB, truG, andB, orB, notB, andD, orD, notD, ifD, chain3, tupD, lstD, ixG, strOf, seqOf, lisOf, tupOf, atI, ixN, negG, intG, subG, cmpG, addG, isiG, tyName, lenG, absG, intF, max2G, min2G, callS, callR, callM, argS, slotsOf, putB, toR, sVal, sOwn, inTo, setKind, isS, putC, ownM, ownT, appendG, storeS, setLG, gV, gT, gC, gN, walkL, walkT, walkR1, walkR2, loopF, backA, listG, isBG, joinD, sliceD, rangeL, allG, blsOf, partI, sizeLine, kb_int_int, kb_int_bool, kb_int_tuple, kb_int_str, kb_bool_int, kb_bool_bool, kb_bool_tuple, kb_bool_str, kb_NoneType_int, kb_NoneType_bool, kb_NoneType_tuple, kb_NoneType_str, kb_str_int, kb_str_bool, kb_str_tuple, kb_str_str, kb_tuple_int, kb_tuple_bool, kb_tuple_tuple, kb_tuple_str, kb_list_int, kb_list_bool, kb_list_tuple, kb_list_str, kb_dict_int, kb_dict_bool, kb_dict_tuple, kb_dict_str, m_is_place, g_is_place]
theorem word_ev {d : D} (h : Dc 20 d) : ∃ (cs : List Nat) (d' : D), 1 ≤ cs.length ∧ cs.length ≤ 8 ∧ (∀ c ∈ cs, c ∈ lets) ∧ l6__law_places_right [.par d, .no, .no, .no, .no] = some (.ok (.lst (cs.map fun c => D.str (sg [c]))), [.par d', .no, .no, .no, .no]) := by
  obtain ⟨x, d1, x0, x1, hd1, e1⟩ := roll_ev (n := 19) (t := 8) h (by decide) (by decide)
  have hn : (1 + x).toNat = 1 + x.toNat := by omega
  have hw : walkR1 (consO (toO (op2 addG (toO (M.ret (.int 1))) (toO (M.bind (callS m__law_roll (consO (nameO 0) (consO (toO (M.ret (.int 8))) (M.ret [])))) sVal)))) (M.ret [])) [.par d, .no, .no, .no, .no] = some (.ok (rngI 0 (1 + x).toNat), [.par d1, .no, .no, .no, .no]) := by
    simp [List.findIdx?_cons, eqG, neG, eqP, toPy, toPys, SeqAt.shaped, PyData.canLay0, PyData.canLayAll0, PyData.depth, PyData.depthAll, PyData.eqv, PyData.eqvAll, fnD, starD, valsOf, seqS, skipS, exps, M.bind, M.ret, M.fail, M.lift, toO, nameO, frzAt, op2, app2, app1, res, ownOf, callD, appN, resN, consO, consD, one, two, setV, setOw, giveUp, parS, augS, asB, truB, truG, andB, orB, notB, andD, orD, notD, ifD, chain3, tupD, lstD, ixG, strOf, seqOf, lisOf, tupOf, atI, ixN, negG, intG, subG, cmpG, addG, isiG, tyName, lenG, absG, intF, max2G, min2G, callS, callR, callM, argS, slotsOf, putB, toR, sVal, sOwn, inTo, setKind, isS, putC, ownM, ownT, appendG, storeS, setLG, gV, gT, gC, gN, walkL, walkT, walkR1, walkR2, loopF, backA, listG, isBG, joinD, sliceD, rangeL, allG, blsOf, partI, sizeLine, kb_int_int, kb_int_bool, kb_int_tuple, kb_int_str, kb_bool_int, kb_bool_bool, kb_bool_tuple, kb_bool_str, kb_NoneType_int, kb_NoneType_bool, kb_NoneType_tuple, kb_NoneType_str, kb_str_int, kb_str_bool, kb_str_tuple, kb_str_str, kb_tuple_int, kb_tuple_bool, kb_tuple_tuple, kb_tuple_str, kb_list_int, kb_list_bool, kb_list_tuple, kb_list_str, kb_dict_int, kb_dict_bool, kb_dict_tuple, kb_dict_str, e1]
    try omega
  have hlen : (rngI 0 (1 + x).toNat).length = 1 + x.toNat := by unfold rngI; rw [List.length_map, List.length_range, hn]
  have hsz : 1 + x.toNat ≤ sizeLine := Nat.le_trans (by omega : 1 + x.toNat ≤ 100) (by decide)
  obtain ⟨xs, ρ', e2, e3, d', s, rfl, hd⟩ := compF_rel (gs := s4__law_places_right) (ft := M.ret true) (fe := e5__law_places_right) (vs := [3]) (fun n ρ => ∃ d' s, ρ = [.par d', .no, .no, s, .no] ∧ Dc n d') (fun _ xs => ∃ c, xs = [D.str (sg [c])] ∧ c ∈ lets) (rngI 0 (1 + x).toNat) [] [.par d1, .no, .no, .no, .no] ⟨d1, .no, rfl, hd1.le (by rw [hlen]; omega)⟩ (by rw [hlen, List.length_nil, Nat.zero_add]; exact hsz) (by
    rintro y _ n ρ ⟨d2, s, rfl, hd2⟩
    obtain ⟨z, d3, hz, hd3, e⟩ := oneof_ev (n := n) (ds := [.str (sg [97]), .str (sg [98]), .str (sg [122])]) hd2 (by decide) (by decide)
    obtain ⟨c, rfl, hc⟩ : ∃ c, z = .str (sg [c]) ∧ c ∈ lets := by
      simp only [List.mem_cons, List.not_mem_nil, or_false] at hz
      rcases hz with rfl | rfl | rfl
      · exact ⟨_, rfl, by decide⟩
      · exact ⟨_, rfl, by decide⟩
      · exact ⟨_, rfl, by decide⟩
    have e' : m__law_one_of [.par d2, .val (.lst [.str "a", .str "b", .str "z"])] = some (.ret (.val (.str (sg [c]))), [.par d3, .val (.lst [.str "a", .str "b", .str "z"])]) := e
    refine ⟨[.par d2, .no, .no, .val y, .no], by simp [List.findIdx?_cons, eqG, neG, eqP, toPy, toPys, SeqAt.shaped, PyData.canLay0, PyData.canLayAll0, PyData.depth, PyData.depthAll, PyData.eqv, PyData.eqvAll, fnD, starD, valsOf, seqS, skipS, exps, M.bind, M.ret, M.fail, M.lift, toO, nameO, frzAt, op2, app2, app1, res, ownOf, callD, appN, resN, consO, consD, one, two, setV, setOw, giveUp, parS, augS, asB, truB, truG, andB, orB, notB, andD, orD, notD, ifD, chain3, tupD, lstD, ixG, strOf, seqOf, lisOf, tupOf, atI, ixN, negG, intG, subG, cmpG, addG, isiG, tyName, lenG, absG, intF, max2G, min2G, callS, callR, callM, argS, slotsOf, putB, toR, sVal, sOwn, inTo, setKind, isS, putC, ownM, ownT, appendG, storeS, setLG, gV, gT, gC, gN, walkL, walkT, walkR1, walkR2, loopF, backA, listG, isBG, joinD, sliceD, rangeL, allG, blsOf, partI, sizeLine, kb_int_int, kb_int_bool, kb_int_tuple, kb_int_str, kb_bool_int, kb_bool_bool, kb_bool_tuple, kb_bool_str, kb_NoneType_int, kb_NoneType_bool, kb_NoneType_tuple, kb_NoneType_str, kb_str_int, kb_str_bool, kb_str_tuple, kb_str_str, kb_tuple_int, kb_tuple_bool, kb_tuple_tuple, kb_tuple_str, kb_list_int, kb_list_bool, kb_list_tuple, kb_list_str, kb_dict_int, kb_dict_bool, kb_dict_tuple, kb_dict_str, s4__law_places_right, wipeE], .inl ⟨_, .str (sg [c]), [.par d3, .no, .no, .val y, .no], rfl, ?_, ⟨c, rfl, hc⟩, d3, _, rfl, hd3⟩⟩
    simp [List.findIdx?_cons, eqG, neG, eqP, toPy, toPys, SeqAt.shaped, PyData.canLay0, PyData.canLayAll0, PyData.depth, PyData.depthAll, PyData.eqv, PyData.eqvAll, fnD, starD, valsOf, seqS, skipS, exps, M.bind, M.ret, M.fail, M.lift, toO, nameO, frzAt, op2, app2, app1, res, ownOf, callD, appN, resN, consO, consD, one, two, setV, setOw, giveUp, parS, augS, asB, truB, truG, andB, orB, notB, andD, orD, notD, ifD, chain3, tupD, lstD, ixG, strOf, seqOf, lisOf, tupOf, atI, ixN, negG, intG, subG, cmpG, addG, isiG, tyName, lenG, absG, intF, max2G, min2G, callS, callR, callM, argS, slotsOf, putB, toR, sVal, sOwn, inTo, setKind, isS, putC, ownM, ownT, appendG, storeS, setLG, gV, gT, gC, gN, walkL, walkT, walkR1, walkR2, loopF, backA, listG, isBG, joinD, sliceD, rangeL, allG, blsOf, partI, sizeLine, kb_int_int, kb_int_bool, kb_int_tuple, kb_int_str, kb_bool_int, kb_bool_bool, kb_bool_tuple, kb_bool_str, kb_NoneType_int, kb_NoneType_bool, kb_NoneType_tuple, kb_NoneType_str, kb_str_int, kb_str_bool, kb_str_tuple, kb_str_str, kb_tuple_int, kb_tuple_bool, kb_tuple_tuple, kb_tuple_str, kb_list_int, kb_list_bool, kb_list_tuple, kb_list_str, kb_dict_int, kb_dict_bool, kb_dict_tuple, kb_dict_str, e5__law_places_right, e'])
  have hx : ∃ cs : List Nat, xs.flatten = (cs.map fun c => D.str (sg [c])) ∧ cs.length = (rngI 0 (1 + x).toNat).length ∧ ∀ c ∈ cs, c ∈ lets := by
    clear e2 hlen hw
    generalize rngI 0 (1 + x).toNat = l at e3
    induction e3 with
    | nil => exact ⟨[], rfl, rfl, by simp⟩
    | cons h1 _ ih =>
      obtain ⟨c, rfl, hc⟩ := h1
      obtain ⟨cs, i1, i2, i3⟩ := ih
      exact ⟨c :: cs, by rw [List.flatten_cons, i1]; rfl, by simp [i2], fun e m => by
        rcases List.mem_cons.mp m with rfl | m
        · exact hc
        · exact i3 _ m⟩
  obtain ⟨cs, i1, i2, i3⟩ := hx
  rw [hlen] at i2
  refine ⟨cs, d', by omega, by omega, i3, ?_⟩
  unfold l6__law_places_right
  rw [compD_ev hw rfl e2, List.nil_append, i1]
  rfl
def plB : D → Bool
  | .str z => placeB z.cps.toList
  | _ => false
theorem places_ev {ds : List D} (hl : ds.length ≤ 100) (h : ∀ x ∈ ds, m_is_place [.val x] = some (.ret (.val (.bl (plB x))), [.val x])) {s0 s1 s3 : Sl} :
    l3__law_places_right [s0, s1, .val (.lst ds), s3, .no] = some (.ok (.lst (ds.map fun x => .bl (plB x))), [s0, s1, .val (.lst ds), s3, .no]) := by
  have := compD_pure (fi := walkL (frzAt 2)) (gs := s1__law_places_right) (ft := M.ret true) (fe := e2__law_places_right) (vs := [4]) (ρ := [s0, s1, .val (.lst ds), s3, .no]) (ρ1 := [s0, s1, .val (.lst ds), s3, .no])
    (ds := ds) (fun _ => true) (fun x => .bl (plB x)) (by simp [List.findIdx?_cons, eqG, neG, eqP, toPy, toPys, SeqAt.shaped, PyData.canLay0, PyData.canLayAll0, PyData.depth, PyData.depthAll, PyData.eqv, PyData.eqvAll, fnD, starD, valsOf, seqS, skipS, exps, M.bind, M.ret, M.fail, M.lift, toO, nameO, frzAt, op2, app2, app1, res, ownOf, callD, appN, resN, consO, consD, one, two, setV, setOw, giveUp, parS, augS, asB, truB, truG, andB, orB, notB, andD, orD, notD, ifD, chain3, tupD, lstD, ixG, strOf, seqOf, lisOf, tupOf, atI, ixN, negG, intG, subG, cmpG, addG, isiG, tyName, lenG, absG, intF, max2G, min2G, callS, callR, callM, argS, slotsOf, putB, toR, sVal, sOwn, inTo, setKind, isS, putC, ownM, ownT, appendG, storeS, setLG, gV, gT, gC, gN, walkL, walkT, walkR1, walkR2, loopF, backA, listG, isBG, joinD, sliceD, rangeL, allG, blsOf, partI, sizeLine, kb_int_int, kb_int_bool, kb_int_tuple, kb_int_str, kb_bool_int, kb_bool_bool, kb_bool_tuple, kb_bool_str, kb_NoneType_int, kb_NoneType_bool, kb_NoneType_tuple, kb_NoneType_str, kb_str_int, kb_str_bool, kb_str_tuple, kb_str_str, kb_tuple_int, kb_tuple_bool, kb_tuple_tuple, kb_tuple_str, kb_list_int, kb_list_bool, kb_list_tuple, kb_list_str, kb_dict_int, kb_dict_bool, kb_dict_tuple, kb_dict_str]) rfl (Nat.le_trans hl (by decide)) fun x mm => by
      have e := h x mm
      refine ⟨[s0, s1, .val (.lst ds), s3, .val x], by simp [List.findIdx?_cons, eqG, neG, eqP, toPy, toPys, SeqAt.shaped, PyData.canLay0, PyData.canLayAll0, PyData.depth, PyData.depthAll, PyData.eqv, PyData.eqvAll, fnD, starD, valsOf, seqS, skipS, exps, M.bind, M.ret, M.fail, M.lift, toO, nameO, frzAt, op2, app2, app1, res, ownOf, callD, appN, resN, consO, consD, one, two, setV, setOw, giveUp, parS, augS, asB, truB, truG, andB, orB, notB, andD, orD, notD, ifD, chain3, tupD, lstD, ixG, strOf, seqOf, lisOf, tupOf, atI, ixN, negG, intG, subG, cmpG, addG, isiG, tyName, lenG, absG, intF, max2G, min2G, callS, callR, callM, argS, slotsOf, putB, toR, sVal, sOwn, inTo, setKind, isS, putC, ownM, ownT, appendG, storeS, setLG, gV, gT, gC, gN, walkL, walkT, walkR1, walkR2, loopF, backA, listG, isBG, joinD, sliceD, rangeL, allG, blsOf, partI, sizeLine, kb_int_int, kb_int_bool, kb_int_tuple, kb_int_str, kb_bool_int, kb_bool_bool, kb_bool_tuple, kb_bool_str, kb_NoneType_int, kb_NoneType_bool, kb_NoneType_tuple, kb_NoneType_str, kb_str_int, kb_str_bool, kb_str_tuple, kb_str_str, kb_tuple_int, kb_tuple_bool, kb_tuple_tuple, kb_tuple_str, kb_list_int, kb_list_bool, kb_list_tuple, kb_list_str, kb_dict_int, kb_dict_bool, kb_dict_tuple, kb_dict_str, s1__law_places_right, wipeE], _, rfl, fun _ => ⟨[s0, s1, .val (.lst ds), s3, .val x], by simp [List.findIdx?_cons, eqG, neG, eqP, toPy, toPys, SeqAt.shaped, PyData.canLay0, PyData.canLayAll0, PyData.depth, PyData.depthAll, PyData.eqv, PyData.eqvAll, fnD, starD, valsOf, seqS, skipS, exps, M.bind, M.ret, M.fail, M.lift, toO, nameO, frzAt, op2, app2, app1, res, ownOf, callD, appN, resN, consO, consD, one, two, setV, setOw, giveUp, parS, augS, asB, truB, truG, andB, orB, notB, andD, orD, notD, ifD, chain3, tupD, lstD, ixG, strOf, seqOf, lisOf, tupOf, atI, ixN, negG, intG, subG, cmpG, addG, isiG, tyName, lenG, absG, intF, max2G, min2G, callS, callR, callM, argS, slotsOf, putB, toR, sVal, sOwn, inTo, setKind, isS, putC, ownM, ownT, appendG, storeS, setLG, gV, gT, gC, gN, walkL, walkT, walkR1, walkR2, loopF, backA, listG, isBG, joinD, sliceD, rangeL, allG, blsOf, partI, sizeLine, kb_int_int, kb_int_bool, kb_int_tuple, kb_int_str, kb_bool_int, kb_bool_bool, kb_bool_tuple, kb_bool_str, kb_NoneType_int, kb_NoneType_bool, kb_NoneType_tuple, kb_NoneType_str, kb_str_int, kb_str_bool, kb_str_tuple, kb_str_str, kb_tuple_int, kb_tuple_bool, kb_tuple_tuple, kb_tuple_str, kb_list_int, kb_list_bool, kb_list_tuple, kb_list_str, kb_dict_int, kb_dict_bool, kb_dict_tuple, kb_dict_str, e2__law_places_right, e], by simp [List.findIdx?_cons, eqG, neG, eqP, toPy, toPys, SeqAt.shaped, PyData.canLay0, PyData.canLayAll0, PyData.depth, PyData.depthAll, PyData.eqv, PyData.eqvAll, fnD, starD, valsOf, seqS, skipS, exps, M.bind, M.ret, M.fail, M.lift, toO, nameO, frzAt, op2, app2, app1, res, ownOf, callD, appN, resN, consO, consD, one, two, setV, setOw, giveUp, parS, augS, asB, truB, truG, andB, orB, notB, andD, orD, notD, ifD, chain3, tupD, lstD, ixG, strOf, seqOf, lisOf, tupOf, atI, ixN, negG, intG, subG, cmpG, addG, isiG, tyName, lenG, absG, intF, max2G, min2G, callS, callR, callM, argS, slotsOf, putB, toR, sVal, sOwn, inTo, setKind, isS, putC, ownM, ownT, appendG, storeS, setLG, gV, gT, gC, gN, walkL, walkT, walkR1, walkR2, loopF, backA, listG, isBG, joinD, sliceD, rangeL, allG, blsOf, partI, sizeLine, kb_int_int, kb_int_bool, kb_int_tuple, kb_int_str, kb_bool_int, kb_bool_bool, kb_bool_tuple, kb_bool_str, kb_NoneType_int, kb_NoneType_bool, kb_NoneType_tuple, kb_NoneType_str, kb_str_int, kb_str_bool, kb_str_tuple, kb_str_str, kb_tuple_int, kb_tuple_bool, kb_tuple_tuple, kb_tuple_str, kb_list_int, kb_list_bool, kb_list_tuple, kb_list_str, kb_dict_int, kb_dict_bool, kb_dict_tuple, kb_dict_str, wipeE]⟩, fun c => by cases c⟩
  unfold l3__law_places_right
  rw [this, List.filter_eq_self.mpr fun _ _ => rfl]
theorem addS {a b : List Nat} (h : a.length + b.length ≤ 1000) : addG (.str (sg a)) (.str (sg b)) = some (.str (sg (a ++ b))) := by
  show (if (sg a).length + (sg b).length ≤ sizeLine then some (D.str (sg a ++ sg b)) else none) = _
  have e : ∀ l : List Nat, (sg l).length = l.length := fun l => by show l.toArray.size = _; simp
  rw [e, e, if_pos (Nat.le_trans h (by decide)), sg_append]
theorem placesright_ev {d : D} (h : Dc 20 d) : ∃ d', m__law_places_right [.par d] = some (.ret (.val (.bl true)), [.par d']) := by
  obtain ⟨cs, d', c0, c1, hc, e⟩ := word_ev h
  have hj := join_ev (cs := cs) (by omega)
  have pos : placeB cs = true := by
    unfold placeB
    rw [decide_eq_true c0, decide_eq_true c1, Bool.true_and, Bool.true_and]
    exact List.all_eq_true.mpr fun c m => decide_eq_true (hc c m)
  have bad : ∀ b : Nat, b ∉ lets → placeB (cs ++ [b]) = false := fun b hb => by
    unfold placeB
    rw [List.all_append, show ([b].all fun c => decide (c ∈ lets)) = false by simp [hb]]
    simp
  have long : placeB (cs ++ [113, 113, 113, 113, 113, 113, 113, 113]) = false := by
    unfold placeB
    have : ¬ (cs ++ [113, 113, 113, 113, 113, 113, 113, 113]).length ≤ 8 := by rw [List.length_append]; show ¬ cs.length + 8 ≤ 8; omega
    rw [decide_eq_false this]; simp
  obtain ⟨ds, hds⟩ : ∃ ds : List D, ds = [.str (sg cs), .str (sg (cs ++ [113, 113, 113, 113, 113, 113, 113, 113])), .str (sg (cs ++ [65])), .str (sg []), .str (sg (cs ++ [32])), .tup [.str (sg cs)], .non, .int 0, .bl true, .lst [.str (sg cs)], .dk [], .str (sg (cs ++ [49]))] := ⟨_, rfl⟩
  have pl : ∀ l : List Nat, plB (.str (sg l)) = placeB l := fun l => rfl
  have hn : ∀ x ∈ ds, m_is_place [.val x] = some (.ret (.val (.bl (plB x))), [.val x]) := by
    intro x m
    rw [hds] at m
    simp only [List.mem_cons, List.not_mem_nil, or_false] at m
    have ll : ∀ b : List Nat, b.length ≤ 8 → (cs ++ b).length ≤ 1000 := fun b hb => by rw [List.length_append]; omega
    rcases m with rfl | rfl | rfl | rfl | rfl | rfl | rfl | rfl | rfl | rfl | rfl | rfl
    · exact place_ev (by omega)
    · exact place_ev (ll _ (by simp))
    · exact place_ev (ll _ (by simp))
    · exact place_ev (by simp)
    · exact place_ev (ll _ (by simp))
    · exact place_tup
    · exact place_non
    · exact place_int
    · exact place_bl
    · exact place_lst
    · exact place_dk
    · exact place_ev (ll _ (by simp))
  have ne := fun s0 s1 s3 => places_ev (ds := ds) (by rw [hds]; simp) hn (s0 := s0) (s1 := s1) (s3 := s3)
  have hmap : ds.map (fun x => D.bl (plB x)) = [.bl true, .bl false, .bl false, .bl false, .bl false, .bl false, .bl false, .bl false, .bl false, .bl false, .bl false, .bl false] := by
    rw [hds]
    simp only [List.map]
    rw [pl, pl, pl, pl, pl, pl, pos, long, bad 65 (by decide), bad 32 (by decide), bad 49 (by decide)]
    rfl
  rw [hmap] at ne
  have a1 : addG (.str (sg cs)) (.str "qqqqqqqq") = some (.str (sg (cs ++ [113, 113, 113, 113, 113, 113, 113, 113]))) := addS (b := [113, 113, 113, 113, 113, 113, 113, 113]) (by simp; omega)
  have a2 : addG (.str (sg cs)) (.str "A") = some (.str (sg (cs ++ [65]))) := addS (b := [65]) (by simp; omega)
  have a3 : addG (.str (sg cs)) (.str " ") = some (.str (sg (cs ++ [32]))) := addS (b := [32]) (by simp; omega)
  have a4 : addG (.str (sg cs)) (.str "1") = some (.str (sg (cs ++ [49]))) := addS (b := [49]) (by simp; omega)
  have es : (Str.ofString "" : Str) = sg [] := rfl
  refine ⟨d', ?_⟩
  unfold m__law_places_right
  refine fnD_ret (ρ := [.par d', .val (.str (sg cs)), .val (.lst ds), .no, .no]) rfl ?_ rfl
  show g__law_places_right [.par d, .no, .no, .no, .no] = _
  unfold g__law_places_right
  rw [seqS_nx (ρ1 := [.par d', .val (.str (sg cs)), .no, .no, .no]) (by
    rw [exps_ev (a := .str (sg cs)) (ρ1 := [.par d', .no, .no, .no, .no]) (by
      unfold joinD
      rw [bind_ev (a := .str "") (ρ1 := [.par d, .no, .no, .no, .no]) rfl]
      show M.bind (toO l6__law_places_right) _ _ = _
      rw [bind_ev (a := .v (.lst (cs.map fun c => D.str (sg [c])))) (ρ1 := [.par d', .no, .no, .no, .no]) (by
        unfold toO
        rw [bind_ev e]; rfl)]
      show ((joinG (.str (sg [])) (.lst (cs.map fun c => D.str (sg [c])))).bind fun z => some (R.ok z, _)) = _
      rw [hj]; rfl)]
    rfl)]
  rw [seqS_nx (ρ1 := [.par d', .val (.str (sg cs)), .val (.lst ds), .no, .no]) (by
    have es2 : sg [] = (Str.ofString "" : Str) := rfl
    rw [hds]
    clear hj e
    rw [es2]
    generalize D.str (sg cs) = Z at *
    simp [exps, lstD, tupD, consD, M.bind, M.ret, frzAt, op2, nameO, toO, app2, res, a1, a2, a3, a4, setV, sizeLine])]
  have a := ne (.par d') (.val (.str (sg cs))) .no
  generalize D.str (sg cs) = Z at *
  simp [List.findIdx?_cons, eqG, neG, eqP, toPy, toPys, SeqAt.shaped, PyData.canLay0, PyData.canLayAll0, PyData.depth, PyData.depthAll, PyData.eqv, PyData.eqvAll, fnD, starD, valsOf, seqS, skipS, exps, M.bind, M.ret, M.fail, M.lift, toO, nameO, frzAt, op2, app2, app1, res, ownOf, callD, appN, resN, consO, consD, one, two, setV, setOw, giveUp, parS, augS, asB, truB, truG, andB, orB, notB, andD, orD, notD, ifD, chain3, tupD, lstD, ixG, strOf, seqOf, lisOf, tupOf, atI, ixN, negG, intG, subG, cmpG, addG, isiG, tyName, lenG, absG, intF, max2G, min2G, callS, callR, callM, argS, slotsOf, putB, toR, sVal, sOwn, inTo, setKind, isS, putC, ownM, ownT, appendG, storeS, setLG, gV, gT, gC, gN, walkL, walkT, walkR1, walkR2, loopF, backA, listG, isBG, joinD, sliceD, rangeL, allG, blsOf, partI, sizeLine, kb_int_int, kb_int_bool, kb_int_tuple, kb_int_str, kb_bool_int, kb_bool_bool, kb_bool_tuple, kb_bool_str, kb_NoneType_int, kb_NoneType_bool, kb_NoneType_tuple, kb_NoneType_str, kb_str_int, kb_str_bool, kb_str_tuple, kb_str_str, kb_tuple_int, kb_tuple_bool, kb_tuple_tuple, kb_tuple_str, kb_list_int, kb_list_bool, kb_list_tuple, kb_list_str, kb_dict_int, kb_dict_bool, kb_dict_tuple, kb_dict_str, a, mulG]
end K01
end Pd

namespace Pd
open PySem PySem.Spec L2
namespace K01
theorem pw18 : powG (.int 10) (.int 18) = some (.int 1000000000000000000) := rfl
theorem pw60 : powG (.int 10) (.int 60) = some (.int 1000000000000000000000000000000000000000000000000000000000000) := rfl
theorem pw600 : powG (.int 1000000000000000000000000000000000000000000000000000000000000) (.int 10) = some (.int 1000000000000000000000000000000000000000000000000000000000000000000000000000000000000000000000000000000000000000000000000000000000000000000000000000000000000000000000000000000000000000000000000000000000000000000000000000000000000000000000000000000000000000000000000000000000000000000000000000000000000000000000000000000000000000000000000000000000000000000000000000000000000000000000000000000000000000000000000000000000000000000000000000000000000000000000000000000000000000000000000000000000000000000000000000000000000000000000000000000000000000000000000000000000000000000000000000000000000000000000000) := by
  unfold powG intG
  simp only []
  rw [if_pos (by decide +kernel)]
  have : ((1000000000000000000000000000000000000000000000000000000000000 : Int) ^ (10 : Int).toNat) = 1000000000000000000000000000000000000000000000000000000000000000000000000000000000000000000000000000000000000000000000000000000000000000000000000000000000000000000000000000000000000000000000000000000000000000000000000000000000000000000000000000000000000000000000000000000000000000000000000000000000000000000000000000000000000000000000000000000000000000000000000000000000000000000000000000000000000000000000000000000000000000000000000000000000000000000000000000000000000000000000000000000000000000000000000000000000000000000000000000000000000000000000000000000000000000000000000000000000000000000000000 := by decide +kernel
  rw [this]
theorem dice_ev {ns : List Int} {i : Int} (h0 : 0 ≤ i) (h1 : i < 8) (hn : ns.length ≤ 1000) : ∃ d, Dc 40 d ∧ m__law_dice [.val (.frl (ns.map .int)), .val (.int i)] = some (.ret (.own d), [.val (.frl (ns.map .int)), .val (.int i)]) := by
  obtain ⟨c, hc⟩ : ∃ c : Int, (i < (ns.length : Int) → ixG (.frl (ns.map .int)) (.int i) = some (.int c)) ∧ (¬ i < (ns.length : Int) → c = 97 * i + 53) := by
    by_cases c : i < (ns.length : Int)
    · have hk : i.toNat < ns.length := by omega
      refine ⟨ns[i.toNat], fun _ => ?_, fun z => absurd c z⟩
      show atI (ns.map D.int) i = _
      unfold atI ixN
      rw [if_pos h0, if_pos (by rw [List.length_map]; exact c)]
      show (ns.map D.int)[i.toNat]? = _
      rw [List.getElem?_map, List.getElem?_eq_getElem hk]; rfl
    · exact ⟨97 * i + 53, fun z => absurd z c, fun _ => rfl⟩
  have hl : lenG (.frl (ns.map .int)) = some (.int ns.length) := by show some (D.int ((ns.map D.int).length : Int)) = _; rw [List.length_map]
  generalize D.frl (ns.map .int) = T at *
  obtain ⟨A, hA⟩ : ∃ A : Int, absG (.int c) = some (.int A) := ⟨_, rfl⟩
  obtain ⟨G, hG⟩ : ∃ G : Int, modG (.int A) (.int 1000000000000000000000000000000000000000000000000000000000000000000000000000000000000000000000000000000000000000000000000000000000000000000000000000000000000000000000000000000000000000000000000000000000000000000000000000000000000000000000000000000000000000000000000000000000000000000000000000000000000000000000000000000000000000000000000000000000000000000000000000000000000000000000000000000000000000000000000000000000000000000000000000000000000000000000000000000000000000000000000000000000000000000000000000000000000000000000000000000000000000000000000000000000000000000000000000000000000000000000000) = some (.int G) := ⟨_, mod_pos (by decide)⟩
  obtain ⟨k, hk, hk2⟩ : ∃ k : Int, ((ltG (.int c) (.int 0)).bind intF = some (.int k)) ∧ (k = 0 ∨ k = 1) := by
    by_cases z : c < 0
    · exact ⟨1, by show intF (.bl (decide (c < 0))) = _; rw [decide_eq_true z]; rfl, .inr rfl⟩
    · exact ⟨0, by show intF (.bl (decide (c < 0))) = _; rw [decide_eq_false z]; rfl, .inl rfl⟩
  have hk' : intF (.bl (decide (c < 0))) = some (.int k) := hk
  have q0 := Int.emod_nonneg G (b := 2147482951) (by decide)
  have q1 := Int.emod_lt_of_pos G (b := 2147482951) (by decide)
  have m1 := mul_small (i := 97) (j := i) (by decide) (by omega)
  have m2 := mul_small (i := G % 2147482951) (j := 61291) (by omega) (by decide)
  have m3 := mul_small (i := 3517) (j := i) (by decide) (by omega)
  have m4 := mul_small (i := 71) (j := k) (by decide) (by omega)
  have d1 := fun x => mod_pos (i := x) (j := 2147482951) (by decide)
  have d2 := fun x => mod_pos (i := x) (j := 2147482949) (by decide)
  have d3 := fun x => fdiv_small (i := x) (j := 1000000000000000000) (by decide) (by decide)
  have hlt : ltG (.int c) (.int 0) = some (.bl (decide (c < 0))) := rfl
  refine ⟨dc (G / 1000000000000000000) ((G % 2147482951 * 61291 + 3517 * i + 71 * k + 83) % 2147482949) 0, ⟨_, _, _, rfl, Int.emod_nonneg _ (by decide), by have := Int.emod_lt_of_pos (G % 2147482951 * 61291 + 3517 * i + 71 * k + 83) (b := 2147482949) (by decide); omega, by decide, by decide⟩, ?_⟩
  unfold m__law_dice
  refine fnD_ret (ρ := [.val T, .val (.int i), .val (.int c), .val (.int G), .val (.int (G / 1000000000000000000)), .val (.int (G % 2147482951 * 61291 + 3517 * i + 71 * k + 83))]) rfl ?_ rfl
  show g__law_dice [.val T, .val (.int i), .no, .no, .no, .no] = _
  unfold g__law_dice
  rw [seqS_nx (ρ1 := [.val T, .val (.int i), .val (.int (97 * i + 53)), .no, .no, .no]) (by simp [List.findIdx?_cons, eqG, neG, eqP, toPy, toPys, SeqAt.shaped, PyData.canLay0, PyData.canLayAll0, PyData.depth, PyData.depthAll, PyData.eqv, PyData.eqvAll, fnD, starD, valsOf, seqS, skipS, exps, M.bind, M.ret, M.fail, M.lift, toO, nameO, frzAt, op2, app2, app1, res, ownOf, callD, appN, resN, consO, consD, one, two, setV, setOw, giveUp, parS, augS, asB, truB, truG, andB, orB, notB, andD, orD, notD, ifD, chain3, tupD, lstD, ixG, strOf, seqOf, lisOf, tupOf, atI, ixN, negG, intG, subG, cmpG, addG, isiG, tyName, lenG, absG, intF, max2G, min2G, callS, callR, callM, argS, slotsOf, putB, toR, sVal, sOwn, inTo, setKind, isS, putC, ownM, ownT, appendG, storeS, setLG, gV, gT, gC, gN, walkL, walkT, walkR1, walkR2, loopF, backA, listG, isBG, joinD, sliceD, rangeL, allG, blsOf, partI, sizeLine, kb_int_int, kb_int_bool, kb_int_tuple, kb_int_str, kb_bool_int, kb_bool_bool, kb_bool_tuple, kb_bool_str, kb_NoneType_int, kb_NoneType_bool, kb_NoneType_tuple, kb_NoneType_str, kb_str_int, kb_str_bool, kb_str_tuple, kb_str_str, kb_tuple_int, kb_tuple_bool, kb_tuple_tuple, kb_tuple_str, kb_list_int, kb_list_bool, kb_list_tuple, kb_list_str, kb_dict_int, kb_dict_bool, kb_dict_tuple, kb_dict_str, m1])]
  rw [seqS_nx (ρ1 := [.val T, .val (.int i), .val (.int c), .no, .no, .no]) (by
    by_cases z : i < (ns.length : Int)
    · simp [exps, asB, op2, nameO, toO, M.bind, M.ret, callD, consO, appN, resN, res, Pd.one, hl, app2, cmpG, z, hc.1 z, setV]
    · have e := hc.2 z
      subst e
      simp [exps, asB, op2, nameO, toO, M.bind, M.ret, callD, consO, appN, resN, res, Pd.one, hl, app2, cmpG, z, setV, skipS])]
  have pa := pw600
  have pb := pw60
  have hi : intF (.int A) = some (.int A) := rfl
  rw [seqS_nx (ρ1 := [.val T, .val (.int i), .val (.int c), .val (.int G), .no, .no]) (by
    generalize D.int 1000000000000000000000000000000000000000000000000000000000000000000000000000000000000000000000000000000000000000000000000000000000000000000000000000000000000000000000000000000000000000000000000000000000000000000000000000000000000000000000000000000000000000000000000000000000000000000000000000000000000000000000000000000000000000000000000000000000000000000000000000000000000000000000000000000000000000000000000000000000000000000000000000000000000000000000000000000000000000000000000000000000000000000000000000000000000000000000000000000000000000000000000000000000000000000000000000000000000000000000000 = P6 at *
    generalize D.int 1000000000000000000000000000000000000000000000000000000000000 = P5 at *
    simp [exps, op2, nameO, toO, M.bind, M.ret, callD, consO, appN, resN, res, Pd.one, app2, hA, hi, pa, pb, hG, setV])]
  rw [seqS_nx (ρ1 := [.val T, .val (.int i), .val (.int c), .val (.int G), .val (.int (G / 1000000000000000000)), .no]) (by
    simp [List.findIdx?_cons, eqG, neG, eqP, toPy, toPys, SeqAt.shaped, PyData.canLay0, PyData.canLayAll0, PyData.depth, PyData.depthAll, PyData.eqv, PyData.eqvAll, fnD, starD, valsOf, seqS, skipS, exps, M.bind, M.ret, M.fail, M.lift, toO, nameO, frzAt, op2, app2, app1, res, ownOf, callD, appN, resN, consO, consD, one, two, setV, setOw, giveUp, parS, augS, asB, truB, truG, andB, orB, notB, andD, orD, notD, ifD, chain3, tupD, lstD, ixG, strOf, seqOf, lisOf, tupOf, atI, ixN, negG, intG, subG, cmpG, addG, isiG, tyName, lenG, absG, intF, max2G, min2G, callS, callR, callM, argS, slotsOf, putB, toR, sVal, sOwn, inTo, setKind, isS, putC, ownM, ownT, appendG, storeS, setLG, gV, gT, gC, gN, walkL, walkT, walkR1, walkR2, loopF, backA, listG, isBG, joinD, sliceD, rangeL, allG, blsOf, partI, sizeLine, kb_int_int, kb_int_bool, kb_int_tuple, kb_int_str, kb_bool_int, kb_bool_bool, kb_bool_tuple, kb_bool_str, kb_NoneType_int, kb_NoneType_bool, kb_NoneType_tuple, kb_NoneType_str, kb_str_int, kb_str_bool, kb_str_tuple, kb_str_str, kb_tuple_int, kb_tuple_bool, kb_tuple_tuple, kb_tuple_str, kb_list_int, kb_list_bool, kb_list_tuple, kb_list_str, kb_dict_int, kb_dict_bool, kb_dict_tuple, kb_dict_str, pw18, d3])]
  rw [seqS_nx (ρ1 := [.val T, .val (.int i), .val (.int c), .val (.int G), .val (.int (G / 1000000000000000000)), .val (.int (G % 2147482951 * 61291 + 3517 * i + 71 * k + 83))]) (by
    simp [exps, op2, nameO, toO, M.bind, M.ret, callD, consO, appN, resN, res, Pd.one, app2, hlt, hk', m2, m3, m4, d1, setV, addG])]
  simp [List.findIdx?_cons, eqG, neG, eqP, toPy, toPys, SeqAt.shaped, PyData.canLay0, PyData.canLayAll0, PyData.depth, PyData.depthAll, PyData.eqv, PyData.eqvAll, fnD, starD, valsOf, seqS, skipS, exps, M.bind, M.ret, M.fail, M.lift, toO, nameO, frzAt, op2, app2, app1, res, ownOf, callD, appN, resN, consO, consD, one, two, setV, setOw, giveUp, parS, augS, asB, truB, truG, andB, orB, notB, andD, orD, notD, ifD, chain3, tupD, lstD, ixG, strOf, seqOf, lisOf, tupOf, atI, ixN, negG, intG, subG, cmpG, addG, isiG, tyName, lenG, absG, intF, max2G, min2G, callS, callR, callM, argS, slotsOf, putB, toR, sVal, sOwn, inTo, setKind, isS, putC, ownM, ownT, appendG, storeS, setLG, gV, gT, gC, gN, walkL, walkT, walkR1, walkR2, loopF, backA, listG, isBG, joinD, sliceD, rangeL, allG, blsOf, partI, sizeLine, kb_int_int, kb_int_bool, kb_int_tuple, kb_int_str, kb_bool_int, kb_bool_bool, kb_bool_tuple, kb_bool_str, kb_NoneType_int, kb_NoneType_bool, kb_NoneType_tuple, kb_NoneType_str, kb_str_int, kb_str_bool, kb_str_tuple, kb_str_str, kb_tuple_int, kb_tuple_bool, kb_tuple_tuple, kb_tuple_str, kb_list_int, kb_list_bool, kb_list_tuple, kb_list_str, kb_dict_int, kb_dict_bool, kb_dict_tuple, kb_dict_str, d2]
theorem law_true (ns : List Int) (hn : ns.length ≤ 63) : ∃ ss', m_law [.val (.frl (ns.map .int))] = some (.ret (.val (.bl true)), ss') := by
  have hl : lenG (.frl (ns.map .int)) = some (.int ns.length) := by show some (D.int ((ns.map D.int).length : Int)) = _; rw [List.length_map]
  have hd := fun i h0 h1 => dice_ev (ns := ns) (i := i) h0 h1 (by omega)
  generalize D.frl (ns.map .int) = T at *
  obtain ⟨m, hm⟩ : ∃ m : Int, m = (if (ns.length : Int) < 8 then (ns.length : Int) else 8) := ⟨_, rfl⟩
  obtain ⟨k, hk⟩ : ∃ k : Int, k = (if m > 1 then m else 1) := ⟨_, rfl⟩
  have h8 : k ≤ 8 := by
    have : m ≤ 8 := by rw [hm]; split <;> omega
    rw [hk]; split <;> omega
  have mn : min2G (.int 8) (.int ns.length) = some (.int m) := by rw [hm]; rfl
  have mx : max2G (.int 1) (.int m) = some (.int k) := by rw [hk]; rfl
  obtain ⟨ρ', e, u, v, rfl⟩ := loopF_inv (gs := s1_law) (b := b2_law) (fun ρ => ∃ u v : Sl, ρ = [.val T, u, .no, v]) (rngI 0 k.toNat) [.val T, .no, .no, .no] ⟨_, _, rfl⟩ (by
    rintro x mx ρ ⟨u, v, rfl⟩
    obtain ⟨i, hi, rfl⟩ := List.mem_map.mp mx
    have hi := List.mem_range.mp hi
    have i8 : (0 : Int) + (i : Int) < 8 := by omega
    obtain ⟨d, hdc, ed⟩ := hd (0 + (i : Int)) (by omega) i8
    obtain ⟨d1, hd1, e1⟩ := right_ev hdc
    obtain ⟨d2, e2⟩ := placesright_ev hd1
    generalize (0 : Int) + (i : Int) = I at *
    refine ⟨[.val T, .val (.int I), .no, v], [.val T, .val (.int I), .no, .own d2], by simp [List.findIdx?_cons, eqG, neG, eqP, toPy, toPys, SeqAt.shaped, PyData.canLay0, PyData.canLayAll0, PyData.depth, PyData.depthAll, PyData.eqv, PyData.eqvAll, fnD, starD, valsOf, seqS, skipS, exps, M.bind, M.ret, M.fail, M.lift, toO, nameO, frzAt, op2, app2, app1, res, ownOf, callD, appN, resN, consO, consD, one, two, setV, setOw, giveUp, parS, augS, asB, truB, truG, andB, orB, notB, andD, orD, notD, ifD, chain3, tupD, lstD, ixG, strOf, seqOf, lisOf, tupOf, atI, ixN, negG, intG, subG, cmpG, addG, isiG, tyName, lenG, absG, intF, max2G, min2G, callS, callR, callM, argS, slotsOf, putB, toR, sVal, sOwn, inTo, setKind, isS, putC, ownM, ownT, appendG, storeS, setLG, gV, gT, gC, gN, walkL, walkT, walkR1, walkR2, loopF, backA, listG, isBG, joinD, sliceD, rangeL, allG, blsOf, partI, sizeLine, kb_int_int, kb_int_bool, kb_int_tuple, kb_int_str, kb_bool_int, kb_bool_bool, kb_bool_tuple, kb_bool_str, kb_NoneType_int, kb_NoneType_bool, kb_NoneType_tuple, kb_NoneType_str, kb_str_int, kb_str_bool, kb_str_tuple, kb_str_str, kb_tuple_int, kb_tuple_bool, kb_tuple_tuple, kb_tuple_str, kb_list_int, kb_list_bool, kb_list_tuple, kb_list_str, kb_dict_int, kb_dict_bool, kb_dict_tuple, kb_dict_str, s1_law], ?_, _, _, rfl⟩
    unfold b2_law
    rw [seqS_nx (ρ1 := [.val T, .val (.int I), .no, .own d]) (by simp [List.findIdx?_cons, eqG, neG, eqP, toPy, toPys, SeqAt.shaped, PyData.canLay0, PyData.canLayAll0, PyData.depth, PyData.depthAll, PyData.eqv, PyData.eqvAll, fnD, starD, valsOf, seqS, skipS, exps, M.bind, M.ret, M.fail, M.lift, toO, nameO, frzAt, op2, app2, app1, res, ownOf, callD, appN, resN, consO, consD, one, two, setV, setOw, giveUp, parS, augS, asB, truB, truG, andB, orB, notB, andD, orD, notD, ifD, chain3, tupD, lstD, ixG, strOf, seqOf, lisOf, tupOf, atI, ixN, negG, intG, subG, cmpG, addG, isiG, tyName, lenG, absG, intF, max2G, min2G, callS, callR, callM, argS, slotsOf, putB, toR, sVal, sOwn, inTo, setKind, isS, putC, ownM, ownT, appendG, storeS, setLG, gV, gT, gC, gN, walkL, walkT, walkR1, walkR2, loopF, backA, listG, isBG, joinD, sliceD, rangeL, allG, blsOf, partI, sizeLine, kb_int_int, kb_int_bool, kb_int_tuple, kb_int_str, kb_bool_int, kb_bool_bool, kb_bool_tuple, kb_bool_str, kb_NoneType_int, kb_NoneType_bool, kb_NoneType_tuple, kb_NoneType_str, kb_str_int, kb_str_bool, kb_str_tuple, kb_str_str, kb_tuple_int, kb_tuple_bool, kb_tuple_tuple, kb_tuple_str, kb_list_int, kb_list_bool, kb_list_tuple, kb_list_str, kb_dict_int, kb_dict_bool, kb_dict_tuple, kb_dict_str, ed])]
    simp [List.findIdx?_cons, eqG, neG, eqP, toPy, toPys, SeqAt.shaped, PyData.canLay0, PyData.canLayAll0, PyData.depth, PyData.depthAll, PyData.eqv, PyData.eqvAll, fnD, starD, valsOf, seqS, skipS, exps, M.bind, M.ret, M.fail, M.lift, toO, nameO, frzAt, op2, app2, app1, res, ownOf, callD, appN, resN, consO, consD, one, two, setV, setOw, giveUp, parS, augS, asB, truB, truG, andB, orB, notB, andD, orD, notD, ifD, chain3, tupD, lstD, ixG, strOf, seqOf, lisOf, tupOf, atI, ixN, negG, intG, subG, cmpG, addG, isiG, tyName, lenG, absG, intF, max2G, min2G, callS, callR, callM, argS, slotsOf, putB, toR, sVal, sOwn, inTo, setKind, isS, putC, ownM, ownT, appendG, storeS, setLG, gV, gT, gC, gN, walkL, walkT, walkR1, walkR2, loopF, backA, listG, isBG, joinD, sliceD, rangeL, allG, blsOf, partI, sizeLine, kb_int_int, kb_int_bool, kb_int_tuple, kb_int_str, kb_bool_int, kb_bool_bool, kb_bool_tuple, kb_bool_str, kb_NoneType_int, kb_NoneType_bool, kb_NoneType_tuple, kb_NoneType_str, kb_str_int, kb_str_bool, kb_str_tuple, kb_str_str, kb_tuple_int, kb_tuple_bool, kb_tuple_tuple, kb_tuple_str, kb_list_int, kb_list_bool, kb_list_tuple, kb_list_str, kb_dict_int, kb_dict_bool, kb_dict_tuple, kb_dict_str, e1, e2])
  have fa : m_fraction [.val (.int 6), .val (.int 4)] = some (.ret (.val (fr 3 2)), [.val (.int 6), .val (.int 4)]) := fraction_ev (n := 6) (d := 4) (by decide) (by decide)
  have fb : m_fraction [.val (.int (-2)), .val (.int 6)] = some (.ret (.val (fr (-1) 3)), [.val (.int (-2)), .val (.int 6)]) := fraction_ev (n := -2) (d := 6) (by decide) (by decide)
  have fc : m_fraction [.val (.int 0), .val (.int 7)] = some (.ret (.val (fr 0 1)), [.val (.int 0), .val (.int 7)]) := fraction_ev (n := 0) (d := 7) (by decide) (by decide)
  have gr := greatest_ev (p := (1, 2)) (ps := [(2, 3), (3, 5)]) (by decide) (by decide) (by
    intro q m
    simp only [List.mem_cons, List.not_mem_nil, or_false] at m
    rcases m with rfl | rfl | rfl
    · exact ⟨_, _, rfl, by decide, by decide⟩
    · exact ⟨_, _, rfl, by decide, by decide⟩
    · exact ⟨_, _, rfl, by decide, by decide⟩)
  have gr' : m_greatest [.val (fr 1 2), .val (fr 2 3), .val (fr 3 5)] = some (.ret (.val (fr 2 3)), [.val (fr 1 2), .val (fr 2 3), .val (fr 3 5)]) := gr
  refine ⟨[.val T], ?_⟩
  unfold m_law
  refine fnD_ret (ρ := [.val T, u, .val (.lst [fr 3 2, fr (-1) 3, fr 0 1, fr 2 3, .int 8]), v]) rfl ?_ rfl
  show g_law [.val T, .no, .no, .no] = _
  unfold g_law
  rw [seqS_nx (ρ1 := [.val T, u, .no, v]) (by
    rw [exps_ev (a := rngI 0 k.toNat) (ρ1 := [.val T, .no, .no, .no]) (by
      have k62 : k < 2 ^ 62 := by omega
      have k63 : -(2 ^ 62) ≤ k := by
        rw [hk]; split <;> omega
      simp [walkR1, callD, consO, toO, M.bind, M.ret, nameO, appN, resN, res, Pd.one, Pd.two, hl, mn, mx]
      try omega)]
    exact e)]
  rw [seqS_nx (ρ1 := [.val T, u, .val (.lst [fr 3 2, fr (-1) 3, fr 0 1, fr 2 3, .int 8]), v]) (by
    simp [List.findIdx?_cons, eqG, neG, eqP, toPy, toPys, SeqAt.shaped, PyData.canLay0, PyData.canLayAll0, PyData.depth, PyData.depthAll, PyData.eqv, PyData.eqvAll, fnD, starD, valsOf, seqS, skipS, exps, M.bind, M.ret, M.fail, M.lift, toO, nameO, frzAt, op2, app2, app1, res, ownOf, callD, appN, resN, consO, consD, one, two, setV, setOw, giveUp, parS, augS, asB, truB, truG, andB, orB, notB, andD, orD, notD, ifD, chain3, tupD, lstD, ixG, strOf, seqOf, lisOf, tupOf, atI, ixN, negG, intG, subG, cmpG, addG, isiG, tyName, lenG, absG, intF, max2G, min2G, callS, callR, callM, argS, slotsOf, putB, toR, sVal, sOwn, inTo, setKind, isS, putC, ownM, ownT, appendG, storeS, setLG, gV, gT, gC, gN, walkL, walkT, walkR1, walkR2, loopF, backA, listG, isBG, joinD, sliceD, rangeL, allG, blsOf, partI, sizeLine, kb_int_int, kb_int_bool, kb_int_tuple, kb_int_str, kb_bool_int, kb_bool_bool, kb_bool_tuple, kb_bool_str, kb_NoneType_int, kb_NoneType_bool, kb_NoneType_tuple, kb_NoneType_str, kb_str_int, kb_str_bool, kb_str_tuple, kb_str_str, kb_tuple_int, kb_tuple_bool, kb_tuple_tuple, kb_tuple_str, kb_list_int, kb_list_bool, kb_list_tuple, kb_list_str, kb_dict_int, kb_dict_bool, kb_dict_tuple, kb_dict_str, fa, fb, fc, gr'])]
  simp [List.findIdx?_cons, eqG, neG, eqP, toPy, toPys, SeqAt.shaped, PyData.canLay0, PyData.canLayAll0, PyData.depth, PyData.depthAll, PyData.eqv, PyData.eqvAll, fnD, starD, valsOf, seqS, skipS, exps, M.bind, M.ret, M.fail, M.lift, toO, nameO, frzAt, op2, app2, app1, res, ownOf, callD, appN, resN, consO, consD, one, two, setV, setOw, giveUp, parS, augS, asB, truB, truG, andB, orB, notB, andD, orD, notD, ifD, chain3, tupD, lstD, ixG, strOf, seqOf, lisOf, tupOf, atI, ixN, negG, intG, subG, cmpG, addG, isiG, tyName, lenG, absG, intF, max2G, min2G, callS, callR, callM, argS, slotsOf, putB, toR, sVal, sOwn, inTo, setKind, isS, putC, ownM, ownT, appendG, storeS, setLG, gV, gT, gC, gN, walkL, walkT, walkR1, walkR2, loopF, backA, listG, isBG, joinD, sliceD, rangeL, allG, blsOf, partI, sizeLine, kb_int_int, kb_int_bool, kb_int_tuple, kb_int_str, kb_bool_int, kb_bool_bool, kb_bool_tuple, kb_bool_str, kb_NoneType_int, kb_NoneType_bool, kb_NoneType_tuple, kb_NoneType_str, kb_str_int, kb_str_bool, kb_str_tuple, kb_str_str, kb_tuple_int, kb_tuple_bool, kb_tuple_tuple, kb_tuple_str, kb_list_int, kb_list_bool, kb_list_tuple, kb_list_str, kb_dict_int, kb_dict_bool, kb_dict_tuple, kb_dict_str]
end K01
end Pd

namespace Pd
open PySem PySem.Spec L2
open PyProof.Rows (envOfC)
namespace K01
theorem all_mk {l : PySem.W.OpenLaw} {w : World} {K : PySem.W.Frag} {h : Heap} {mg : Str → Option Value} {fa : Addr} (X : K.In h) (G : h.Ns mainGlobals mg) (hfa : mg "law" = some (.ref fa))
    {oc_law kV_law dc_law pm_law cd_law ct_law : Value} {od_law an_law : Option Addr} {sl_law : Array (Option Value)} {f_law : Addr} (a_law : PySem.W.nsIn K mainGlobals "law" = some (some (.ref f_law))) (l_law : K.lookup f_law = some ⟨oc_law, od_law, .func (PySem.W.fnOf "law" "law" (defArgs st_law) (defBody st_law) (defScope st_law) .none kV_law dc_law pm_law an_law cd_law ct_law), sl_law⟩) (c_law : PySem.W.codeIn K cd_law "law" = true) (k_law : PySem.W.keepIn K (.ref f_law) = true)
    {t_MAX_LETTERS : Tok} (q_MAX_LETTERS : PySem.W.nsIn K mainGlobals "MAX_LETTERS" = some (some (.int 8 t_MAX_LETTERS)))
    {oc_greatest kV_greatest dc_greatest pm_greatest cd_greatest ct_greatest : Value} {od_greatest an_greatest : Option Addr} {sl_greatest : Array (Option Value)} {f_greatest : Addr} (a_greatest : PySem.W.nsIn K mainGlobals "greatest" = some (some (.ref f_greatest))) (l_greatest : K.lookup f_greatest = some ⟨oc_greatest, od_greatest, .func (PySem.W.fnOf "greatest" "greatest" (defArgs st_greatest) (defBody st_greatest) (defScope st_greatest) .none kV_greatest dc_greatest pm_greatest an_greatest cd_greatest ct_greatest), sl_greatest⟩) (c_greatest : PySem.W.codeIn K cd_greatest "greatest" = true) (k_greatest : PySem.W.keepIn K (.ref f_greatest) = true)
    {oc_greatest_in kV_greatest_in dc_greatest_in pm_greatest_in cd_greatest_in ct_greatest_in : Value} {od_greatest_in an_greatest_in : Option Addr} {sl_greatest_in : Array (Option Value)} {f_greatest_in : Addr} (a_greatest_in : PySem.W.nsIn K mainGlobals "greatest_in" = some (some (.ref f_greatest_in))) (l_greatest_in : K.lookup f_greatest_in = some ⟨oc_greatest_in, od_greatest_in, .func (PySem.W.fnOf "greatest_in" "greatest_in" (defArgs st_greatest_in) (defBody st_greatest_in) (defScope st_greatest_in) .none kV_greatest_in dc_greatest_in pm_greatest_in an_greatest_in cd_greatest_in ct_greatest_in), sl_greatest_in⟩) (c_greatest_in : PySem.W.codeIn K cd_greatest_in "greatest_in" = true) (k_greatest_in : PySem.W.keepIn K (.ref f_greatest_in) = true)
    {oc_is_less kV_is_less dc_is_less pm_is_less cd_is_less ct_is_less : Value} {od_is_less an_is_less : Option Addr} {sl_is_less : Array (Option Value)} {f_is_less : Addr} (a_is_less : PySem.W.nsIn K mainGlobals "is_less" = some (some (.ref f_is_less))) (l_is_less : K.lookup f_is_less = some ⟨oc_is_less, od_is_less, .func (PySem.W.fnOf "is_less" "is_less" (defArgs st_is_less) (defBody st_is_less) (defScope st_is_less) .none kV_is_less dc_is_less pm_is_less an_is_less cd_is_less ct_is_less), sl_is_less⟩) (c_is_less : PySem.W.codeIn K cd_is_less "is_less" = true) (k_is_less : PySem.W.keepIn K (.ref f_is_less) = true)
    {oc_require_fractions kV_require_fractions dc_require_fractions pm_require_fractions cd_require_fractions ct_require_fractions : Value} {od_require_fractions an_require_fractions : Option Addr} {sl_require_fractions : Array (Option Value)} {f_require_fractions : Addr} (a_require_fractions : PySem.W.nsIn K mainGlobals "require_fractions" = some (some (.ref f_require_fractions))) (l_require_fractions : K.lookup f_require_fractions = some ⟨oc_require_fractions, od_require_fractions, .func (PySem.W.fnOf "require_fractions" "require_fractions" (defArgs st_require_fractions) (defBody st_require_fractions) (defScope st_require_fractions) .none kV_require_fractions dc_require_fractions pm_require_fractions an_require_fractions cd_require_fractions ct_require_fractions), sl_require_fractions⟩) (c_require_fractions : PySem.W.codeIn K cd_require_fractions "require_fractions" = true) (k_require_fractions : PySem.W.keepIn K (.ref f_require_fractions) = true)
    (b_all : PySem.W.nsIn K mainGlobals "all" = some none)
    {oc_is_fraction kV_is_fraction dc_is_fraction pm_is_fraction cd_is_fraction ct_is_fraction : Value} {od_is_fraction an_is_fraction : Option Addr} {sl_is_fraction : Array (Option Value)} {f_is_fraction : Addr} (a_is_fraction : PySem.W.nsIn K mainGlobals "is_fraction" = some (some (.ref f_is_fraction))) (l_is_fraction : K.lookup f_is_fraction = some ⟨oc_is_fraction, od_is_fraction, .func (PySem.W.fnOf "is_fraction" "is_fraction" (defArgs st_is_fraction) (defBody st_is_fraction) (defScope st_is_fraction) .none kV_is_fraction dc_is_fraction pm_is_fraction an_is_fraction cd_is_fraction ct_is_fraction), sl_is_fraction⟩) (c_is_fraction : PySem.W.codeIn K cd_is_fraction "is_fraction" = true) (k_is_fraction : PySem.W.keepIn K (.ref f_is_fraction) = true)
    {oc_divisor_of kV_divisor_of dc_divisor_of pm_divisor_of cd_divisor_of ct_divisor_of : Value} {od_divisor_of an_divisor_of : Option Addr} {sl_divisor_of : Array (Option Value)} {f_divisor_of : Addr} (a_divisor_of : PySem.W.nsIn K mainGlobals "divisor_of" = some (some (.ref f_divisor_of))) (l_divisor_of : K.lookup f_divisor_of = some ⟨oc_divisor_of, od_divisor_of, .func (PySem.W.fnOf "divisor_of" "divisor_of" (defArgs st_divisor_of) (defBody st_divisor_of) (defScope st_divisor_of) .none kV_divisor_of dc_divisor_of pm_divisor_of an_divisor_of cd_divisor_of ct_divisor_of), sl_divisor_of⟩) (c_divisor_of : PySem.W.codeIn K cd_divisor_of "divisor_of" = true) (k_divisor_of : PySem.W.keepIn K (.ref f_divisor_of) = true)
    (b_abs : PySem.W.nsIn K mainGlobals "abs" = some none)
    {oc_is_many kV_is_many dc_is_many pm_is_many cd_is_many ct_is_many : Value} {od_is_many an_is_many : Option Addr} {sl_is_many : Array (Option Value)} {f_is_many : Addr} (a_is_many : PySem.W.nsIn K mainGlobals "is_many" = some (some (.ref f_is_many))) (l_is_many : K.lookup f_is_many = some ⟨oc_is_many, od_is_many, .func (PySem.W.fnOf "is_many" "is_many" (defArgs st_is_many) (defBody st_is_many) (defScope st_is_many) .none kV_is_many dc_is_many pm_is_many an_is_many cd_is_many ct_is_many), sl_is_many⟩) (c_is_many : PySem.W.codeIn K cd_is_many "is_many" = true) (k_is_many : PySem.W.keepIn K (.ref f_is_many) = true)
    {oc_is_integer kV_is_integer dc_is_integer pm_is_integer cd_is_integer ct_is_integer : Value} {od_is_integer an_is_integer : Option Addr} {sl_is_integer : Array (Option Value)} {f_is_integer : Addr} (a_is_integer : PySem.W.nsIn K mainGlobals "is_integer" = some (some (.ref f_is_integer))) (l_is_integer : K.lookup f_is_integer = some ⟨oc_is_integer, od_is_integer, .func (PySem.W.fnOf "is_integer" "is_integer" (defArgs st_is_integer) (defBody st_is_integer) (defScope st_is_integer) .none kV_is_integer dc_is_integer pm_is_integer an_is_integer cd_is_integer ct_is_integer), sl_is_integer⟩) (c_is_integer : PySem.W.codeIn K cd_is_integer "is_integer" = true) (k_is_integer : PySem.W.keepIn K (.ref f_is_integer) = true)
    (b_isinstance : PySem.W.nsIn K mainGlobals "isinstance" = some none)
    (b_bool : PySem.W.nsIn K mainGlobals "bool" = some none)
    (b_int : PySem.W.nsIn K mainGlobals "int" = some none)
    (b_len : PySem.W.nsIn K mainGlobals "len" = some none)
    (b_tuple : PySem.W.nsIn K mainGlobals "tuple" = some none)
    {oc_fraction kV_fraction dc_fraction pm_fraction cd_fraction ct_fraction : Value} {od_fraction an_fraction : Option Addr} {sl_fraction : Array (Option Value)} {f_fraction : Addr} (a_fraction : PySem.W.nsIn K mainGlobals "fraction" = some (some (.ref f_fraction))) (l_fraction : K.lookup f_fraction = some ⟨oc_fraction, od_fraction, .func (PySem.W.fnOf "fraction" "fraction" (defArgs st_fraction) (defBody st_fraction) (defScope st_fraction) .none kV_fraction dc_fraction pm_fraction an_fraction cd_fraction ct_fraction), sl_fraction⟩) (c_fraction : PySem.W.codeIn K cd_fraction "fraction" = true) (k_fraction : PySem.W.keepIn K (.ref f_fraction) = true)
    {oc_fraction_in kV_fraction_in dc_fraction_in pm_fraction_in cd_fraction_in ct_fraction_in : Value} {od_fraction_in an_fraction_in : Option Addr} {sl_fraction_in : Array (Option Value)} {f_fraction_in : Addr} (a_fraction_in : PySem.W.nsIn K mainGlobals "fraction_in" = some (some (.ref f_fraction_in))) (l_fraction_in : K.lookup f_fraction_in = some ⟨oc_fraction_in, od_fraction_in, .func (PySem.W.fnOf "fraction_in" "fraction_in" (defArgs st_fraction_in) (defBody st_fraction_in) (defScope st_fraction_in) .none kV_fraction_in dc_fraction_in pm_fraction_in an_fraction_in cd_fraction_in ct_fraction_in), sl_fraction_in⟩) (c_fraction_in : PySem.W.codeIn K cd_fraction_in "fraction_in" = true) (k_fraction_in : PySem.W.keepIn K (.ref f_fraction_in) = true)
    (b_range : PySem.W.nsIn K mainGlobals "range" = some none)
    (b_max : PySem.W.nsIn K mainGlobals "max" = some none)
    (b_min : PySem.W.nsIn K mainGlobals "min" = some none)
    {oc__law_places_right kV__law_places_right dc__law_places_right pm__law_places_right cd__law_places_right ct__law_places_right : Value} {od__law_places_right an__law_places_right : Option Addr} {sl__law_places_right : Array (Option Value)} {f__law_places_right : Addr} (a__law_places_right : PySem.W.nsIn K mainGlobals "_law_places_right" = some (some (.ref f__law_places_right))) (l__law_places_right : K.lookup f__law_places_right = some ⟨oc__law_places_right, od__law_places_right, .func (PySem.W.fnOf "_law_places_right" "_law_places_right" (defArgs st__law_places_right) (defBody st__law_places_right) (defScope st__law_places_right) .none kV__law_places_right dc__law_places_right pm__law_places_right an__law_places_right cd__law_places_right ct__law_places_right), sl__law_places_right⟩) (c__law_places_right : PySem.W.codeIn K cd__law_places_right "_law_places_right" = true) (k__law_places_right : PySem.W.keepIn K (.ref f__law_places_right) = true)
    {oc_is_place kV_is_place dc_is_place pm_is_place cd_is_place ct_is_place : Value} {od_is_place an_is_place : Option Addr} {sl_is_place : Array (Option Value)} {f_is_place : Addr} (a_is_place : PySem.W.nsIn K mainGlobals "is_place" = some (some (.ref f_is_place))) (l_is_place : K.lookup f_is_place = some ⟨oc_is_place, od_is_place, .func (PySem.W.fnOf "is_place" "is_place" (defArgs st_is_place) (defBody st_is_place) (defScope st_is_place) .none kV_is_place dc_is_place pm_is_place an_is_place cd_is_place ct_is_place), sl_is_place⟩) (c_is_place : PySem.W.codeIn K cd_is_place "is_place" = true) (k_is_place : PySem.W.keepIn K (.ref f_is_place) = true)
    {t_LETTERS : Tok} (q_LETTERS : PySem.W.nsIn K mainGlobals "LETTERS" = some (some (.str "abcdefghijklmnopqrstuvwxyz" t_LETTERS)))
    (b_str : PySem.W.nsIn K mainGlobals "str" = some none)
    {oc__law_roll kV__law_roll dc__law_roll pm__law_roll cd__law_roll ct__law_roll : Value} {od__law_roll an__law_roll : Option Addr} {sl__law_roll : Array (Option Value)} {f__law_roll : Addr} (a__law_roll : PySem.W.nsIn K mainGlobals "_law_roll" = some (some (.ref f__law_roll))) (l__law_roll : K.lookup f__law_roll = some ⟨oc__law_roll, od__law_roll, .func (PySem.W.fnOf "_law_roll" "_law_roll" (defArgs st__law_roll) (defBody st__law_roll) (defScope st__law_roll) .none kV__law_roll dc__law_roll pm__law_roll an__law_roll cd__law_roll ct__law_roll), sl__law_roll⟩) (c__law_roll : PySem.W.codeIn K cd__law_roll "_law_roll" = true) (k__law_roll : PySem.W.keepIn K (.ref f__law_roll) = true)
    {oc__law_one_of kV__law_one_of dc__law_one_of pm__law_one_of cd__law_one_of ct__law_one_of : Value} {od__law_one_of an__law_one_of : Option Addr} {sl__law_one_of : Array (Option Value)} {f__law_one_of : Addr} (a__law_one_of : PySem.W.nsIn K mainGlobals "_law_one_of" = some (some (.ref f__law_one_of))) (l__law_one_of : K.lookup f__law_one_of = some ⟨oc__law_one_of, od__law_one_of, .func (PySem.W.fnOf "_law_one_of" "_law_one_of" (defArgs st__law_one_of) (defBody st__law_one_of) (defScope st__law_one_of) .none kV__law_one_of dc__law_one_of pm__law_one_of an__law_one_of cd__law_one_of ct__law_one_of), sl__law_one_of⟩) (c__law_one_of : PySem.W.codeIn K cd__law_one_of "_law_one_of" = true) (k__law_one_of : PySem.W.keepIn K (.ref f__law_one_of) = true)
    {oc__law_right kV__law_right dc__law_right pm__law_right cd__law_right ct__law_right : Value} {od__law_right an__law_right : Option Addr} {sl__law_right : Array (Option Value)} {f__law_right : Addr} (a__law_right : PySem.W.nsIn K mainGlobals "_law_right" = some (some (.ref f__law_right))) (l__law_right : K.lookup f__law_right = some ⟨oc__law_right, od__law_right, .func (PySem.W.fnOf "_law_right" "_law_right" (defArgs st__law_right) (defBody st__law_right) (defScope st__law_right) .none kV__law_right dc__law_right pm__law_right an__law_right cd__law_right ct__law_right), sl__law_right⟩) (c__law_right : PySem.W.codeIn K cd__law_right "_law_right" = true) (k__law_right : PySem.W.keepIn K (.ref f__law_right) = true)
    {oc__law_is_lowest kV__law_is_lowest dc__law_is_lowest pm__law_is_lowest cd__law_is_lowest ct__law_is_lowest : Value} {od__law_is_lowest an__law_is_lowest : Option Addr} {sl__law_is_lowest : Array (Option Value)} {f__law_is_lowest : Addr} (a__law_is_lowest : PySem.W.nsIn K mainGlobals "_law_is_lowest" = some (some (.ref f__law_is_lowest))) (l__law_is_lowest : K.lookup f__law_is_lowest = some ⟨oc__law_is_lowest, od__law_is_lowest, .func (PySem.W.fnOf "_law_is_lowest" "_law_is_lowest" (defArgs st__law_is_lowest) (defBody st__law_is_lowest) (defScope st__law_is_lowest) .none kV__law_is_lowest dc__law_is_lowest pm__law_is_lowest an__law_is_lowest cd__law_is_lowest ct__law_is_lowest), sl__law_is_lowest⟩) (c__law_is_lowest : PySem.W.codeIn K cd__law_is_lowest "_law_is_lowest" = true) (k__law_is_lowest : PySem.W.keepIn K (.ref f__law_is_lowest) = true)
    (b_list : PySem.W.nsIn K mainGlobals "list" = some none)
    {oc__law_less kV__law_less dc__law_less pm__law_less cd__law_less ct__law_less : Value} {od__law_less an__law_less : Option Addr} {sl__law_less : Array (Option Value)} {f__law_less : Addr} (a__law_less : PySem.W.nsIn K mainGlobals "_law_less" = some (some (.ref f__law_less))) (l__law_less : K.lookup f__law_less = some ⟨oc__law_less, od__law_less, .func (PySem.W.fnOf "_law_less" "_law_less" (defArgs st__law_less) (defBody st__law_less) (defScope st__law_less) .none kV__law_less dc__law_less pm__law_less an__law_less cd__law_less ct__law_less), sl__law_less⟩) (c__law_less : PySem.W.codeIn K cd__law_less "_law_less" = true) (k__law_less : PySem.W.keepIn K (.ref f__law_less) = true)
    {oc_is_lower kV_is_lower dc_is_lower pm_is_lower cd_is_lower ct_is_lower : Value} {od_is_lower an_is_lower : Option Addr} {sl_is_lower : Array (Option Value)} {f_is_lower : Addr} (a_is_lower : PySem.W.nsIn K mainGlobals "is_lower" = some (some (.ref f_is_lower))) (l_is_lower : K.lookup f_is_lower = some ⟨oc_is_lower, od_is_lower, .func (PySem.W.fnOf "is_lower" "is_lower" (defArgs st_is_lower) (defBody st_is_lower) (defScope st_is_lower) .none kV_is_lower dc_is_lower pm_is_lower an_is_lower cd_is_lower ct_is_lower), sl_is_lower⟩) (c_is_lower : PySem.W.codeIn K cd_is_lower "is_lower" = true) (k_is_lower : PySem.W.keepIn K (.ref f_is_lower) = true)
    {oc__law_lowest kV__law_lowest dc__law_lowest pm__law_lowest cd__law_lowest ct__law_lowest : Value} {od__law_lowest an__law_lowest : Option Addr} {sl__law_lowest : Array (Option Value)} {f__law_lowest : Addr} (a__law_lowest : PySem.W.nsIn K mainGlobals "_law_lowest" = some (some (.ref f__law_lowest))) (l__law_lowest : K.lookup f__law_lowest = some ⟨oc__law_lowest, od__law_lowest, .func (PySem.W.fnOf "_law_lowest" "_law_lowest" (defArgs st__law_lowest) (defBody st__law_lowest) (defScope st__law_lowest) .none kV__law_lowest dc__law_lowest pm__law_lowest an__law_lowest cd__law_lowest ct__law_lowest), sl__law_lowest⟩) (c__law_lowest : PySem.W.codeIn K cd__law_lowest "_law_lowest" = true) (k__law_lowest : PySem.W.keepIn K (.ref f__law_lowest) = true)
    {oc__law_drawn kV__law_drawn dc__law_drawn pm__law_drawn cd__law_drawn ct__law_drawn : Value} {od__law_drawn an__law_drawn : Option Addr} {sl__law_drawn : Array (Option Value)} {f__law_drawn : Addr} (a__law_drawn : PySem.W.nsIn K mainGlobals "_law_drawn" = some (some (.ref f__law_drawn))) (l__law_drawn : K.lookup f__law_drawn = some ⟨oc__law_drawn, od__law_drawn, .func (PySem.W.fnOf "_law_drawn" "_law_drawn" (defArgs st__law_drawn) (defBody st__law_drawn) (defScope st__law_drawn) .none kV__law_drawn dc__law_drawn pm__law_drawn an__law_drawn cd__law_drawn ct__law_drawn), sl__law_drawn⟩) (c__law_drawn : PySem.W.codeIn K cd__law_drawn "_law_drawn" = true) (k__law_drawn : PySem.W.keepIn K (.ref f__law_drawn) = true)
    {oc__law_dice kV__law_dice dc__law_dice pm__law_dice cd__law_dice ct__law_dice : Value} {od__law_dice an__law_dice : Option Addr} {sl__law_dice : Array (Option Value)} {f__law_dice : Addr} (a__law_dice : PySem.W.nsIn K mainGlobals "_law_dice" = some (some (.ref f__law_dice))) (l__law_dice : K.lookup f__law_dice = some ⟨oc__law_dice, od__law_dice, .func (PySem.W.fnOf "_law_dice" "_law_dice" (defArgs st__law_dice) (defBody st__law_dice) (defScope st__law_dice) .none kV__law_dice dc__law_dice pm__law_dice an__law_dice cd__law_dice ct__law_dice), sl__law_dice⟩) (c__law_dice : PySem.W.codeIn K cd__law_dice "_law_dice" = true) (k__law_dice : PySem.W.keepIn K (.ref f__law_dice) = true) :
    ∃ fd : FuncData, (∀ (s : Shared) (v : Value), BindsTo s fd ⟨[v], []⟩ [("script", v)]) ∧ ∀ base : Heap, K.In base → base.Ns mainGlobals mg → FnOk l.prog w K mg base (L2.CX l.prog w) 7 fa fd ["script"] (spLaw K) := by
  have e := hfa.symm.trans (PySem.W.mg_of X G a_law)
  cases e
  exact ⟨PySem.W.fnOf "law" "law" (defArgs st_law) (defBody st_law) (defScope st_law) .none kV_law dc_law pm_law an_law cd_law ct_law, fun s v => .of_eq rfl, fun base _ _ => law_end (cm := fun _ => none) (ok_law (fun_mk (st := st_law) l_law c_law k_law) (PySem.W.mg_of X G q_MAX_LETTERS) (fun_mk (st := st_greatest) l_greatest c_greatest k_greatest) (fun_mk (st := st_greatest_in) l_greatest_in c_greatest_in k_greatest_in) (fun_mk (st := st_is_less) l_is_less c_is_less k_is_less) (PySem.W.mg_of X G a_is_less) k_is_less (PySem.W.mg_of X G a_greatest_in) k_greatest_in (fun_mk (st := st_require_fractions) l_require_fractions c_require_fractions k_require_fractions) (PySem.W.mg_none_of X G b_all) (fun_mk (st := st_is_fraction) l_is_fraction c_is_fraction k_is_fraction) (fun_mk (st := st_divisor_of) l_divisor_of c_divisor_of k_divisor_of) (PySem.W.mg_none_of X G b_abs) (PySem.W.mg_of X G a_divisor_of) k_divisor_of (fun_mk (st := st_is_many) l_is_many c_is_many k_is_many) (fun_mk (st := st_is_integer) l_is_integer c_is_integer k_is_integer) (PySem.W.mg_none_of X G b_isinstance) (PySem.W.mg_none_of X G b_bool) (PySem.W.mg_none_of X G b_int) (PySem.W.mg_of X G a_is_integer) k_is_integer (PySem.W.mg_of X G a_is_many) k_is_many (PySem.W.mg_none_of X G b_len) (PySem.W.mg_none_of X G b_tuple) (PySem.W.mg_of X G a_is_fraction) k_is_fraction (PySem.W.mg_of X G a_require_fractions) k_require_fractions (PySem.W.mg_of X G a_greatest) k_greatest (fun_mk (st := st_fraction) l_fraction c_fraction k_fraction) (fun_mk (st := st_fraction_in) l_fraction_in c_fraction_in k_fraction_in) (PySem.W.mg_of X G a_fraction_in) k_fraction_in (PySem.W.mg_of X G a_fraction) k_fraction (PySem.W.mg_none_of X G b_range) (PySem.W.mg_none_of X G b_max) (PySem.W.mg_none_of X G b_min) (fun_mk (st := st__law_places_right) l__law_places_right c__law_places_right k__law_places_right) (fun_mk (st := st_is_place) l_is_place c_is_place k_is_place) (PySem.W.mg_of X G q_LETTERS) (PySem.W.mg_none_of X G b_str) (PySem.W.mg_of X G a_is_place) k_is_place (fun_mk (st := st__law_roll) l__law_roll c__law_roll k__law_roll) (PySem.W.mg_of X G a__law_roll) k__law_roll (fun_mk (st := st__law_one_of) l__law_one_of c__law_one_of k__law_one_of) (PySem.W.mg_of X G a__law_one_of) k__law_one_of (PySem.W.mg_of X G a__law_places_right) k__law_places_right (fun_mk (st := st__law_right) l__law_right c__law_right k__law_right) (fun_mk (st := st__law_is_lowest) l__law_is_lowest c__law_is_lowest k__law_is_lowest) (PySem.W.mg_none_of X G b_list) (PySem.W.mg_of X G a__law_is_lowest) k__law_is_lowest (fun_mk (st := st__law_less) l__law_less c__law_less k__law_less) (PySem.W.mg_of X G a__law_less) k__law_less (fun_mk (st := st_is_lower) l_is_lower c_is_lower k_is_lower) (PySem.W.mg_of X G a_is_lower) k_is_lower (fun_mk (st := st__law_lowest) l__law_lowest c__law_lowest k__law_lowest) (PySem.W.mg_of X G a__law_lowest) k__law_lowest (fun_mk (st := st__law_drawn) l__law_drawn c__law_drawn k__law_drawn) (PySem.W.mg_of X G a__law_drawn) k__law_drawn (PySem.W.mg_of X G a__law_right) k__law_right (fun_mk (st := st__law_dice) l__law_dice c__law_dice k__law_dice) (PySem.W.mg_of X G a__law_dice) k__law_dice) law_true⟩
end K01
end Pd
open PySem PySem.W PyProof.Rows
set_option maxRecDepth 100000 in
set_option maxHeartbeats 0 in
theorem PySem.Challenge.cw_waysapart_k01_whole_fractions_in_lowest_holds : PySem.Challenge.rw_waysapart_k01_whole_fractions_in_lowest.Holds := by
  w_on; o_law; k_head; (case hw => w_witness2)
  k_fill
  refine L2.walk_of (l := PySem.Challenge.rw_waysapart_k01_whole_fractions_in_lowest) (n := 63) (k := 7) (x := "script") (CX := fun w => L2.CX PySem.Challenge.rw_waysapart_k01_whole_fractions_in_lowest.prog w) (sp := fun w => Pd.spLaw _) rfl (by decide) rfl ⟨rfl, by decide, by decide⟩ (fun w h Y => PySem.W.kIn_of Y) ?F (fun _ _ a ns hl _ hS => ⟨a, ns, rfl, hl, hS, fun _ => rfl⟩) (fun _ _ _ _ _ h => Pd.cx_never h)
  case F =>
    intro w mg fa h KX G hmg
    refine' Pd.K01.all_mk KX G hmg ?a_law ?l_law ?c_law ?k_law ?q_MAX_LETTERS ?a_greatest ?l_greatest ?c_greatest ?k_greatest ?a_greatest_in ?l_greatest_in ?c_greatest_in ?k_greatest_in ?a_is_less ?l_is_less ?c_is_less ?k_is_less ?a_require_fractions ?l_require_fractions ?c_require_fractions ?k_require_fractions ?b_all ?a_is_fraction ?l_is_fraction ?c_is_fraction ?k_is_fraction ?a_divisor_of ?l_divisor_of ?c_divisor_of ?k_divisor_of ?b_abs ?a_is_many ?l_is_many ?c_is_many ?k_is_many ?a_is_integer ?l_is_integer ?c_is_integer ?k_is_integer ?b_isinstance ?b_bool ?b_int ?b_len ?b_tuple ?a_fraction ?l_fraction ?c_fraction ?k_fraction ?a_fraction_in ?l_fraction_in ?c_fraction_in ?k_fraction_in ?b_range ?b_max ?b_min ?a__law_places_right ?l__law_places_right ?c__law_places_right ?k__law_places_right ?a_is_place ?l_is_place ?c_is_place ?k_is_place ?q_LETTERS ?b_str ?a__law_roll ?l__law_roll ?c__law_roll ?k__law_roll ?a__law_one_of ?l__law_one_of ?c__law_one_of ?k__law_one_of ?a__law_right ?l__law_right ?c__law_right ?k__law_right ?a__law_is_lowest ?l__law_is_lowest ?c__law_is_lowest ?k__law_is_lowest ?b_list ?a__law_less ?l__law_less ?c__law_less ?k__law_less ?a_is_lower ?l_is_lower ?c_is_lower ?k_is_lower ?a__law_lowest ?l__law_lowest ?c__law_lowest ?k__law_lowest ?a__law_drawn ?l__law_drawn ?c__law_drawn ?k__law_drawn ?a__law_dice ?l__law_dice ?c__law_dice ?k__law_dice
    (case a_law => k_is); (case l_law => k_is); (case c_law => k_is); (case k_law => k_is); (case q_MAX_LETTERS => k_is); (case a_greatest => k_is); (case l_greatest => k_is); (case c_greatest => k_is); (case k_greatest => k_is); (case a_greatest_in => k_is); (case l_greatest_in => k_is); (case c_greatest_in => k_is); (case k_greatest_in => k_is); (case a_is_less => k_is); (case l_is_less => k_is); (case c_is_less => k_is); (case k_is_less => k_is); (case a_require_fractions => k_is); (case l_require_fractions => k_is); (case c_require_fractions => k_is); (case k_require_fractions => k_is); (case b_all => k_is); (case a_is_fraction => k_is); (case l_is_fraction => k_is); (case c_is_fraction => k_is); (case k_is_fraction => k_is); (case a_divisor_of => k_is); (case l_divisor_of => k_is); (case c_divisor_of => k_is); (case k_divisor_of => k_is); (case b_abs => k_is); (case a_is_many => k_is); (case l_is_many => k_is); (case c_is_many => k_is); (case k_is_many => k_is); (case a_is_integer => k_is); (case l_is_integer => k_is); (case c_is_integer => k_is); (case k_is_integer => k_is); (case b_isinstance => k_is); (case b_bool => k_is); (case b_int => k_is); (case b_len => k_is); (case b_tuple => k_is); (case a_fraction => k_is); (case l_fraction => k_is); (case c_fraction => k_is); (case k_fraction => k_is); (case a_fraction_in => k_is); (case l_fraction_in => k_is); (case c_fraction_in => k_is); (case k_fraction_in => k_is); (case b_range => k_is); (case b_max => k_is); (case b_min => k_is); (case a__law_places_right => k_is); (case l__law_places_right => k_is); (case c__law_places_right => k_is); (case k__law_places_right => k_is); (case a_is_place => k_is); (case l_is_place => k_is); (case c_is_place => k_is); (case k_is_place => k_is); (case q_LETTERS => k_is); (case b_str => k_is); (case a__law_roll => k_is); (case l__law_roll => k_is); (case c__law_roll => k_is); (case k__law_roll => k_is); (case a__law_one_of => k_is); (case l__law_one_of => k_is); (case c__law_one_of => k_is); (case k__law_one_of => k_is); (case a__law_right => k_is); (case l__law_right => k_is); (case c__law_right => k_is); (case k__law_right => k_is); (case a__law_is_lowest => k_is); (case l__law_is_lowest => k_is); (case c__law_is_lowest => k_is); (case k__law_is_lowest => k_is); (case b_list => k_is); (case a__law_less => k_is); (case l__law_less => k_is); (case c__law_less => k_is); (case k__law_less => k_is); (case a_is_lower => k_is); (case l_is_lower => k_is); (case c_is_lower => k_is); (case k_is_lower => k_is); (case a__law_lowest => k_is); (case l__law_lowest => k_is); (case c__law_lowest => k_is); (case k__law_lowest => k_is); (case a__law_drawn => k_is); (case l__law_drawn => k_is); (case c__law_drawn => k_is); (case k__law_drawn => k_is); (case a__law_dice => k_is); (case l__law_dice => k_is); (case c__law_dice => k_is); (case k__law_dice => k_is)
