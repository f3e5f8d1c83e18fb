import PyProof.Rows.All
import Wide.All
import OpenK.AllK
import Wide.FinOn
import HandS.ForMost
import HandS.ForExc
import HandS.Wide
import HandS.IsInst
import HandS.ExcInit
import HandS.ExcValue
import HandS.TupAny
import HandS.Style
import HandS.Deep
import HandS.Conv
import HandS.Star
import HandS.Small
import KE.KExcSuper
import PyProof.Rows.FactsExc_KeyError
import PyProof.Rows.FactsExc_ValueError
import PyProof.Rows.FactsExc_IndexError
import PyProof.Rows.FactsExc_OverflowError
import PyProof.Rows.FactsExc_RuntimeError
import PyProof.Rows.FactsExc_ArithmeticError
import HandS.ExcField
import HandS.ExcIs
import PyProof.ReprRoads
import PySem.Challenge.RW_waysapart_k00_errors_and_what_they_keep
set_option Elab.async false
set_option linter.all false
set_option maxRecDepth 100000
set_option maxHeartbeats 4000000
/-! Pd1: data D, what stands for it in the heap, environments of slots, and what an expression's reading does on them. -/
namespace Pd
open PySem PySem.Spec L2
abbrev St := L2.St

/-- data of a run, without addresses -/
inductive D where
  | non | bl (b : Bool) | int (i : Int) | str (x : Str)
  | tup (xs : List D) | lst (xs : List D) | frl (xs : List D) | frt (xs : List D)
  | dk (kvs : List (Key × D)) | dt (kvs : List (List Key × D))
  | ins (c : Str) (fs : List (Str × D))
  | exn (c : Str) (fs : List (Str × D))
  deriving Inhabited

/-! ### heaps: what stands, locked or not -/
def un : HO → HO
  | .frz _ (.dK ks) => .dK ks
  | .frz _ (.dT ks) => .dT ks
  | o => o
def Ext (F F' : Hp) : Prop := ∀ a o, F a = some o → ∃ o', F' a = some o' ∧ un o' = un o
theorem Ext.refl (F : Hp) : Ext F F := fun _ o h => ⟨o, h, rfl⟩
theorem Ext.trans {F F1 F2 : Hp} (x : Ext F F1) (y : Ext F1 F2) : Ext F F2 := fun a o h => by
  obtain ⟨o1, h1, e1⟩ := x a o h
  obtain ⟨o2, h2, e2⟩ := y a o1 h1
  exact ⟨o2, h2, e2.trans e1⟩
theorem Ext.of {F F' : Hp} (h : ∀ a o, F a = some o → F' a = some o) : Ext F F' := fun a o e => ⟨o, h a o e, rfl⟩
theorem un_dK {o : HO} {ks : List (Key × V)} (h : un o = .dK ks) : o = .dK ks ∨ ∃ ob, o = .frz ob (.dK ks) := by
  cases o with
  | frz ob x =>
    cases x with
    | dK k2 => exact .inr ⟨ob, by rw [show k2 = ks from HO.dK.inj h]⟩
    | dT k2 => exact nomatch (show HO.dT k2 = HO.dK ks from h)
    | _ => exact nomatch h
  | dK k2 => exact .inl h
  | _ => exact nomatch h
theorem un_dT {o : HO} {ks : List (List Key × V)} (h : un o = .dT ks) : o = .dT ks ∨ ∃ ob, o = .frz ob (.dT ks) := by
  cases o with
  | frz ob x =>
    cases x with
    | dT k2 => exact .inr ⟨ob, by rw [show k2 = ks from HO.dT.inj h]⟩
    | dK k2 => exact nomatch (show HO.dK k2 = HO.dT ks from h)
    | _ => exact nomatch h
  | dT k2 => exact .inl h
  | _ => exact nomatch h
/-- what is no dict stays the very same -/
def hard : HO → Prop
  | .dK _ => False
  | .dT _ => False
  | .frz _ (.dK _) => False
  | .frz _ (.dT _) => False
  | _ => True
theorem un_hard {o o' : HO} (h : un o' = un o) (hh : hard o) : o' = o := by
  have h1 : un o = o := by
    cases o with
    | frz ob x => cases x <;> first | rfl | exact absurd hh id
    | _ => rfl
  rw [h1] at h
  cases o' with
  | frz ob x =>
    cases x with
    | dK ks =>
      have : o = .dK ks := h.symm
      subst this
      exact absurd hh id
    | dT ks =>
      have : o = .dT ks := h.symm
      subst this
      exact absurd hh id
    | _ => exact h
  | _ => exact h
theorem Ext.hard {F F' : Hp} {a : Addr} {o : HO} (x : Ext F F') (h : F a = some o) (hh : hard o) : F' a = some o := by
  obtain ⟨o', h2, e2⟩ := x a o h
  rw [un_hard e2 hh] at h2
  exact h2
/-- a dict, locked or not -/
def RdK (H : Hp) (a : Addr) (ks : List (Key × V)) : Prop := ∃ o, H a = some o ∧ un o = .dK ks
def RdT (H : Hp) (a : Addr) (ks : List (List Key × V)) : Prop := ∃ o, H a = some o ∧ un o = .dT ks
theorem RdK.ext {F F' : Hp} {a : Addr} {ks : List (Key × V)} (x : Ext F F') (h : RdK F a ks) : RdK F' a ks := by
  obtain ⟨o, h1, e1⟩ := h
  obtain ⟨o', h2, e2⟩ := x a o h1
  exact ⟨o', h2, e2.trans e1⟩
theorem RdT.ext {F F' : Hp} {a : Addr} {ks : List (List Key × V)} (x : Ext F F') (h : RdT F a ks) : RdT F' a ks := by
  obtain ⟨o, h1, e1⟩ := h
  obtain ⟨o', h2, e2⟩ := x a o h1
  exact ⟨o', h2, e2.trans e1⟩
theorem Rd.seqExt {F F' : Hp} {a : Addr} {u : HO} (hu : ∀ ob, Pd.hard (.frz ob u)) (hu2 : Pd.hard u) (x : Ext F F') (h : Rd F a u) : Rd F' a u := by
  rcases h with h | ⟨ob, h⟩
  · exact .inl (x.hard h hu2)
  · exact .inr ⟨ob, x.hard h (hu ob)⟩
theorem sqL_ext {K : PySem.W.Frag} {F F' : Hp} {a : Addr} {xs : List V} (x : Ext F F') (h : SqL K F a xs) : SqL K F' a xs := by
  rcases h with h | h
  · exact .inl (Rd.seqExt (fun _ => trivial) trivial x h)
  · exact .inr h
theorem sqT_ext {K : PySem.W.Frag} {F F' : Hp} {a : Addr} {xs : List V} (x : Ext F F') (h : SqT K F a xs) : SqT K F' a xs := by
  rcases h with h | h
  · exact .inl (Rd.seqExt (fun _ => trivial) trivial x h)
  · exact .inr h

/-! ### what stands for data -/
mutual
inductive Rp (K : PySem.W.Frag) (cm : Str → Option Addr) (H : Hp) : D → V → Prop
  | non : Rp K cm H .non .non
  | bl (b : Bool) : Rp K cm H (.bl b) (.bl b)
  | int (i : Int) : Rp K cm H (.int i) (.int i)
  | str (x : Str) : Rp K cm H (.str x) (.str x)
  | tup {a : Addr} {xs : List V} {ds : List D} : H a = some (.tup xs) → Rps K cm H ds xs → Rp K cm H (.tup ds) (.ref a)
  | frt {a : Addr} {xs : List V} {ds : List D} : SqT K H a xs → Rps K cm H ds xs → Rp K cm H (.frt ds) (.ref a)
  | lst {a : Addr} {xs : List V} {ds : List D} : H a = some (.lst xs) → Rps K cm H ds xs → Rp K cm H (.lst ds) (.ref a)
  | frl {a : Addr} {xs : List V} {ds : List D} : SqL K H a xs → Rps K cm H ds xs → Rp K cm H (.frl ds) (.ref a)
  | dk {a : Addr} {ks : List (Key × V)} {kvs : List (Key × D)} : RdK H a ks → ks.map (·.1) = kvs.map (·.1) → Rps K cm H (kvs.map (·.2)) (ks.map (·.2)) → Rp K cm H (.dk kvs) (.ref a)
  | dt {a : Addr} {ks : List (List Key × V)} {kvs : List (List Key × D)} : RdT H a ks → ks.map (·.1) = kvs.map (·.1) → Rps K cm H (kvs.map (·.2)) (ks.map (·.2)) → Rp K cm H (.dt kvs) (.ref a)
  | ins {a C dx : Addr} {c : Str} {vs : List (Str × V)} {fs : List (Str × D)} : cm c = some C → H a = some (.ins C dx vs) → vs.map (·.1) = fs.map (·.1) → Rps K cm H (fs.map (·.2)) (vs.map (·.2)) → Rp K cm H (.ins c fs) (.ref a)
  | exn0 {a C : Addr} {c : Str} : cm c = some C → H a = some (exo a C none) → Rp K cm H (.exn c []) (.ref a)
  | exn {a C d : Addr} {c : Str} {vs : List (Str × V)} {fs : List (Str × D)} : cm c = some C → H a = some (exo a C (some d)) → H d = some (.xd vs) → vs.map (·.1) = fs.map (·.1) → Rps K cm H (fs.map (·.2)) (vs.map (·.2)) → Rp K cm H (.exn c fs) (.ref a)
inductive Rps (K : PySem.W.Frag) (cm : Str → Option Addr) (H : Hp) : List D → List V → Prop
  | nil : Rps K cm H [] []
  | cons {d : D} {v : V} {ds : List D} {vs : List V} : Rp K cm H d v → Rps K cm H ds vs → Rps K cm H (d :: ds) (v :: vs)
end
section
variable {K : PySem.W.Frag} {cm : Str → Option Addr} {F F' H : Hp}
mutual
theorem Rp.ext (x : Ext F F') : ∀ {d : D} {v : V}, Rp K cm F d v → Rp K cm F' d v
  | _, _, .non => .non
  | _, _, .bl b => .bl b
  | _, _, .int i => .int i
  | _, _, .str i => .str i
  | _, _, .tup h r => .tup (x.hard h trivial) (Rps.ext x r)
  | _, _, .frt h r => .frt (sqT_ext x h) (Rps.ext x r)
  | _, _, .lst h r => .lst (x.hard h trivial) (Rps.ext x r)
  | _, _, .frl h r => .frl (sqL_ext x h) (Rps.ext x r)
  | _, _, .dk h e r => .dk (h.ext x) e (Rps.ext x r)
  | _, _, .dt h e r => .dt (h.ext x) e (Rps.ext x r)
  | _, _, .ins c h e r => .ins c (x.hard h trivial) e (Rps.ext x r)
  | _, _, .exn0 c h => .exn0 c (x.hard h trivial)
  | _, _, .exn c h hd e r => .exn c (x.hard h trivial) (x.hard hd trivial) e (Rps.ext x r)
theorem Rps.ext (x : Ext F F') : ∀ {ds : List D} {vs : List V}, Rps K cm F ds vs → Rps K cm F' ds vs
  | _, _, .nil => .nil
  | _, _, .cons h r => .cons (Rp.ext x h) (Rps.ext x r)
end
theorem Rps.length : ∀ {ds : List D} {vs : List V}, Rps K cm F ds vs → ds.length = vs.length
  | _, _, .nil => rfl
  | _, _, .cons _ r => by simp [Rps.length r]
theorem Rps.append : ∀ {ds es : List D} {vs ws : List V}, Rps K cm F ds vs → Rps K cm F es ws → Rps K cm F (ds ++ es) (vs ++ ws)
  | _, _, _, _, .nil, s => s
  | _, _, _, _, .cons h r, s => .cons h (Rps.append r s)
theorem Rps.get : ∀ {ds : List D} {vs : List V} {i : Nat} {v : V}, Rps K cm F ds vs → vs[i]? = some v → ∃ d, ds[i]? = some d ∧ Rp K cm F d v
  | _, _, _, _, .nil, h => by simp at h
  | _, _, 0, _, .cons h _, e => by simp at e; subst e; exact ⟨_, rfl, h⟩
  | _, _, i + 1, _, .cons _ r, e => by
    obtain ⟨d, h1, h2⟩ := Rps.get (i := i) r (by simpa using e)
    exact ⟨d, by simpa using h1, h2⟩
theorem Rps.getD : ∀ {ds : List D} {vs : List V} {i : Nat} {d : D}, Rps K cm F ds vs → ds[i]? = some d → ∃ v, vs[i]? = some v ∧ Rp K cm F d v
  | _, _, _, _, .nil, h => by simp at h
  | _, _, 0, _, .cons h _, e => by simp at e; subst e; exact ⟨_, rfl, h⟩
  | _, _, i + 1, _, .cons _ r, e => by
    obtain ⟨d, h1, h2⟩ := Rps.getD (i := i) r (by simpa using e)
    exact ⟨d, by simpa using h1, h2⟩
theorem Rps.drop : ∀ {ds : List D} {vs : List V} (n : Nat), Rps K cm F ds vs → Rps K cm F (ds.drop n) (vs.drop n)
  | _, _, 0, r => r
  | _, _, _ + 1, .nil => .nil
  | _, _, n + 1, .cons _ t => Rps.drop n t
theorem Rps.take : ∀ {ds : List D} {vs : List V} (n : Nat), Rps K cm F ds vs → Rps K cm F (ds.take n) (vs.take n)
  | _, _, 0, _ => .nil
  | _, _, _ + 1, .nil => .nil
  | _, _, n + 1, .cons r t => .cons r (Rps.take n t)
theorem Rps.set {d : D} {v : V} (h : Rp K cm F d v) : ∀ {ds : List D} {vs : List V} (i : Nat), Rps K cm F ds vs → Rps K cm F (ds.set i d) (vs.set i v)
  | _, _, _, .nil => .nil
  | _, _, 0, .cons _ t => .cons h t
  | _, _, i + 1, .cons q t => .cons q (Rps.set h i t)
end

/-! ### slots -/
inductive Sl where
  | no | val (d : D) | own (d : D) | par (d : D)
  deriving Inhabited
abbrev Env := List Sl

section
variable (K : PySem.W.Frag) (cm : Str → Option Addr)
/-- the object at a, changed by its owner alone; what it holds stands in F -/
def OwnAt (F H : Hp) (a : Addr) : D → Prop
  | .lst ds => ∃ xs, H a = some (.lst xs) ∧ Rps K cm F ds xs
  | .dk kvs => ∃ ks, H a = some (.dK ks) ∧ ks.map (·.1) = kvs.map (·.1) ∧ Rps K cm F (kvs.map (·.2)) (ks.map (·.2))
  | .dt kvs => ∃ ks, H a = some (.dT ks) ∧ ks.map (·.1) = kvs.map (·.1) ∧ Rps K cm F (kvs.map (·.2)) (ks.map (·.2))
  | .ins c fs => ∃ C dx vs, cm c = some C ∧ H a = some (.ins C dx vs) ∧ vs.map (·.1) = fs.map (·.1) ∧ Rps K cm F (fs.map (·.2)) (vs.map (·.2))
  | _ => False
/-- the ground of a def: its arguments, those that it may change, the heaps at its entry -/
structure Gd where
  vs : List V
  pa : Addr → Prop
  fr : Addr → Prop
  F0 : Hp
  H0 : Hp
def OwnR (F H : Hp) (a : Addr) (d : D) : Prop := F a = none ∧ OwnAt K cm F H a d
def Free (G : Gd) (a : Addr) : Prop := G.H0 a = none ∨ G.fr a
def SlR (G : Gd) (F H : Hp) (σ : St) (i : Nat) : Sl → Prop
  | .no => True
  | .val d => ∃ v, σ[i]? = some (some v) ∧ Rp K cm F d v
  | .own d => ∃ a, σ[i]? = some (some (.ref a)) ∧ Free G a ∧ OwnR K cm F H a d
  | .par d => ∃ a, σ[i]? = some (some (.ref a)) ∧ (G.vs[i]? = some (.ref a) ∧ G.pa a) ∧ OwnR K cm F H a d
def owns : Sl → Bool
  | .own _ => true
  | .par _ => true
  | _ => false
/-- each tuple stands in F -/
def TF (F H : Hp) : Prop := ∀ b xs, H b = some (.tup xs) → F b = some (.tup xs)
structure ER (G : Gd) (F H : Hp) (σ : St) (ρ : Env) : Prop where
  sub : Same F H
  f0 : Ext G.F0 F
  h0 : ∀ b o, G.H0 b = some o → ¬ G.pa b → ¬ G.fr b → H b = some o
  live : ∀ b, G.H0 b ≠ none → H b ≠ none
  nf : ∀ b, G.H0 b ≠ none → G.F0 b = none → ¬ G.fr b → F b = none
  slot : ∀ (i : Nat) (s : Sl), ρ[i]? = some s → SlR K cm G F H σ i s
  inj : ∀ (i j : Nat) (s t : Sl), ρ[i]? = some s → ρ[j]? = some t → owns s = true → owns t = true → σ[i]? = σ[j]? → i = j
  len : ρ.length = σ.length
  tp : TF F H
/-- heaps grow by new objects alone; of the old ones none goes into F -/
structure Grow (F H F' H' : Hp) : Prop where
  f : Same F F'
  h : Same H H'
  sub : Same F' H'
  nf : ∀ b, H b ≠ none → F b = none → F' b = none
  tp : TF F H → TF F' H'
end
section
variable {K : PySem.W.Frag} {cm : Str → Option Addr} {G : Gd} {F H F' H' : Hp} {σ : St} {ρ : Env} {a : Addr} {d : D}
theorem Grow.refl (s : Same F H) : Grow F H F H := ⟨Same.refl _, Same.refl _, s, fun _ _ h => h, fun h => h⟩
theorem Grow.trans {F1 H1 F2 H2 : Hp} (x : Grow F H F1 H1) (y : Grow F1 H1 F2 H2) : Grow F H F2 H2 :=
  ⟨x.f.trans y.f, x.h.trans y.h, y.sub, fun b hb hf => y.nf b (by
    cases e : H b with
    | none => exact absurd e hb
    | some o => rw [x.h b o e]; simp) (x.nf b hb hf), fun h => y.tp (x.tp h)⟩
/-- a new object, frozen at once -/
theorem Grow.new {p : Addr} {o : HO} (s : Same F H) (h : H p = none) : Grow F H (upd F p o) (upd H p o) := by
  have hf : F p = none := s.free h
  refine ⟨fun b u e => ?_, fun b u e => ?_, fun b u e => ?_, fun b hb hf' => ?_, fun t b xs e => ?_⟩
  · rw [upd_ne (ne_of_none e hf)]; exact e
  · rw [upd_ne (ne_of_none e h)]; exact e
  · by_cases c : b = p
    · subst c; rw [upd_same] at e ⊢; exact e
    · rw [upd_ne c] at e ⊢; exact s b u e
  · by_cases c : b = p
    · subst c; exact absurd h hb
    · rw [upd_ne c]; exact hf'
  · by_cases c : b = p
    · subst c; rw [upd_same] at e ⊢; exact e
    · rw [upd_ne c] at e ⊢; exact t b xs e
/-- a new object that is not frozen -/
theorem Grow.newH {p : Addr} {o : HO} (s : Same F H) (h : H p = none) (ho : ∀ xs, o ≠ .tup xs := by intro xs h; cases h) : Grow F H F (upd H p o) := by
  refine ⟨Same.refl _, fun b u e => ?_, fun b u e => ?_, fun b hb hf' => hf', fun t b xs e => ?_⟩
  · rw [upd_ne (ne_of_none e h)]; exact e
  · rw [upd_ne (ne_of_none (s b u e) h)]; exact s b u e
  · by_cases c : b = p
    · subst c; rw [upd_same] at e; exact absurd (Option.some.inj e) (ho xs)
    · rw [upd_ne c] at e; exact t b xs e
theorem Same.extF (x : Same F F') : Ext F F' := Ext.of x
theorem OwnAt.some (h : OwnAt K cm F H a d) : ∃ o, H a = some o := by
  cases d with
  | lst ds => obtain ⟨xs, h, _⟩ := h; exact ⟨_, h⟩
  | dk ds => obtain ⟨xs, h, _⟩ := h; exact ⟨_, h⟩
  | dt ds => obtain ⟨xs, h, _⟩ := h; exact ⟨_, h⟩
  | ins c fs => obtain ⟨C, dx, vs, _, h, _⟩ := h; exact ⟨_, h⟩
  | _ => exact False.elim h
theorem TF.upF {b : Addr} {o : HO} (t : TF F H) (h : H b = .some o) : TF (upd F b o) H := fun c xs e => by
  by_cases q : c = b
  · subst q; rw [upd_same]; exact h.symm.trans e
  · rw [upd_ne q]; exact t c xs e
theorem TF.upH {b : Addr} {o : HO} (t : TF F H) (h : ∀ xs, o ≠ HO.tup xs) : TF F (upd H b o) := fun c xs e => by
  by_cases q : c = b
  · subst q; rw [upd_same] at e; exact absurd (Option.some.inj e) (h xs)
  · rw [upd_ne q] at e; exact t c xs e
theorem OwnAt.notup (h : OwnAt K cm F H a d) (ys : List V) : H a ≠ .some (HO.tup ys) := by
  intro e
  cases d with
  | lst ds => obtain ⟨xs, h, _⟩ := h; rw [h] at e; cases e
  | dk ds => obtain ⟨xs, h, _⟩ := h; rw [h] at e; cases e
  | dt ds => obtain ⟨xs, h, _⟩ := h; rw [h] at e; cases e
  | ins c fs => obtain ⟨C, dx, vs, _, h, _⟩ := h; rw [h] at e; cases e
  | _ => exact False.elim h
theorem OwnAt.mono (x : Ext F F') (e : H' a = H a) (h : OwnAt K cm F H a d) : OwnAt K cm F' H' a d := by
  cases d with
  | lst ds => obtain ⟨xs, h, r⟩ := h; exact ⟨xs, e.trans h, r.ext x⟩
  | dk ds => obtain ⟨xs, h, q, r⟩ := h; exact ⟨xs, e.trans h, q, r.ext x⟩
  | dt ds => obtain ⟨xs, h, q, r⟩ := h; exact ⟨xs, e.trans h, q, r.ext x⟩
  | ins c fs => obtain ⟨C, dx, vs, c, h, q, r⟩ := h; exact ⟨C, dx, vs, c, e.trans h, q, r.ext x⟩
  | _ => exact False.elim h
theorem OwnR.some (h : OwnR K cm F H a d) : ∃ o, H a = some o := h.2.some
theorem OwnR.mono (x : Ext F F') (e : H' a = H a) (hf : F' a = none) (h : OwnR K cm F H a d) : OwnR K cm F' H' a d := ⟨hf, h.2.mono x e⟩
theorem OwnR.grow (g : Grow F H F' H') (h : OwnR K cm F H a d) : OwnR K cm F' H' a d := by
  obtain ⟨o, ho⟩ := h.some
  exact h.mono (Ext.of g.f) ((g.h a o ho).trans ho.symm) (g.nf a (by rw [ho]; simp) h.1)
theorem SlR.grow {i : Nat} {s : Sl} (g : Grow F H F' H') (h : SlR K cm G F H σ i s) : SlR K cm G F' H' σ i s := by
  cases s with
  | no => trivial
  | val d => obtain ⟨v, e, r⟩ := h; exact ⟨v, e, r.ext (Ext.of g.f)⟩
  | own d => obtain ⟨b, e, q, r⟩ := h; exact ⟨b, e, q, r.grow g⟩
  | par d => obtain ⟨b, e, q, r⟩ := h; exact ⟨b, e, q, r.grow g⟩
theorem ER.grow (er : ER K cm G F H σ ρ) (g : Grow F H F' H') : ER K cm G F' H' σ ρ where
  sub := g.sub
  f0 := er.f0.trans (Ext.of g.f)
  h0 := fun b o e n m => g.h b o (er.h0 b o e n m)
  live := fun b e => by
    cases q : H b with
    | none => exact absurd q (er.live b e)
    | some o => rw [g.h b o q]; simp
  nf := fun b e n m => g.nf b (er.live b e) (er.nf b e n m)
  slot := fun i s e => (er.slot i s e).grow g
  inj := er.inj
  len := er.len
  tp := g.tp er.tp
end

/-! ### results -/
structure Exn where
  c : Str
  fs : List (Str × D)
inductive R (α : Type) where
  | ok (a : α) | exc (x : Exn)
abbrev M (α : Type) := Env → Option (R α × Env)
namespace M
def ret {α : Type} (a : α) : M α := fun ρ => some (.ok a, ρ)
def fail {α : Type} : M α := fun _ => none
def raise {α : Type} (x : Exn) : M α := fun ρ => some (.exc x, ρ)
def bind {α β : Type} (m : M α) (k : α → M β) : M β := fun ρ => match m ρ with
  | none => none
  | some (.ok a, ρ') => k a ρ'
  | some (.exc x, ρ') => some (.exc x, ρ')
def lift {α : Type} (o : Option α) : M α := fun ρ => match o with
  | none => none
  | some a => some (.ok a, ρ)
end M
section
variable (K : PySem.W.Frag) (cm : Str → Option Addr)
/-- an exception: its class, its own dict -/
def XR (F : Hp) (x : Exn) (cv : Value) (dx : Option Addr) : Prop := (∃ C, cm x.c = some C ∧ cv = .ref C) ∧
  ((dx = none ∧ x.fs = []) ∨ ∃ d vs, dx = some d ∧ F d = some (.xd vs) ∧ vs.map (·.1) = x.fs.map (·.1) ∧ Rps K cm F (x.fs.map (·.2)) (vs.map (·.2)))
/-- what is wanted behind -/
def Post (G : Gd) (W : WX) (σ : St) (F : Hp) {α β : Type} (rel : Gd → Hp → Hp → St → Env → α → β → Prop) (Q : β → Hp → Prop) (r : R α) (ρ' : Env) : Prop :=
  ∀ F' H', ER K cm G F' H' σ ρ' → Ext F F' → match r with
    | .ok a => ∀ b, rel G F' H' σ ρ' a b → Q b H'
    | .exc x => ∀ cv dx, XR K cm F' x cv dx → W cv dx σ H'
end
abbrev Rel (α β : Type) := Gd → Hp → Hp → St → Env → α → β → Prop
/-- a reading does f on the slots, under P at its start -/
def JdP (X : Cx) (cm : Str → Option Addr) (W : WX) {α β : Type} (P : Gd → Hp → Hp → St → Env → Prop) (rel : Rel α β) (t : St → Hp → (β → Hp → Prop) → Prop) (f : M α) : Prop :=
  ∀ (G : Gd) (F H : Hp) (σ : St) (ρ : Env) (r : R α) (ρ' : Env), ER X.K cm G F H σ ρ → P G F H σ ρ → f ρ = some (r, ρ') → ∀ Q : β → Hp → Prop, Post X.K cm G W σ F rel Q r ρ' → t σ H Q
abbrev Jd (X : Cx) (cm : Str → Option Addr) (W : WX) {α β : Type} (rel : Rel α β) (t : St → Hp → (β → Hp → Prop) → Prop) (f : M α) : Prop := JdP X cm W (fun _ _ _ _ _ => True) rel t f

/-- a value -/
def rV (K : PySem.W.Frag) (cm : Str → Option Addr) : Rel D V := fun _ F _ _ _ d v => Rp K cm F d v
def rB : Rel Bool Bool := fun _ _ _ _ _ a b => a = b
/-- an operand: a value, or the name of a thing that its slot owns -/
inductive Op where
  | v (d : D) | s (i : Nat)
def rO (K : PySem.W.Frag) (cm : Str → Option Addr) : Rel Op V := fun _ F _ σ _ o v => match o with
  | .v d => Rp K cm F d v
  | .s i => σ[i]? = some (some v)
def ownOf : Sl → Option D
  | .own d => some d
  | .par d => some d
  | _ => none
/-- what an operand is worth -/
def res (ρ : Env) : Op → Option D
  | .v d => some d
  | .s i => (ρ[i]?).bind ownOf
/-- a value that may be read, frozen or owned -/
def Rv (K : PySem.W.Frag) (cm : Str → Option Addr) (F H : Hp) (d : D) (v : V) : Prop := Rp K cm F d v ∨ ∃ a, v = .ref a ∧ F a = none ∧ OwnAt K cm F H a d
/-- a new object, not frozen, that no slot owns -/
def rF (K : PySem.W.Frag) (cm : Str → Option Addr) : Rel D V := fun G F H σ ρ d v => ∃ a, v = .ref a ∧ Free G a ∧ OwnR K cm F H a d ∧ ∀ (i : Nat) (s : Sl), ρ[i]? = some s → owns s = true → σ[i]? ≠ some (some (V.ref a))

theorem rO_res {K : PySem.W.Frag} {cm : Str → Option Addr} {G : Gd} {F H F' H' : Hp} {σ : St} {ρ ρ' : Env} {o : Op} {v : V} {d : D} (h : rO K cm G F H σ ρ o v) (x : Ext F F') (er : ER K cm G F' H' σ ρ') (e : res ρ' o = some d) : Rv K cm F' H' d v := by
  cases o with
  | v d' =>
    have : d' = d := Option.some.inj e
    subst this
    exact .inl (Rp.ext x h)
  | s i =>
    have hv : σ[i]? = some (some v) := h
    have e' : (ρ'[i]?).bind ownOf = some d := e
    cases q : ρ'[i]? with
    | none => rw [q] at e'; cases e'
    | some s =>
      rw [q] at e'
      have e2 : ownOf s = some d := e'
      have hs := er.slot i s q
      cases s with
      | no => cases e2
      | val _ => cases e2
      | own d' =>
        have : d' = d := Option.some.inj e2
        subst this
        obtain ⟨a, e1, _, r⟩ := hs
        rw [hv] at e1
        have ev : v = .ref a := Option.some.inj (Option.some.inj e1)
        exact .inr ⟨a, ev, r.1, r.2⟩
      | par d' =>
        have : d' = d := Option.some.inj e2
        subst this
        obtain ⟨a, e1, _, r⟩ := hs
        rw [hv] at e1
        have ev : v = .ref a := Option.some.inj (Option.some.inj e1)
        exact .inr ⟨a, ev, r.1, r.2⟩

/-! ### judgements -/
section
variable (X : Cx) (cm : Str → Option Addr) (W : WX)
def PD (e : Expr) (f : M D) : Prop := ∃ t : TE, PE X e t ∧ Jd X cm W (rV X.K cm) t f
def PO (e : Expr) (f : M Op) : Prop := ∃ t : TE, PE X e t ∧ Jd X cm W (rO X.K cm) t f
def PF (e : Expr) (f : M D) : Prop := ∃ t : TE, PE X e t ∧ Jd X cm W (rF X.K cm) t f
def PB (e : Expr) (f : M Bool) : Prop := ∃ t : TT, PT X e t ∧ Jd X cm W rB t f
end

section
variable {X : Cx} {cm : Str → Option Addr} {W : WX} {α β γ δ : Type}
/-- one reading behind another one -/
theorem JdP.bind {P : Gd → Hp → Hp → St → Env → Prop} {rel1 : Rel α β} {rel2 : Rel γ δ} {t1 : St → Hp → (β → Hp → Prop) → Prop} {t2 : β → St → Hp → (δ → Hp → Prop) → Prop} {f : M α} {k : α → M γ}
    (j1 : JdP X cm W P rel1 t1 f) (j2 : ∀ (a : α) (b : β) (F0 : Hp), JdP X cm W (fun G F H σ ρ => rel1 G F H σ ρ a b) rel2 (t2 b) (k a)) :
    JdP X cm W P rel2 (fun σ H Q => t1 σ H fun b H1 => t2 b σ H1 Q) (M.bind f k) := by
  intro G F H σ ρ r ρ' er hp hf Q hQ
  unfold M.bind at hf
  cases e : f ρ with
  | none => rw [e] at hf; cases hf
  | some p =>
    obtain ⟨ra, ρ1⟩ := p
    rw [e] at hf
    refine j1 G F H σ ρ ra ρ1 er hp e _ ?_
    intro F1 H1 er1 x1
    cases ra with
    | exc x =>
      cases hf
      exact hQ F1 H1 er1 x1
    | ok a =>
      intro b hb
      refine j2 a b F1 G F1 H1 σ ρ1 r ρ' er1 hb hf Q ?_
      intro F2 H2 er2 x2
      exact hQ F2 H2 er2 (x1.trans x2)
end
end Pd

/-! Pd2: expressions: names, constants, operators, comparisons, tests, arguments, displays, subscripts, built-in calls. -/
namespace Pd
open PySem PySem.Spec L2

def Stable (P : Gd → Hp → Hp → St → Env → Prop) : Prop := ∀ G F H F' H' σ ρ ρ', P G F H σ ρ → Ext F F' → P G F' H' σ ρ'
section
variable {X : Cx} {cm : Str → Option Addr} {W : WX} {α β γ δ : Type}
theorem JdP.weak {P P' : Gd → Hp → Hp → St → Env → Prop} {rel : Rel α β} {t : St → Hp → (β → Hp → Prop) → Prop} {f : M α} (j : JdP X cm W P rel t f) (h : ∀ G F H σ ρ, P' G F H σ ρ → P G F H σ ρ) : JdP X cm W P' rel t f :=
  fun G F H σ ρ r ρ' er hp hf Q hQ => j G F H σ ρ r ρ' er (h _ _ _ _ _ hp) hf Q hQ
theorem JdP.bindS {P : Gd → Hp → Hp → St → Env → Prop} {rel1 : Rel α β} {rel2 : Rel γ δ} {t1 : St → Hp → (β → Hp → Prop) → Prop} {t2 : β → St → Hp → (δ → Hp → Prop) → Prop} {f : M α} {k : α → M γ}
    (st : Stable P) (j1 : JdP X cm W P rel1 t1 f) (j2 : ∀ (a : α) (b : β), JdP X cm W (fun G F H σ ρ => P G F H σ ρ ∧ rel1 G F H σ ρ a b) rel2 (t2 b) (k a)) :
    JdP X cm W P rel2 (fun σ H Q => t1 σ H fun b H1 => t2 b σ H1 Q) (M.bind f k) := by
  intro G F H σ ρ r ρ' er hp hf Q hQ
  unfold M.bind at hf
  cases e : f ρ with
  | none => rw [e] at hf; cases hf
  | some p =>
    obtain ⟨ra, ρ1⟩ := p
    rw [e] at hf
    refine j1 G F H σ ρ ra ρ1 er hp e _ ?_
    intro F1 H1 er1 x1
    cases ra with
    | exc x =>
      cases hf
      exact hQ F1 H1 er1 x1
    | ok a =>
      intro b hb
      refine j2 a b G F1 H1 σ ρ1 r ρ' er1 ⟨st _ _ _ _ _ _ _ _ hp x1, hb⟩ hf Q ?_
      intro F2 H2 er2 x2
      exact hQ F2 H2 er2 (x1.trans x2)
/-- an end that only lets the heaps grow -/
theorem jd_fin {P : Gd → Hp → Hp → St → Env → Prop} {t : St → Hp → (V → Hp → Prop) → Prop} {f : M D}
    (h : ∀ G F H σ ρ r ρ', ER X.K cm G F H σ ρ → P G F H σ ρ → f ρ = some (r, ρ') → ∃ d, r = .ok d ∧ ρ' = ρ ∧ ∀ Q, (∀ F' H' v, Grow F H F' H' → Rp X.K cm F' d v → Q v H') → t σ H Q) : JdP X cm W P (rV X.K cm) t f := by
  intro G F H σ ρ r ρ' er hp hf Q hQ
  obtain ⟨d, rfl, rfl, k⟩ := h G F H σ ρ r ρ' er hp hf
  exact k Q fun F' H' v g hr => hQ F' H' (er.grow g) (Ext.of g.f) v hr
theorem stable_true : Stable (fun _ _ _ _ _ => True) := fun _ _ _ _ _ _ _ _ _ _ => trivial
theorem stable_and {P P' : Gd → Hp → Hp → St → Env → Prop} (a : Stable P) (b : Stable P') : Stable (fun G F H σ ρ => P G F H σ ρ ∧ P' G F H σ ρ) :=
  fun _ _ _ _ _ _ _ _ h x => ⟨a _ _ _ _ _ _ _ _ h.1 x, b _ _ _ _ _ _ _ _ h.2 x⟩
theorem stable_rO {K : PySem.W.Frag} {o : Op} {v : V} : Stable (fun G F H σ ρ => rO K cm G F H σ ρ o v) := fun G F H F' H' σ ρ ρ' h x => by
  cases o with
  | v d => exact Rp.ext x h
  | s i => exact h
theorem stable_rV {K : PySem.W.Frag} {d : D} {v : V} : Stable (fun G F H σ ρ => rV K cm G F H σ ρ d v) := fun G F H F' H' σ ρ ρ' h x => Rp.ext x h
end

/-! ### names and constants -/
def frzAt (i : Nat) : M D := fun ρ => match ρ[i]? with
  | some (.val d) => some (.ok d, ρ)
  | some (.own d) => some (.ok d, ρ.set i (.val d))
  | _ => none
def nameO (i : Nat) : M Op := fun ρ => match ρ[i]? with
  | some (.val d) => some (.ok (.v d), ρ)
  | some (.own _) => some (.ok (.s i), ρ)
  | some (.par _) => some (.ok (.s i), ρ)
  | _ => none
section
variable {X : Cx} {cm : Str → Option Addr} {W : WX}
/-- what a slot owns is frozen -/
theorem ER.freeze {K : PySem.W.Frag} {G : Gd} {F H : Hp} {σ : St} {ρ : Env} {i : Nat} {d : D} (er : ER K cm G F H σ ρ) (e : ρ[i]? = some (.own d)) :
    ∃ a F', σ[i]? = some (some (.ref a)) ∧ ER K cm G F' H σ (ρ.set i (.val d)) ∧ Ext F F' ∧ Rp K cm F' d (.ref a) := by
  obtain ⟨a, e1, hg, hf, ho⟩ := er.slot i _ e
  obtain ⟨o, hH⟩ := ho.some
  have sF : Same F (upd F a o) := fun b u q => by rw [upd_ne (ne_of_none q hf)]; exact q
  have xF : Ext F (upd F a o) := Ext.of sF
  refine ⟨a, upd F a o, e1, ?_, xF, ?_⟩
  · refine ⟨fun b u q => ?_, er.f0.trans xF, er.h0, er.live, fun b q n m => ?_, fun j s q => ?_, fun j k s t qj qk os ot eq => ?_, ?_, er.tp.upF hH⟩
    · by_cases c : b = a
      · subst c; rw [upd_same] at q; cases q; exact hH
      · rw [upd_ne c] at q; exact er.sub b u q
    · have c : b ≠ a := fun z => by subst z; exact hg.elim q m
      rw [upd_ne c]; exact er.nf b q n m
    · by_cases c : j = i
      · subst c
        rw [List.getElem?_set_self (by have := (List.getElem?_eq_some_iff.mp e).1; omega)] at q
        cases q
        refine ⟨.ref a, e1, ?_⟩
        cases d with
        | lst ds => obtain ⟨xs, h, r⟩ := ho; rw [h] at hH; cases hH; exact .lst upd_same (r.ext xF)
        | dk ds => obtain ⟨xs, h, q, r⟩ := ho; rw [h] at hH; cases hH; exact .dk ⟨_, upd_same, rfl⟩ q (r.ext xF)
        | dt ds => obtain ⟨xs, h, q, r⟩ := ho; rw [h] at hH; cases hH; exact .dt ⟨_, upd_same, rfl⟩ q (r.ext xF)
        | ins c fs => obtain ⟨C, dx, vs, c, h, q, r⟩ := ho; rw [h] at hH; cases hH; exact .ins c upd_same q (r.ext xF)
        | _ => exact False.elim ho
      · rw [List.getElem?_set_ne (Ne.symm c)] at q
        have hs := er.slot j s q
        cases s with
        | no => trivial
        | val d' => obtain ⟨v, e2, r⟩ := hs; exact ⟨v, e2, r.ext xF⟩
        | own d' =>
          obtain ⟨b, e2, q2, r⟩ := hs
          have hb : b ≠ a := fun z => by
            subst z
            exact c (er.inj j i _ _ q e rfl rfl (e2.trans e1.symm))
          exact ⟨b, e2, q2, r.mono xF rfl (by rw [upd_ne hb]; exact r.1)⟩
        | par d' =>
          obtain ⟨b, e2, q2, r⟩ := hs
          have hb : b ≠ a := fun z => by
            subst z
            exact c (er.inj j i _ _ q e rfl rfl (e2.trans e1.symm))
          exact ⟨b, e2, q2, r.mono xF rfl (by rw [upd_ne hb]; exact r.1)⟩
    · by_cases cj : j = i
      · subst cj
        rw [List.getElem?_set_self (by have := (List.getElem?_eq_some_iff.mp e).1; omega)] at qj
        cases qj; cases os
      · by_cases ck : k = i
        · subst ck
          rw [List.getElem?_set_self (by have := (List.getElem?_eq_some_iff.mp e).1; omega)] at qk
          cases qk; cases ot
        · rw [List.getElem?_set_ne (Ne.symm cj)] at qj
          rw [List.getElem?_set_ne (Ne.symm ck)] at qk
          exact er.inj j k s t qj qk os ot eq
    · rw [List.length_set]; exact er.len
  · cases d with
    | lst ds => obtain ⟨xs, h, r⟩ := ho; rw [h] at hH; cases hH; exact .lst upd_same (r.ext xF)
    | dk ds => obtain ⟨xs, h, q, r⟩ := ho; rw [h] at hH; cases hH; exact .dk ⟨_, upd_same, rfl⟩ q (r.ext xF)
    | dt ds => obtain ⟨xs, h, q, r⟩ := ho; rw [h] at hH; cases hH; exact .dt ⟨_, upd_same, rfl⟩ q (r.ext xF)
    | ins c fs => obtain ⟨C, dx, vs, c, h, q, r⟩ := ho; rw [h] at hH; cases hH; exact .ins c upd_same q (r.ext xF)
    | _ => exact False.elim ho
end
section
variable {X : Cx} {cm : Str → Option Addr} {W : WX} {pos : Pos}
theorem pd_name (i : Nat) {x : Str} (hN : X.N[i]? = some x := by rfl) (hv : Vis X.env.scope x := by first | exact Or.inl rfl | exact Or.inr (Or.inl rfl) | exact Or.inr (Or.inr rfl)) (hd : (x == ("__debug__" : Str)) = false := by decide)
    (hcd : (x == ("__classdict__" : Str)) = false := by decide) : PD X cm W (.Name x pos) (frzAt i) := by
  refine ⟨tVar i, pe_var hN hv hd hcd, fun G F H σ ρ r ρ' er _ hf Q hQ => ?_⟩
  unfold frzAt at hf
  cases e : ρ[i]? with
  | none => rw [e] at hf; cases hf
  | some s =>
    rw [e] at hf
    cases s with
    | no => cases hf
    | par _ => cases hf
    | val d =>
      cases hf
      obtain ⟨v, e1, r⟩ := er.slot i _ e
      exact ⟨v, e1, hQ F H er (Ext.refl F) v r⟩
    | own d =>
      cases hf
      obtain ⟨a, F', e1, er', xF, r⟩ := er.freeze e
      exact ⟨.ref a, e1, hQ F' H er' xF _ r⟩
theorem po_name (i : Nat) {x : Str} (hN : X.N[i]? = some x := by rfl) (hv : Vis X.env.scope x := by first | exact Or.inl rfl | exact Or.inr (Or.inl rfl) | exact Or.inr (Or.inr rfl)) (hd : (x == ("__debug__" : Str)) = false := by decide)
    (hcd : (x == ("__classdict__" : Str)) = false := by decide) : PO X cm W (.Name x pos) (nameO i) := by
  refine ⟨tVar i, pe_var hN hv hd hcd, fun G F H σ ρ r ρ' er _ hf Q hQ => ?_⟩
  unfold nameO at hf
  cases e : ρ[i]? with
  | none => rw [e] at hf; cases hf
  | some s =>
    rw [e] at hf
    cases s with
    | no => cases hf
    | val d =>
      cases hf
      obtain ⟨v, e1, r⟩ := er.slot i _ e
      exact ⟨v, e1, hQ F H er (Ext.refl F) v r⟩
    | own d =>
      cases hf
      obtain ⟨a, e1, _⟩ := er.slot i _ e
      exact ⟨.ref a, e1, hQ F H er (Ext.refl F) (.ref a) e1⟩
    | par d =>
      cases hf
      obtain ⟨a, e1, _⟩ := er.slot i _ e
      exact ⟨.ref a, e1, hQ F H er (Ext.refl F) (.ref a) e1⟩
theorem jd_const {t : TE} {d : D} {v : V} (ht : ∀ σ H Q, Q v H → t σ H Q) (hr : ∀ F, Rp X.K cm F d v) : Jd X cm W (rV X.K cm) t (M.ret d) := by
  intro G F H σ ρ r ρ' er _ hf Q hQ
  cases hf
  exact ht _ _ _ (hQ F H er (Ext.refl F) v (hr F))
theorem pd_int {i : Int} {j : Nat} : PD X cm W (.Constant (.int i) j pos) (M.ret (.int i)) := ⟨_, pe_int, jd_const (fun _ _ _ h => h) fun _ => .int i⟩
theorem pd_bl {b : Bool} {j : Nat} : PD X cm W (.Constant (.bool b) j pos) (M.ret (.bl b)) := ⟨_, pe_bl, jd_const (fun _ _ _ h => h) fun _ => .bl b⟩
theorem pd_non {j : Nat} : PD X cm W (.Constant .none j pos) (M.ret .non) := ⟨_, pe_non, jd_const (fun _ _ _ h => h) fun _ => .non⟩
theorem pd_str {x : Str} {j : Nat} : PD X cm W (.Constant (.str x) j pos) (M.ret (.str x)) := ⟨_, pe_str, jd_const (fun _ _ _ h => h) fun _ => .str x⟩
/-- a value as an operand -/
def toO (f : M D) : M Op := M.bind f fun d => M.ret (.v d)
theorem po_of {e : Expr} {f : M D} (h : PD X cm W e f) : PO X cm W e (toO f) := by
  obtain ⟨t, ht, j⟩ := h
  refine ⟨t, ht, ?_⟩
  have := JdP.bindS (X := X) (cm := cm) (W := W) (rel2 := rO X.K cm) (t2 := fun v σ H Q => Q v H) (k := fun d => M.ret (Op.v d)) stable_true j fun d v => (show JdP X cm W _ _ _ _ from fun G F H σ ρ r ρ' er hp hf Q hQ => by
    cases hf
    exact hQ F H er (Ext.refl F) v hp.2)
  exact this
/-- a new object, frozen -/
theorem freeze_new {K : PySem.W.Frag} {G : Gd} {F' H' : Hp} {σ : St} {ρ' : Env} {d : D} {v : V} (er' : ER K cm G F' H' σ ρ') (hv : rF K cm G F' H' σ ρ' d v) {P : Prop}
    (k : ∀ F2, ER K cm G F2 H' σ ρ' → Ext F' F2 → Rp K cm F2 d v → P) : P := by
  obtain ⟨a, rfl, hg, ⟨hf', ho⟩, hn⟩ := hv
  obtain ⟨o, hH⟩ := ho.some
  have sF : Same F' (upd F' a o) := fun b u q => by rw [upd_ne (ne_of_none q hf')]; exact q
  have xF : Ext F' (upd F' a o) := Ext.of sF
  refine k (upd F' a o) ?_ xF ?_
  · refine ⟨fun b u q => ?_, er'.f0.trans xF, er'.h0, er'.live, fun b q n m => ?_, fun kk s q => ?_, er'.inj, er'.len, er'.tp.upF hH⟩
    · by_cases c : b = a
      · subst c; rw [upd_same] at q; cases q; exact hH
      · rw [upd_ne c] at q; exact er'.sub b u q
    · have c : b ≠ a := fun z => by subst z; exact hg.elim q m
      rw [upd_ne c]; exact er'.nf b q n m
    · have hs := er'.slot kk s q
      cases s with
      | no => trivial
      | val d' => obtain ⟨v, e2, r⟩ := hs; exact ⟨v, e2, r.ext xF⟩
      | own d' =>
        obtain ⟨b, e2, q2, r⟩ := hs
        have hb : b ≠ a := fun z => by subst z; exact hn kk _ q rfl e2
        exact ⟨b, e2, q2, r.mono xF rfl (by rw [upd_ne hb]; exact r.1)⟩
      | par d' =>
        obtain ⟨b, e2, q2, r⟩ := hs
        have hb : b ≠ a := fun z => by subst z; exact hn kk _ q rfl e2
        exact ⟨b, e2, q2, r.mono xF rfl (by rw [upd_ne hb]; exact r.1)⟩
  · cases d with
    | lst ds => obtain ⟨xs, h, r⟩ := ho; rw [h] at hH; cases hH; exact .lst upd_same (r.ext xF)
    | dk ds => obtain ⟨xs, h, q, r⟩ := ho; rw [h] at hH; cases hH; exact .dk ⟨_, upd_same, rfl⟩ q (r.ext xF)
    | dt ds => obtain ⟨xs, h, q, r⟩ := ho; rw [h] at hH; cases hH; exact .dt ⟨_, upd_same, rfl⟩ q (r.ext xF)
    | ins c fs => obtain ⟨C, dx, vs, c, h, q, r⟩ := ho; rw [h] at hH; cases hH; exact .ins c upd_same q (r.ext xF)
    | _ => exact False.elim ho
theorem jd_fresh {t : TE} {f : M D} (j : Jd X cm W (rF X.K cm) t f) : Jd X cm W (rV X.K cm) t f := by
  intro G F H σ ρ r ρ' er _ hf Q hQ
  refine j G F H σ ρ r ρ' er trivial hf Q fun F' H' er' x' => ?_
  cases r with
  | exc x => exact hQ F' H' er' x'
  | ok d => exact fun v hv => freeze_new er' hv fun F2 er2 x2 hr => hQ F2 H' er2 (x'.trans x2) v hr
theorem pd_fresh {e : Expr} {f : M D} (h : PF X cm W e f) : PD X cm W e f := by
  obtain ⟨t, ht, j⟩ := h
  exact ⟨t, ht, jd_fresh j⟩
end

/-! ### operators -/
def app2 (g : D → D → Option D) (a b : Op) : M D := fun ρ => (res ρ a).bind fun x => (res ρ b).bind fun y => (g x y).bind fun d => some (.ok d, ρ)
def op2 (g : D → D → Option D) (fa fb : M Op) : M D := M.bind fa fun a => M.bind fb fun b => app2 g a b
def OpD (K : PySem.W.Frag) (cm : Str → Option Addr) (r : R2) (g : D → D → Option D) : Prop :=
  ∀ (F H : Hp) (x y : V) (dx dy d : D), Same F H → Rv K cm F H dx x → Rv K cm F H dy y → g dx dy = some d → ∀ Q : VK, (∀ F' H' v, Grow F H F' H' → Rp K cm F' d v → Q v H') → r x y H Q
section
variable {X : Cx} {cm : Str → Option Addr} {W : WX} {pos : Pos} {a b : Expr} {fa fb : M Op} {ta tb : TE}
theorem jd_op2 {r : R2} {g : D → D → Option D} (ja : Jd X cm W (rO X.K cm) ta fa) (jb : Jd X cm W (rO X.K cm) tb fb) (hg : OpD X.K cm r g) : Jd X cm W (rV X.K cm) (tOp r ta tb) (op2 g fa fb) := by
  unfold op2
  refine JdP.bindS (rel1 := rO X.K cm) (t1 := ta) (t2 := fun x σ H Q => tb σ H fun y H2 => r x y H2 Q) stable_true ja fun oa x => ?_
  refine JdP.bindS (rel1 := rO X.K cm) (t1 := tb) (t2 := fun y σ H Q => r x y H Q) (stable_and stable_true stable_rO) (jb.weak fun _ _ _ _ _ _ => trivial) fun ob y => ?_
  refine jd_fin fun G F H σ ρ r ρ' er hp hf => ?_
  obtain ⟨⟨_, hx⟩, hy⟩ := hp
  unfold app2 at hf
  cases e1 : res ρ oa with
  | none => rw [e1] at hf; cases hf
  | some dx =>
    rw [e1] at hf
    cases e2 : res ρ ob with
    | none => rw [e2] at hf; cases hf
    | some dy =>
      rw [e2] at hf
      cases e3 : g dx dy with
      | none => rw [show ((some dx).bind fun x => (some dy).bind fun y => (g x y).bind fun d => some (R.ok d, ρ)) = (g dx dy).bind fun d => some (R.ok d, ρ) from rfl, e3] at hf; cases hf
      | some d =>
        rw [show ((some dx).bind fun x => (some dy).bind fun y => (g x y).bind fun d => some (R.ok d, ρ)) = (g dx dy).bind fun d => some (R.ok d, ρ) from rfl, e3] at hf
        cases hf
        exact ⟨d, rfl, rfl, fun Q k => hg F H x y dx dy d er.sub (rO_res hx (Ext.refl F) er e1) (rO_res hy (Ext.refl F) er e2) e3 Q k⟩
theorem pd_op {op : Operator} {r : R2} {g : D → D → Option D} (ho : OpR X (binaryOp op) r) (hg : OpD X.K cm r g) (ha : PO X cm W a fa) (hb : PO X cm W b fb) : PD X cm W (.BinOp a op b pos) (op2 g fa fb) := by
  obtain ⟨ta, pa, ja⟩ := ha
  obtain ⟨tb, pb, jb⟩ := hb
  exact ⟨_, pe_op ho pa pb, jd_op2 ja jb hg⟩
theorem pd_cmp {op : CmpOp} {r : R2} {g : D → D → Option D} (ho : OpR X (compareOp op) r) (hg : OpD X.K cm r g) (ha : PO X cm W a fa) (hb : PO X cm W b fb) (hm : behindInMarks op b = false) : PD X cm W (.Compare a [op] [b] pos) (op2 g fa fb) := by
  obtain ⟨ta, pa, ja⟩ := ha
  obtain ⟨tb, pb, jb⟩ := hb
  exact ⟨_, pe_cmpR ho pa pb hm, jd_op2 ja jb hg⟩
/-- a bool's value as a test -/
def asB (f : M D) : M Bool := M.bind f fun d => match d with
  | .bl b => M.ret b
  | _ => M.fail
theorem jd_test {t : TE} {f : M D} (j : Jd X cm W (rV X.K cm) t f) : Jd X cm W rB (tTest t) (asB f) := by
  have h : JdP X cm W (fun _ _ _ _ _ => True) rB (fun σ H Q => t σ H fun v H1 => (fun v σ H Q => ∃ k, v = V.bl k ∧ Q k H) v σ H1 Q) (asB f) := by
    refine JdP.bindS stable_true j fun d v => ?_
    intro G F H σ ρ r ρ' er hp hf Q hQ
    obtain ⟨_, hr⟩ := hp
    cases d with
    | bl c =>
      cases hf
      cases hr
      exact ⟨c, rfl, hQ F H er (Ext.refl F) c rfl⟩
    | _ => cases hf
  exact h
theorem pb_cmp {op : CmpOp} {r : R2} {g : D → D → Option D} (ho : OpR X (compareOp op) r) (hg : OpD X.K cm r g) (ha : PO X cm W a fa) (hb : PO X cm W b fb) (hm : behindInMarks op b = false) : PB X cm W (.Compare a [op] [b] pos) (asB (op2 g fa fb)) := by
  obtain ⟨ta, pa, ja⟩ := ha
  obtain ⟨tb, pb, jb⟩ := hb
  exact ⟨_, pt_cmpR ho pa pb hm, jd_test (jd_op2 ja jb hg)⟩
theorem pb_val {e : Expr} {f : M D} (h : PD X cm W e f) (he : ∀ whole, isTrue e X.env whole = (do let v ← whole; standAt e.pos; holding [v] (truthy v)) := by intro _; rfl) : PB X cm W e (asB f) := by
  obtain ⟨t, p, j⟩ := h
  exact ⟨_, pt_val p he, jd_test j⟩
end

/-! ### the operators by data -/
section
variable {K : PySem.W.Frag} {cm : Str → Option Addr} {F H : Hp}
theorem Rv.int {i : Int} {v : V} (h : Rv K cm F H (.int i) v) : v = .int i := by
  rcases h with h | ⟨a, _, _, h⟩
  · cases h; rfl
  · exact False.elim h
theorem Rv.str {i : Str} {v : V} (h : Rv K cm F H (.str i) v) : v = .str i := by
  rcases h with h | ⟨a, _, _, h⟩
  · cases h; rfl
  · exact False.elim h
theorem Rv.bl {i : Bool} {v : V} (h : Rv K cm F H (.bl i) v) : v = .bl i := by
  rcases h with h | ⟨a, _, _, h⟩
  · cases h; rfl
  · exact False.elim h
theorem Rv.non {v : V} (h : Rv K cm F H .non v) : v = .non := by
  rcases h with h | ⟨a, _, _, h⟩
  · cases h; rfl
  · exact False.elim h
theorem Rv.lst {ds : List D} {v : V} (s : Same F H) (h : Rv K cm F H (.lst ds) v) : ∃ a xs, v = .ref a ∧ H a = some (.lst xs) ∧ Rps K cm F ds xs := by
  rcases h with h | ⟨a, e, _, h⟩
  · cases h with
    | lst h r => exact ⟨_, _, rfl, s _ _ h, r⟩
  · obtain ⟨xs, h, r⟩ := h
    exact ⟨a, xs, e, h, r⟩
theorem Rv.tupX {ds : List D} {v : V} (s : Same F H) (h : Rv K cm F H (.tup ds) v) : ∃ a xs, v = .ref a ∧ F a = some (.tup xs) ∧ Rps K cm F ds xs := by
  rcases h with h | ⟨a, e, _, h⟩
  · cases h with
    | tup h r => exact ⟨_, _, rfl, h, r⟩
  · exact False.elim h
theorem Rv.tup {ds : List D} {v : V} (s : Same F H) (h : Rv K cm F H (.tup ds) v) : ∃ a xs, v = .ref a ∧ SqT K H a xs ∧ Rps K cm F ds xs := by
  obtain ⟨a, xs, e, h1, r⟩ := h.tupX s
  exact ⟨a, xs, e, SqT.of (s _ _ h1), r⟩
theorem Rv.frt {ds : List D} {v : V} (s : Same F H) (h : Rv K cm F H (.frt ds) v) : ∃ a xs, v = .ref a ∧ SqT K H a xs ∧ Rps K cm F ds xs := by
  rcases h with h | ⟨a, e, _, h⟩
  · cases h with
    | frt h r => exact ⟨_, _, rfl, sqT_ext (Ext.of s) h, r⟩
  · exact False.elim h
theorem Rv.frl {ds : List D} {v : V} (s : Same F H) (h : Rv K cm F H (.frl ds) v) : ∃ a xs, v = .ref a ∧ SqL K H a xs ∧ Rps K cm F ds xs := by
  rcases h with h | ⟨a, e, _, h⟩
  · cases h with
    | frl h r => exact ⟨_, _, rfl, sqL_ext (Ext.of s) h, r⟩
  · exact False.elim h
/-- the items of a list or tuple -/
def seqOf : D → Option (List D)
  | .lst ds => some ds
  | .frl ds => some ds
  | .tup ds => some ds
  | .frt ds => some ds
  | _ => none
theorem Rv.seq {d : D} {ds : List D} {v : V} (s : Same F H) (h : Rv K cm F H d v) (e : seqOf d = some ds) : ∃ a xs, v = .ref a ∧ (SqL K H a xs ∨ SqT K H a xs) ∧ Rps K cm F ds xs := by
  cases d with
  | lst es => cases e; obtain ⟨a, xs, e1, h1, r⟩ := h.lst s; exact ⟨a, xs, e1, .inl (SqL.of h1), r⟩
  | frl es => cases e; obtain ⟨a, xs, e1, h1, r⟩ := h.frl s; exact ⟨a, xs, e1, .inl h1, r⟩
  | tup es => cases e; obtain ⟨a, xs, e1, h1, r⟩ := h.tup s; exact ⟨a, xs, e1, .inr h1, r⟩
  | frt es => cases e; obtain ⟨a, xs, e1, h1, r⟩ := h.frt s; exact ⟨a, xs, e1, .inr h1, r⟩
  | _ => cases e

def intG (C : Int → Int → Bool) (f : Int → Int → Int) : D → D → Option D
  | .int i, .int j => if C i j then some (.int (f i j)) else none
  | _, _ => none
theorem od_int {C : Int → Int → Prop} {Cb : Int → Int → Bool} {f : Int → Int → Int} (hC : ∀ i j, Cb i j = true → C i j) : OpD K cm (rI C fun i j => .int (f i j)) (intG Cb f) := by
  intro F H x y dx dy d s hx hy hg Q k
  cases dx with
  | int i =>
    cases dy with
    | int j =>
      have hx' := hx.int
      have hy' := hy.int
      have hg : (if Cb i j = true then some (D.int (f i j)) else none) = some d := hg
      by_cases c : Cb i j = true
      · rw [if_pos c] at hg
        cases hg
        exact ⟨i, j, hx', hy', hC i j c, k F H _ (Grow.refl s) (.int _)⟩
      · rw [if_neg c] at hg; cases hg
    | _ => cases hg
  | _ => cases hg
theorem od_or {r r' : R2} {g g' : D → D → Option D} (h : OpD K cm r g) (h' : OpD K cm r' g') : OpD K cm (fun x y H Q => r x y H Q ∨ r' x y H Q) (fun a b => match g a b with
    | some d => some d
    | none => g' a b) := by
  intro F H x y dx dy d s hx hy hg Q k
  cases e : g dx dy with
  | some d' =>
    have : d' = d := by
      have h2 : (match g dx dy with | some d => some d | none => g' dx dy) = some d := hg
      rw [e] at h2
      exact Option.some.inj h2
    subst this
    exact .inl (h F H x y dx dy d' s hx hy e Q k)
  | none =>
    have h2 : (match g dx dy with | some d => some d | none => g' dx dy) = some d := hg
    rw [e] at h2
    exact .inr (h' F H x y dx dy d s hx hy h2 Q k)
theorem od_imp {r : R2} {g g' : D → D → Option D} (h : OpD K cm r g) (hg : ∀ a b d, g' a b = some d → g a b = some d) : OpD K cm r g' :=
  fun F H x y dx dy d s hx hy e Q k => h F H x y dx dy d s hx hy (hg _ _ _ e) Q k
/-- a + b -/
def addG : D → D → Option D
  | .int i, .int j => some (.int (i + j))
  | .str x, .str y => if x.length + y.length ≤ sizeLine then some (.str (x ++ y)) else none
  | .lst xs, .lst ys => if xs.length + ys.length ≤ sizeLine then some (.lst (xs ++ ys)) else none
  | .tup xs, .tup ys => if xs.isEmpty = false ∧ xs.length + ys.length ≤ sizeLine then some (.tup (xs ++ ys)) else none
  | _, _ => none
def rAddS : R2 := fun x y H Q => ∃ i j, x = .str i ∧ y = .str j ∧ i.length + j.length ≤ sizeLine ∧ Q (.str (i ++ j)) H
def rAddD (K : PySem.W.Frag) : R2 := fun x y H Q => (rI0 (fun i j => .int (i + j)) x y H Q ∨ rAddS x y H Q) ∨ (rCat x y H Q ∨ rCatT K x y H Q)
theorem op_addD {X : Cx} : OpR X (binaryOp .Add) (rAddD X.K) := (op_add.or op_add_str).or (op_cat.or op_catT)
theorem od_add : OpD K cm (rAddD K) addG := by
  intro F H x y dx dy d s hx hy hg Q k
  cases dx with
  | int i =>
    cases dy with
    | int j => cases hg; exact .inl (.inl ⟨i, j, hx.int, hy.int, k F H _ (Grow.refl s) (.int _)⟩)
    | _ => cases hg
  | str i =>
    cases dy with
    | str j =>
      unfold addG at hg
      by_cases c : i.length + j.length ≤ sizeLine
      · simp only [if_pos c] at hg; cases hg; exact .inl (.inr ⟨i, j, hx.str, hy.str, c, k F H _ (Grow.refl s) (.str _)⟩)
      · simp only [if_neg c] at hg; cases hg
    | _ => cases hg
  | lst i =>
    cases dy with
    | lst j =>
      unfold addG at hg
      by_cases c : i.length + j.length ≤ sizeLine
      · simp only [if_pos c] at hg; cases hg
        obtain ⟨a, xs, e1, h1, r1⟩ := hx.lst s
        obtain ⟨b, ys, e2, h2, r2⟩ := hy.lst s
        refine .inr (.inl ⟨a, b, xs, ys, e1, e2, h1, h2, by rw [← r1.length, ← r2.length]; exact c, fun p hp => ?_⟩)
        have g := Grow.new (o := .lst (xs ++ ys)) s hp
        exact k _ _ _ g (.lst upd_same ((r1.append r2).ext (Ext.of g.f)))
      · simp only [if_neg c] at hg; cases hg
    | _ => cases hg
  | tup i =>
    cases dy with
    | tup j =>
      unfold addG at hg
      by_cases c : i.isEmpty = false ∧ i.length + j.length ≤ sizeLine
      · simp only [if_pos c] at hg; cases hg
        obtain ⟨a, xs, e1, h1, r1⟩ := hx.tup s
        obtain ⟨b, ys, e2, h2, r2⟩ := hy.tup s
        refine .inr (.inr ⟨a, b, xs, ys, e1, e2, h1, h2, ?_, by rw [← r1.length, ← r2.length]; exact c.2, fun z => ?_, fun _ p hp => ?_⟩)
        · rintro rfl
          cases r1
          exact absurd c.1 (by decide)
        · subst z
          cases r2
          rw [List.append_nil] at k
          have hx' : Rp K cm F (.tup i) x := by
            rcases hx with h | ⟨_, _, _, h⟩
            · exact h
            · exact False.elim h
          rw [← e1]
          exact k F H _ (Grow.refl s) hx'
        · have g := Grow.new (o := .tup (xs ++ ys)) s hp
          exact k _ _ _ g (.tup upd_same ((r1.append r2).ext (Ext.of g.f)))
      · simp only [if_neg c] at hg; cases hg
    | _ => cases hg
  | _ => cases dy <;> cases hg
end
end Pd

/-! Pd3: comparisons, tests, arguments, displays, subscripts, built-in calls. -/
namespace Pd
open PySem PySem.Spec L2

/-! ### == -/
mutual
def toPy : D → Option PyData
  | .non => some .none
  | .bl b => some (.bool b)
  | .int i => some (.int i)
  | .str x => some (.str x)
  | .tup xs => (toPys xs).map .tuple
  | .lst xs => (toPys xs).map .list
  | .frl xs => (toPys xs).map .list
  | .frt xs => (toPys xs).map .tuple
  | .dk _ => none
  | .dt _ => none
  | .ins _ _ => none
  | .exn _ _ => none
def toPys : List D → Option (List PyData)
  | [] => some []
  | d :: ds => (toPy d).bind fun p => (toPys ds).map fun ps => p :: ps
end
section
variable {K : PySem.W.Frag} {cm : Str → Option Addr} {F H : Hp}
mutual
theorem Rp.dp (s : Same F H) : ∀ {d : D} {v : V} {p : PyData}, Rp K cm F d v → toPy d = some p → Dp K H v p
  | _, _, _, .non, e => by cases e; exact .non
  | _, _, _, .bl b, e => by cases e; exact .bl b
  | _, _, _, .int b, e => by cases e; exact .int b
  | _, _, _, .str b, e => by cases e; exact .str b
  | .tup ds, _, p, .tup h r, e => by
    have e : (toPys ds).map PyData.tuple = some p := e
    cases q : toPys ds with
    | none => rw [q] at e; cases e
    | some ps => rw [q] at e; cases e; exact .tup (SqT.of (s _ _ h)) (Rps.dp s r q)
  | .frt ds, _, p, .frt h r, e => by
    have e : (toPys ds).map PyData.tuple = some p := e
    cases q : toPys ds with
    | none => rw [q] at e; cases e
    | some ps => rw [q] at e; cases e; exact .tup (sqT_ext (Ext.of s) h) (Rps.dp s r q)
  | .lst ds, _, p, .lst h r, e => by
    have e : (toPys ds).map PyData.list = some p := e
    cases q : toPys ds with
    | none => rw [q] at e; cases e
    | some ps => rw [q] at e; cases e; exact .lst (SqL.of (s _ _ h)) (Rps.dp s r q)
  | .frl ds, _, p, .frl h r, e => by
    have e : (toPys ds).map PyData.list = some p := e
    cases q : toPys ds with
    | none => rw [q] at e; cases e
    | some ps => rw [q] at e; cases e; exact .lst (sqL_ext (Ext.of s) h) (Rps.dp s r q)
  | .exn _ _, _, _, .exn0 _ _, e => by cases e
  | .exn _ _, _, _, .exn _ _ _ _ _, e => by cases e
theorem Rps.dp (s : Same F H) : ∀ {ds : List D} {vs : List V} {ps : List PyData}, Rps K cm F ds vs → toPys ds = some ps → DpAll K H vs ps
  | _, _, _, .nil, e => by cases e; exact .nil
  | d :: ds, _, ps, .cons h r, e => by
    have e : ((toPy d).bind fun p => (toPys ds).map fun ps => p :: ps) = some ps := e
    cases q : toPy d with
    | none => rw [q] at e; cases e
    | some p =>
      rw [q] at e
      have e : ((toPys ds).map fun ps => p :: ps) = some ps := e
      cases q2 : toPys ds with
      | none => rw [q2] at e; cases e
      | some ps2 => rw [q2] at e; cases e; exact .cons (Rp.dp s h q) (Rps.dp s r q2)
end
theorem Rv.dp {d : D} {v : V} {p : PyData} (s : Same F H) (h : Rv K cm F H d v) (e : toPy d = some p) : Dp K H v p := by
  rcases h with h | ⟨a, rfl, _, h⟩
  · exact h.dp s e
  · cases d with
    | lst ds =>
      obtain ⟨xs, h, r⟩ := h
      have e : (toPys ds).map PyData.list = some p := e
      cases q : toPys ds with
      | none => rw [q] at e; cases e
      | some ps => rw [q] at e; cases e; exact .lst (SqL.of h) (Rps.dp s r q)
    | dk _ => cases e
    | dt _ => cases e
    | ins _ _ => cases e
    | _ => exact False.elim h
end
def eqP (a b : D) : Option Bool := (toPy a).bind fun p => (toPy b).bind fun q => if SeqAt.shaped p = true ∧ SeqAt.shaped q = true then some (PyData.eqv p q) else none
def eqG (a b : D) : Option D := (eqP a b).map .bl
def neG (a b : D) : Option D := (eqP a b).map fun k => .bl (!k)
theorem eqP_some {a b : D} {k : Bool} (h : eqP a b = some k) : ∃ p q, toPy a = some p ∧ toPy b = some q ∧ SeqAt.shaped p = true ∧ SeqAt.shaped q = true ∧ k = PyData.eqv p q := by
  unfold eqP at h
  cases e1 : toPy a with
  | none => rw [e1] at h; cases h
  | some p =>
    rw [e1] at h
    cases e2 : toPy b with
    | none => rw [e2] at h; cases h
    | some q =>
      rw [e2] at h
      have h : (if SeqAt.shaped p = true ∧ SeqAt.shaped q = true then some (PyData.eqv p q) else none) = some k := h
      by_cases c : SeqAt.shaped p = true ∧ SeqAt.shaped q = true
      · rw [if_pos c] at h; cases h; exact ⟨p, q, rfl, rfl, c.1, c.2, rfl⟩
      · rw [if_neg c] at h; cases h
theorem od_eq {K : PySem.W.Frag} {cm : Str → Option Addr} : OpD K cm (rEqD K) eqG := by
  intro F H x y dx dy d s hx hy hg Q k
  unfold eqG at hg
  cases e : eqP dx dy with
  | none => rw [e] at hg; cases hg
  | some b =>
    rw [e] at hg; cases hg
    obtain ⟨p, q, h1, h2, s1, s2, rfl⟩ := eqP_some e
    exact ⟨p, q, hx.dp s h1, hy.dp s h2, s1, s2, k F H _ (Grow.refl s) (.bl _)⟩
theorem od_ne {K : PySem.W.Frag} {cm : Str → Option Addr} : OpD K cm (rNeD K) neG := by
  intro F H x y dx dy d s hx hy hg Q k
  unfold neG at hg
  cases e : eqP dx dy with
  | none => rw [e] at hg; cases hg
  | some b =>
    rw [e] at hg; cases hg
    obtain ⟨p, q, h1, h2, s1, s2, rfl⟩ := eqP_some e
    exact ⟨p, q, hx.dp s h1, hy.dp s h2, s1, s2, k F H _ (Grow.refl s) (.bl _)⟩

/-! ### order of ints and texts -/
def rCmp (fi : Int → Int → Bool) (fs : Str → Str → Bool) : R2 := fun x y H Q => rI0 (fun i j => .bl (fi i j)) x y H Q ∨ ∃ i j, x = .str i ∧ y = .str j ∧ Q (.bl (fs i j)) H
def cmpG (fi : Int → Int → Bool) (fs : Str → Str → Bool) : D → D → Option D
  | .int i, .int j => some (.bl (fi i j))
  | .str i, .str j => some (.bl (fs i j))
  | _, _ => none
theorem od_cmp {K : PySem.W.Frag} {cm : Str → Option Addr} {fi : Int → Int → Bool} {fs : Str → Str → Bool} : OpD K cm (rCmp fi fs) (cmpG fi fs) := by
  intro F H x y dx dy d s hx hy hg Q k
  cases dx with
  | int i =>
    cases dy with
    | int j => cases hg; exact .inl ⟨i, j, hx.int, hy.int, k F H _ (Grow.refl s) (.bl _)⟩
    | _ => cases hg
  | str i =>
    cases dy with
    | str j => cases hg; exact .inr ⟨i, j, hx.str, hy.str, k F H _ (Grow.refl s) (.bl _)⟩
    | _ => cases hg
  | _ => cases dy <;> cases hg
def ltS (i j : Str) : Bool := decide (i.cps.toList < j.cps.toList)
abbrev ltG := cmpG (fun i j => decide (i < j)) ltS
abbrev leG := cmpG (fun i j => decide (i ≤ j)) (fun i j => !ltS j i)
abbrev gtG := cmpG (fun i j => decide (j < i)) (fun i j => ltS j i)
abbrev geG := cmpG (fun i j => decide (j ≤ i)) (fun i j => !ltS i j)
section
variable {X : Cx}
theorem op_ltC : OpR X (compareOp .Lt) (rCmp (fun i j => decide (i < j)) ltS) := op_lt.or op_lt_str
theorem op_leC : OpR X (compareOp .LtE) (rCmp (fun i j => decide (i ≤ j)) (fun i j => !ltS j i)) := op_le.or op_le_str
theorem op_gtC : OpR X (compareOp .Gt) (rCmp (fun i j => decide (j < i)) (fun i j => ltS j i)) := op_gt.or op_gt_str
theorem op_geC : OpR X (compareOp .GtE) (rCmp (fun i j => decide (j ≤ i)) (fun i j => !ltS i j)) := op_ge.or op_ge_str
end
/-! ### in, is None -/
/-- what is flat, as a value -/
def flatOf : D → Option V
  | .non => some .non
  | .bl b => some (.bl b)
  | .int i => some (.int i)
  | .str x => some (.str x)
  | _ => none
def flats : List D → Option (List V)
  | [] => some []
  | d :: ds => (flatOf d).bind fun v => (flats ds).map fun vs => v :: vs
theorem flatOf_rp {K : PySem.W.Frag} {cm : Str → Option Addr} {F : Hp} {d : D} {v w : V} (h : Rp K cm F d v) (e : flatOf d = some w) : v = w ∧ flatV w = true := by
  cases h <;> cases e <;> exact ⟨rfl, rfl⟩
theorem flats_rps {K : PySem.W.Frag} {cm : Str → Option Addr} {F : Hp} : ∀ {ds : List D} {vs ws : List V}, Rps K cm F ds vs → flats ds = some ws → vs = ws ∧ ws.all flatV = true
  | _, _, _, .nil, e => by cases e; exact ⟨rfl, rfl⟩
  | d :: ds, _, ws, .cons h r, e => by
    have e : ((flatOf d).bind fun v => (flats ds).map fun vs => v :: vs) = some ws := e
    cases q : flatOf d with
    | none => rw [q] at e; cases e
    | some w =>
      rw [q] at e
      have e : ((flats ds).map fun vs => w :: vs) = some ws := e
      cases q2 : flats ds with
      | none => rw [q2] at e; cases e
      | some w2 =>
        rw [q2] at e; cases e
        obtain ⟨e1, f1⟩ := flatOf_rp h q
        obtain ⟨e2, f2⟩ := flats_rps r q2
        subst e1; subst e2
        exact ⟨rfl, by simp [f1, f2]⟩
def strOf : D → Option Str
  | .str z => some z
  | _ => none
def signOf (d : D) : Option Nat := match strOf d with
  | none => none
  | some s => match s.cps.toList with
    | [c] => some c
    | _ => none
theorem signOf_eq {d : D} {c : Nat} (h : signOf d = some c) : d = .str ⟨#[c]⟩ := by
  cases d with
  | str s =>
    have h : (match s.cps.toList with | [c] => some c | _ => none) = some c := h
    obtain ⟨⟨l⟩⟩ := s
    match l, h with
    | [c'], h => cases h; rfl
  | _ => cases h
theorem strOf_eq {d : D} {z : Str} (h : strOf d = some z) : d = .str z := by
  cases d <;> cases h
  rfl
def inB (x : D) (ys : D) : Option Bool := match strOf ys with
  | some z => (signOf x).map fun c => decide (c ∈ z.cps.toList)
  | none => (seqOf ys).bind fun l => (flatOf x).bind fun v => (flats l).bind fun vs => some (inV v vs)
def inG (x y : D) : Option D := (inB x y).map .bl
def notInG (x y : D) : Option D := (inB x y).map fun k => .bl (!k)
def rInD (K : PySem.W.Frag) : R2 := fun x y H Q => rIn K false x y H Q ∨ ∃ (c : Nat) (z : Str), x = .str ⟨#[c]⟩ ∧ y = .str z ∧ Q (.bl (decide (c ∈ z.cps.toList))) H
def rNotInD (K : PySem.W.Frag) : R2 := fun x y H Q => rIn K true x y H Q ∨ ∃ (c : Nat) (z : Str), x = .str ⟨#[c]⟩ ∧ y = .str z ∧ Q (.bl (!decide (c ∈ z.cps.toList))) H
theorem Rv.flat {K : PySem.W.Frag} {cm : Str → Option Addr} {F H : Hp} {d : D} {v w : V} (h : Rv K cm F H d v) (e : flatOf d = some w) : v = w ∧ flatV w = true := by
  rcases h with h | ⟨_, _, _, h⟩
  · exact flatOf_rp h e
  · cases d <;> first | exact False.elim h | cases e
theorem inB_case {K : PySem.W.Frag} {cm : Str → Option Addr} {F H : Hp} {x y : V} {dx dy : D} {b : Bool} (s : Same F H) (hx : Rv K cm F H dx x) (hy : Rv K cm F H dy y) (h : inB dx dy = some b) :
    (∃ p xs, y = .ref p ∧ (SqL K H p xs ∨ SqT K H p xs) ∧ flatV x = true ∧ xs.all flatV = true ∧ b = inV x xs) ∨ (∃ (c : Nat) (z : Str), x = .str ⟨#[c]⟩ ∧ y = .str z ∧ b = decide (c ∈ z.cps.toList)) := by
  have gen : ((seqOf dy).bind fun l => (flatOf dx).bind fun v => (flats l).bind fun vs => some (inV v vs)) = some b →
      ∃ p xs, y = .ref p ∧ (SqL K H p xs ∨ SqT K H p xs) ∧ flatV x = true ∧ xs.all flatV = true ∧ b = inV x xs := by
    intro h
    cases q : seqOf dy with
    | none => rw [q] at h; cases h
    | some l =>
      rw [q] at h
      have h : ((flatOf dx).bind fun v => (flats l).bind fun vs => some (inV v vs)) = some b := h
      cases q1 : flatOf dx with
      | none => rw [q1] at h; cases h
      | some w =>
        rw [q1] at h
        have h : ((flats l).bind fun vs => some (inV w vs)) = some b := h
        cases q2 : flats l with
        | none => rw [q2] at h; cases h
        | some ws =>
          rw [q2] at h; cases h
          obtain ⟨a, xs, e, hs, r⟩ := hy.seq s q
          obtain ⟨e1, f1⟩ := hx.flat q1
          obtain ⟨e2, f2⟩ := flats_rps r q2
          subst e1; subst e2
          exact ⟨a, _, e, hs, f1, f2, rfl⟩
  unfold inB at h
  cases q : strOf dy with
  | some z =>
    rw [q] at h
    have h : ((signOf dx).map fun c => decide (c ∈ z.cps.toList)) = some b := h
    have ey := strOf_eq q
    subst ey
    cases q2 : signOf dx with
    | none => rw [q2] at h; cases h
    | some c =>
      rw [q2] at h; cases h
      have ex := signOf_eq q2
      subst ex
      exact .inr ⟨c, z, hx.str, hy.str, rfl⟩
  | none =>
    rw [q] at h
    exact .inl (gen h)
theorem od_in {K : PySem.W.Frag} {cm : Str → Option Addr} : OpD K cm (rInD K) inG := by
  intro F H x y dx dy d s hx hy hg Q k
  unfold inG at hg
  cases e : inB dx dy with
  | none => rw [e] at hg; cases hg
  | some b =>
    rw [e] at hg; cases hg
    have k' := k F H _ (Grow.refl s) (.bl b)
    rcases inB_case s hx hy e with ⟨p, xs, e1, h1, f1, f2, rfl⟩ | ⟨c, z, e1, e2, rfl⟩
    · exact .inl ⟨p, xs, e1, h1, f1, f2, k'⟩
    · exact .inr ⟨c, z, e1, e2, k'⟩
theorem od_notIn {K : PySem.W.Frag} {cm : Str → Option Addr} : OpD K cm (rNotInD K) notInG := by
  intro F H x y dx dy d s hx hy hg Q k
  unfold notInG at hg
  cases e : inB dx dy with
  | none => rw [e] at hg; cases hg
  | some b =>
    rw [e] at hg; cases hg
    have k' := k F H _ (Grow.refl s) (.bl (!b))
    rcases inB_case s hx hy e with ⟨p, xs, e1, h1, f1, f2, rfl⟩ | ⟨c, z, e1, e2, rfl⟩
    · exact .inl ⟨p, xs, e1, h1, f1, f2, k'⟩
    · exact .inr ⟨c, z, e1, e2, k'⟩
theorem op_inD {X : Cx} : OpR X (compareOp .In) (rInD X.K) := op_in_seq.or op_in_sign
theorem op_notInD {X : Cx} : OpR X (compareOp .NotIn) (rNotInD X.K) := op_notIn_seq.or op_notIn_sign
def isNon : D → Bool
  | .non => true
  | _ => false
theorem Rv.isNon {K : PySem.W.Frag} {cm : Str → Option Addr} {F H : Hp} {d : D} {v : V} (h : Rv K cm F H d v) : decide (v = .non) = isNon d := by
  rcases h with h | ⟨a, rfl, _, h⟩
  · cases h <;> simp [Pd.isNon]
  · cases d <;> first | exact False.elim h | simp [Pd.isNon]
def isG : D → D → Option D
  | d, .non => some (.bl (isNon d))
  | _, _ => none
def isNotG : D → D → Option D
  | d, .non => some (.bl (!isNon d))
  | _, _ => none
theorem od_is {K : PySem.W.Frag} {cm : Str → Option Addr} : OpD K cm (fun x y H Q => y = .non ∧ Q (.bl (decide (x = .non))) H) isG := by
  intro F H x y dx dy d s hx hy hg Q k
  cases dy with
  | non =>
    have e : d = .bl (isNon dx) := by cases dx <;> exact (Option.some.inj hg).symm
    subst e
    exact ⟨hy.non, by rw [hx.isNon]; exact k F H _ (Grow.refl s) (.bl _)⟩
  | _ => cases dx <;> cases hg
theorem od_isNot {K : PySem.W.Frag} {cm : Str → Option Addr} : OpD K cm (fun x y H Q => y = .non ∧ Q (.bl (!decide (x = .non))) H) isNotG := by
  intro F H x y dx dy d s hx hy hg Q k
  cases dy with
  | non =>
    have e : d = .bl (!isNon dx) := by cases dx <;> exact (Option.some.inj hg).symm
    subst e
    exact ⟨hy.non, by rw [hx.isNon]; exact k F H _ (Grow.refl s) (.bl _)⟩
  | _ => cases dx <;> cases hg

/-! ### tests -/
def andB (f g : M Bool) : M Bool := M.bind f fun c => if c = true then g else M.ret false
def orB (f g : M Bool) : M Bool := M.bind f fun c => if c = true then M.ret true else g
def notB (f : M Bool) : M Bool := M.bind f fun c => M.ret (!c)
def ifD (f : M Bool) (g h : M D) : M D := M.bind f fun c => if c = true then g else h
def andD (f g : M D) : M D := M.bind f fun d => match d with
  | .bl true => g
  | .bl false => M.ret (.bl false)
  | _ => M.fail
def orD (f g : M D) : M D := M.bind f fun d => match d with
  | .bl true => M.ret (.bl true)
  | .bl false => g
  | _ => M.fail
def notD (f : M D) : M D := M.bind f fun d => match d with
  | .bl b => M.ret (.bl (!b))
  | _ => M.fail
/-- a value's truth -/
def truG : D → Option Bool
  | .non => some false
  | .bl b => some b
  | .int i => some (i != 0)
  | .str x => if x.length ≤ sizeLine then some ((x.length : Int) != 0) else none
  | .tup xs => some (!xs.isEmpty)
  | .lst xs => some (!xs.isEmpty)
  | .frl xs => some (!xs.isEmpty)
  | .frt xs => some (!xs.isEmpty)
  | _ => none
def truB (f : M Op) : M Bool := M.bind f fun o ρ => (res ρ o).bind fun d => (truG d).bind fun b => some (.ok b, ρ)
section
variable {X : Cx} {cm : Str → Option Addr} {W : WX} {pos : Pos} {a b c : Expr} {rest : List Expr} {fa fb fc : M D} {ga gb : M Bool}
def PWB (X : Cx) (cm : Str → Option Addr) (W : WX) (e : Expr) (f : M Bool) : Prop := ∃ t : TT, PW X e t ∧ Jd X cm W rB t f
theorem pb_w {e : Expr} {f : M Bool} (h : PWB X cm W e f) : PB X cm W e f := by
  obtain ⟨t, p, j⟩ := h
  exact ⟨t, p.pt, j⟩
theorem jd_retB {P : Gd → Hp → Hp → St → Env → Prop} {b : Bool} : JdP X cm W P rB (fun _ H Q => Q b H) (M.ret b) := by
  intro G F H σ ρ r ρ' er _ hf Q hQ
  cases hf
  exact hQ F H er (Ext.refl F) b rfl
theorem jd_and {t u : TT} (ja : Jd X cm W rB t ga) (jb : Jd X cm W rB u gb) : Jd X cm W rB (tAnd t u) (andB ga gb) := by
  unfold andB
  refine JdP.bindS (rel1 := rB) (t1 := t) (t2 := fun c σ H Q => if c = true then u σ H Q else Q false H) stable_true ja fun c c' => ?_
  intro G F H σ ρ r ρ' er hp hf Q hQ
  obtain ⟨_, rfl⟩ := hp
  cases c with
  | true => exact jb G F H σ ρ r ρ' er trivial hf Q hQ
  | false => exact jd_retB (P := fun _ _ _ _ _ => True) G F H σ ρ r ρ' er trivial hf Q hQ
theorem jd_or {t u : TT} (ja : Jd X cm W rB t ga) (jb : Jd X cm W rB u gb) : Jd X cm W rB (tOr t u) (orB ga gb) := by
  unfold orB
  refine JdP.bindS (rel1 := rB) (t1 := t) (t2 := fun c σ H Q => if c = true then Q true H else u σ H Q) stable_true ja fun c c' => ?_
  intro G F H σ ρ r ρ' er hp hf Q hQ
  obtain ⟨_, rfl⟩ := hp
  cases c with
  | false => exact jb G F H σ ρ r ρ' er trivial hf Q hQ
  | true => exact jd_retB (P := fun _ _ _ _ _ => True) G F H σ ρ r ρ' er trivial hf Q hQ
theorem pw_and1' (h : PB X cm W a ga) : PWB X cm W (.BoolOp .And [a] pos) ga := by
  obtain ⟨t, p, j⟩ := h
  exact ⟨t, pw_and1 p, j⟩
theorem pw_or1' (h : PB X cm W a ga) : PWB X cm W (.BoolOp .Or [a] pos) ga := by
  obtain ⟨t, p, j⟩ := h
  exact ⟨t, pw_or1 p, j⟩
theorem pw_and' (h : PB X cm W a ga) (h2 : PWB X cm W (.BoolOp .And (b :: rest) pos) gb) : PWB X cm W (.BoolOp .And (a :: b :: rest) pos) (andB ga gb) := by
  obtain ⟨t, p, j⟩ := h
  obtain ⟨u, p2, j2⟩ := h2
  exact ⟨_, pw_and p p2, jd_and j j2⟩
theorem pw_or' (h : PB X cm W a ga) (h2 : PWB X cm W (.BoolOp .Or (b :: rest) pos) gb) : PWB X cm W (.BoolOp .Or (a :: b :: rest) pos) (orB ga gb) := by
  obtain ⟨t, p, j⟩ := h
  obtain ⟨u, p2, j2⟩ := h2
  exact ⟨_, pw_or p p2, jd_or j j2⟩
theorem pb_not (h : PB X cm W a ga) : PB X cm W (.UnaryOp .Not a pos) (notB ga) := by
  obtain ⟨t, p, j⟩ := h
  refine ⟨_, pt_not p, ?_⟩
  unfold notB
  refine JdP.bindS (rel1 := rB) (t1 := t) (t2 := fun c σ H Q => Q (!c) H) stable_true j fun c c' => ?_
  intro G F H σ ρ r ρ' er hp hf Q hQ
  obtain ⟨_, rfl⟩ := hp
  cases hf
  exact hQ F H er (Ext.refl F) _ rfl
theorem pd_ifExp (hc : PB X cm W c ga) (ha : PD X cm W a fa) (hb : PD X cm W b fb) : PD X cm W (.IfExp c a b pos) (ifD ga fa fb) := by
  obtain ⟨t, p, j⟩ := hc
  obtain ⟨ta, pa, ja⟩ := ha
  obtain ⟨tb, pb, jb⟩ := hb
  refine ⟨_, pe_ifExp p pa pb, ?_⟩
  unfold ifD
  refine JdP.bindS (rel1 := rB) (t1 := t) (t2 := fun c σ H Q => if c = true then ta σ H Q else tb σ H Q) stable_true j fun c c' => ?_
  intro G F H σ ρ r ρ' er hp hf Q hQ
  obtain ⟨_, rfl⟩ := hp
  cases c with
  | true => exact ja G F H σ ρ r ρ' er trivial hf Q hQ
  | false => exact jb G F H σ ρ r ρ' er trivial hf Q hQ
theorem pd_one {op : BoolOp} (h : PD X cm W a fa) : PD X cm W (.BoolOp op [a] pos) fa := by
  obtain ⟨t, p, j⟩ := h
  exact ⟨t, pe_one p, j⟩
theorem pd_and (ha : PD X cm W a fa) (hb : PD X cm W (.BoolOp .And (b :: rest) pos) fb) : PD X cm W (.BoolOp .And (a :: b :: rest) pos) (andD fa fb) := by
  obtain ⟨ta, pa, ja⟩ := ha
  obtain ⟨tb, pb, jb⟩ := hb
  refine ⟨_, pe_and pa pb, ?_⟩
  unfold andD
  refine JdP.bindS (rel1 := rV X.K cm) (t1 := ta) (t2 := fun x σ H Q => ∃ c, x = V.bl c ∧ if c = true then tb σ H Q else Q (.bl false) H) stable_true ja fun d x => ?_
  intro G F H σ ρ r ρ' er hp hf Q hQ
  obtain ⟨_, hr⟩ := hp
  cases d with
  | bl k =>
    cases hr
    refine ⟨k, rfl, ?_⟩
    cases k with
    | true => exact jb G F H σ ρ r ρ' er trivial hf Q hQ
    | false => cases hf; exact hQ F H er (Ext.refl F) _ (.bl false)
  | _ => cases hf
theorem pd_or (ha : PD X cm W a fa) (hb : PD X cm W (.BoolOp .Or (b :: rest) pos) fb) : PD X cm W (.BoolOp .Or (a :: b :: rest) pos) (orD fa fb) := by
  obtain ⟨ta, pa, ja⟩ := ha
  obtain ⟨tb, pb, jb⟩ := hb
  refine ⟨_, pe_or pa pb, ?_⟩
  unfold orD
  refine JdP.bindS (rel1 := rV X.K cm) (t1 := ta) (t2 := fun x σ H Q => ∃ c, x = V.bl c ∧ if c = true then Q (.bl true) H else tb σ H Q) stable_true ja fun d x => ?_
  intro G F H σ ρ r ρ' er hp hf Q hQ
  obtain ⟨_, hr⟩ := hp
  cases d with
  | bl k =>
    cases hr
    refine ⟨k, rfl, ?_⟩
    cases k with
    | false => exact jb G F H σ ρ r ρ' er trivial hf Q hQ
    | true => cases hf; exact hQ F H er (Ext.refl F) _ (.bl true)
  | _ => cases hf
theorem pd_not (ha : PD X cm W a fa) : PD X cm W (.UnaryOp .Not a pos) (notD fa) := by
  obtain ⟨ta, pa, ja⟩ := ha
  refine ⟨_, pe_not pa, ?_⟩
  unfold notD
  refine JdP.bindS (rel1 := rV X.K cm) (t1 := ta) (t2 := fun x σ H Q => ∃ c, x = V.bl c ∧ Q (V.bl (!c)) H) stable_true ja fun d x => ?_
  intro G F H σ ρ r ρ' er hp hf Q hQ
  obtain ⟨_, hr⟩ := hp
  cases d with
  | bl k =>
    cases hr
    cases hf
    exact ⟨k, rfl, hQ F H er (Ext.refl F) _ (.bl _)⟩
  | _ => cases hf
theorem tru_rv {F H : Hp} {d : D} {x : V} {k : Bool} (s : Same F H) (h : Rv X.K cm F H d x) (e : truG d = some k) : TruV X.K x H k := by
  cases d with
  | non => cases e; rw [h.non]; exact rfl
  | bl b => cases e; rw [h.bl]; exact rfl
  | int i => cases e; rw [h.int]; exact rfl
  | str z =>
    rw [h.str]
    have e : (if z.length ≤ sizeLine then some ((z.length : Int) != 0) else none) = some k := e
    by_cases c : z.length ≤ sizeLine
    · rw [if_pos c] at e; cases e; exact ⟨c, rfl⟩
    · rw [if_neg c] at e; cases e
  | tup ds =>
    cases e
    obtain ⟨a, xs, rfl, h1, r⟩ := h.tup s
    exact .inr (.inl ⟨xs, h1, by cases r <;> rfl⟩)
  | frt ds =>
    cases e
    obtain ⟨a, xs, rfl, h1, r⟩ := h.frt s
    exact .inr (.inl ⟨xs, h1, by cases r <;> rfl⟩)
  | lst ds =>
    cases e
    obtain ⟨a, xs, rfl, h1, r⟩ := h.lst s
    exact .inl ⟨xs, SqL.of h1, by cases r <;> rfl⟩
  | frl ds =>
    cases e
    obtain ⟨a, xs, rfl, h1, r⟩ := h.frl s
    exact .inl ⟨xs, h1, by cases r <;> rfl⟩
  | _ => cases e
theorem pb_truth {f : M Op} (h : PO X cm W a f) (he : ∀ whole, isTrue a X.env whole = (do let v ← whole; standAt a.pos; holding [v] (truthy v)) := by intro _; rfl) : PB X cm W a (truB f) := by
  obtain ⟨t, p, j⟩ := h
  refine ⟨_, pt_truth p he, ?_⟩
  unfold truB
  refine JdP.bindS (rel1 := rO X.K cm) (t1 := t) (t2 := fun x σ H Q => ∃ k, TruV X.K x H k ∧ Q k H) stable_true j fun o x => ?_
  intro G F H σ ρ r ρ' er hp hf Q hQ
  obtain ⟨_, ho⟩ := hp
  have hf : ((res ρ o).bind fun d => (truG d).bind fun b => some (R.ok b, ρ)) = some (r, ρ') := hf
  cases e1 : res ρ o with
  | none => rw [e1] at hf; cases hf
  | some d =>
    rw [e1] at hf
    have hf : ((truG d).bind fun b => some (R.ok b, ρ)) = some (r, ρ') := hf
    cases e2 : truG d with
    | none => rw [e2] at hf; cases hf
    | some k =>
      rw [e2] at hf; cases hf
      exact ⟨k, tru_rv er.sub (rO_res ho (Ext.refl F) er e1) e2, hQ F H er (Ext.refl F) k rfl⟩
end
/-! ### a op b op c -/
def chain3 (g g' : D → D → Option D) (fa fb fc : M Op) : M D := M.bind fa fun a => M.bind fb fun b => M.bind (app2 g a b) fun z => match z with
  | .bl true => M.bind fc fun c => app2 g' b c
  | .bl false => M.ret (.bl false)
  | _ => M.fail
theorem jd_app2 {X : Cx} {cm : Str → Option Addr} {W : WX} {r : R2} {g : D → D → Option D} {oa ob : Op} {x y : V} (hg : OpD X.K cm r g) :
    JdP X cm W (fun G F H σ ρ => rO X.K cm G F H σ ρ oa x ∧ rO X.K cm G F H σ ρ ob y) (rV X.K cm) (fun _ H Q => r x y H Q) (app2 g oa ob) := by
  refine jd_fin fun G F H σ ρ r ρ' er hp hf => ?_
  obtain ⟨hx, hy⟩ := hp
  unfold app2 at hf
  cases e1 : res ρ oa with
  | none => rw [e1] at hf; cases hf
  | some dx =>
    rw [e1] at hf
    cases e2 : res ρ ob with
    | none => rw [e2] at hf; cases hf
    | some dy =>
      rw [e2] at hf
      have hf : ((g dx dy).bind fun d => some (R.ok d, ρ)) = some (r, ρ') := hf
      cases e3 : g dx dy with
      | none => rw [e3] at hf; cases hf
      | some d =>
        rw [e3] at hf
        cases hf
        exact ⟨d, rfl, rfl, fun Q k => hg F H x y dx dy d er.sub (rO_res hx (Ext.refl F) er e1) (rO_res hy (Ext.refl F) er e2) e3 Q k⟩
section
variable {X : Cx} {cm : Str → Option Addr} {W : WX} {pos : Pos} {a b c : Expr} {fa fb fc : M Op}
theorem jd_chain {r r' : R2} {g g' : D → D → Option D} {ta tb tc : TE} (ja : Jd X cm W (rO X.K cm) ta fa) (jb : Jd X cm W (rO X.K cm) tb fb) (jc : Jd X cm W (rO X.K cm) tc fc) (hg : OpD X.K cm r g) (hg' : OpD X.K cm r' g') :
    Jd X cm W (rV X.K cm) (tChain r r' ta tb tc) (chain3 g g' fa fb fc) := by
  unfold chain3
  refine JdP.bindS (rel1 := rO X.K cm) (t1 := ta) (t2 := fun x σ H Q => tb σ H fun y H2 => r x y H2 fun z H3 => ∃ k, z = .bl k ∧ (if k = true then tc σ H3 fun w' H4 => r' y w' H4 Q else Q (.bl false) H3)) stable_true ja fun oa x => ?_
  refine JdP.bindS (rel1 := rO X.K cm) (t1 := tb) (t2 := fun y σ H Q => r x y H fun z H3 => ∃ k, z = .bl k ∧ (if k = true then tc σ H3 fun w' H4 => r' y w' H4 Q else Q (.bl false) H3)) (stable_and stable_true stable_rO) (jb.weak fun _ _ _ _ _ _ => trivial) fun ob y => ?_
  refine JdP.bindS (rel1 := rV X.K cm) (t1 := fun _ H Q => r x y H Q) (t2 := fun z σ H3 Q => ∃ k, z = .bl k ∧ (if k = true then tc σ H3 fun w' H4 => r' y w' H4 Q else Q (.bl false) H3)) (stable_and (stable_and stable_true stable_rO) stable_rO)
    ((jd_app2 hg).weak fun _ _ _ _ _ h => ⟨h.1.2, h.2⟩) fun z zv => ?_
  intro G F H σ ρ q ρ' er hp hf Q hQ
  obtain ⟨⟨⟨_, hx⟩, hy⟩, hz⟩ := hp
  cases z with
  | bl k =>
    cases hz
    refine ⟨k, rfl, ?_⟩
    cases k with
    | true =>
      exact JdP.bindS (P := fun G F H σ ρ => rO X.K cm G F H σ ρ ob y) (rel1 := rO X.K cm) (t1 := tc) (t2 := fun w' σ H Q => r' y w' H Q) stable_rO (jc.weak fun _ _ _ _ _ _ => trivial) (fun oc w => jd_app2 hg') G F H σ ρ q ρ' er hy hf Q hQ
    | false => cases hf; exact hQ F H er (Ext.refl F) _ (.bl false)
  | _ => cases hf
theorem pd_chain {op op' : CmpOp} {r r' : R2} {g g' : D → D → Option D} (ho : OpR X (compareOp op) r) (ho' : OpR X (compareOp op') r') (hg : OpD X.K cm r g) (hg' : OpD X.K cm r' g') (ha : PO X cm W a fa) (hb : PO X cm W b fb) (hc : PO X cm W c fc)
    (hm : lastMarks [op, op'] [b, c] = false := by with_unfolding_all rfl) : PD X cm W (.Compare a [op, op'] [b, c] pos) (chain3 g g' fa fb fc) := by
  obtain ⟨ta, pa, ja⟩ := ha
  obtain ⟨tb, pb, jb⟩ := hb
  obtain ⟨tc, pc, jc⟩ := hc
  exact ⟨_, pe_chain ho ho' pa pb pc hm, jd_chain ja jb jc hg hg'⟩
theorem pb_chain {op op' : CmpOp} {r r' : R2} {g g' : D → D → Option D} (ho : OpR X (compareOp op) r) (ho' : OpR X (compareOp op') r') (hg : OpD X.K cm r g) (hg' : OpD X.K cm r' g') (ha : PO X cm W a fa) (hb : PO X cm W b fb) (hc : PO X cm W c fc)
    (hm : lastMarks [op, op'] [b, c] = false := by with_unfolding_all rfl) : PB X cm W (.Compare a [op, op'] [b, c] pos) (asB (chain3 g g' fa fb fc)) := by
  obtain ⟨ta, pa, ja⟩ := ha
  obtain ⟨tb, pb, jb⟩ := hb
  obtain ⟨tc, pc, jc⟩ := hc
  exact ⟨_, pt_chain ho ho' pa pb pc hm, jd_test (jd_chain ja jb jc hg hg')⟩
end
end Pd

/-! Pd4: arguments, displays, subscripts, slices, built-in calls. -/
namespace Pd
open PySem PySem.Spec L2

/-! ### arguments as operands; values of a display -/
def rOs (K : PySem.W.Frag) (cm : Str → Option Addr) : Rel (List Op) (List V) := fun G F H σ ρ os vs => Paired (rO K cm G F H σ ρ) os vs
def rVs (K : PySem.W.Frag) (cm : Str → Option Addr) : Rel (List D) (List V) := fun _ F _ _ _ ds vs => Rps K cm F ds vs
def consO (f : M Op) (g : M (List Op)) : M (List Op) := M.bind f fun o => M.bind g fun os => M.ret (o :: os)
def consD (f : M D) (g : M (List D)) : M (List D) := M.bind f fun o => M.bind g fun os => M.ret (o :: os)
def resN (ρ : Env) : List Op → Option (List D)
  | [] => some []
  | o :: os => (res ρ o).bind fun d => (resN ρ os).bind fun ds => some (d :: ds)
def appN (g : List D → Option D) (os : List Op) : M D := fun ρ => (resN ρ os).bind fun ds => (g ds).bind fun d => some (.ok d, ρ)
def CallD (K : PySem.W.Frag) (cm : Str → Option Addr) (r : List V → Hp → VK → Prop) (g : List D → Option D) : Prop :=
  ∀ (F H : Hp) (vs : List V) (ds : List D) (d : D), Same F H → Paired (Rv K cm F H) ds vs → g ds = some d → ∀ Q : VK, (∀ F' H' v, Grow F H F' H' → Rp K cm F' d v → Q v H') → r vs H Q
/-- a new object -/
def CallF (K : PySem.W.Frag) (cm : Str → Option Addr) (r : List V → Hp → VK → Prop) (g : List D → Option D) : Prop :=
  ∀ (F H : Hp) (vs : List V) (ds : List D) (d : D), Same F H → TF F H → Paired (Rv K cm F H) ds vs → g ds = some d → ∀ Q : VK, (∀ F' H' a, Grow F H F' H' → H a = none → F' a = none → OwnAt K cm F' H' a d → Q (.ref a) H') → r vs H Q
section
variable {X : Cx} {cm : Str → Option Addr} {W : WX} {pos : Pos} {e : Expr} {es : List Expr} {f : M Op} {fd : M D} {fs : M (List Op)} {fds : M (List D)}
def PAs (X : Cx) (cm : Str → Option Addr) (W : WX) (es : List Expr) (f : M (List Op)) : Prop := ∃ t : TA, PA X es t ∧ Jd X cm W (rOs X.K cm) t f
def PVs (X : Cx) (cm : Str → Option Addr) (W : WX) (es : List Expr) (f : M (List D)) : Prop := ∃ t : TA, PA X es t ∧ Jd X cm W (rVs X.K cm) t f
theorem stable_rOs {K : PySem.W.Frag} {os : List Op} {vs : List V} : Stable (fun G F H σ ρ => rOs K cm G F H σ ρ os vs) := fun G F H F' H' σ ρ ρ' h x =>
  Paired.mapP h fun o v hv => stable_rO (o := o) (v := v) G F H F' H' σ ρ ρ' hv x
theorem stable_rVs {K : PySem.W.Frag} {os : List D} {vs : List V} : Stable (fun G F H σ ρ => rVs K cm G F H σ ρ os vs) := fun G F H F' H' σ ρ ρ' h x => Rps.ext x h
theorem pas_nil : PAs X cm W [] (M.ret []) := ⟨tNil, pa_nil, fun G F H σ ρ r ρ' er _ hf Q hQ => by
  cases hf
  exact hQ F H er (Ext.refl F) [] .nil⟩
theorem pvs_nil : PVs X cm W [] (M.ret []) := ⟨tNil, pa_nil, fun G F H σ ρ r ρ' er _ hf Q hQ => by
  cases hf
  exact hQ F H er (Ext.refl F) [] .nil⟩
theorem pas_cons (h : PO X cm W e f) (hs : PAs X cm W es fs) (hst : starEach (e :: es) X.env = (false, eval e X.env) :: starEach es X.env := by rfl) : PAs X cm W (e :: es) (consO f fs) := by
  obtain ⟨t, p, j⟩ := h
  obtain ⟨u, p2, j2⟩ := hs
  refine ⟨_, pa_cons p p2 hst, ?_⟩
  unfold consO
  refine JdP.bindS (rel1 := rO X.K cm) (t1 := t) (t2 := fun x σ H Q => u σ H fun xs H2 => Q (x :: xs) H2) stable_true j fun o x => ?_
  refine JdP.bindS (rel1 := rOs X.K cm) (t1 := u) (t2 := fun xs σ H Q => Q (x :: xs) H) (stable_and stable_true stable_rO) (j2.weak fun _ _ _ _ _ _ => trivial) fun os xs => ?_
  intro G F H σ ρ r ρ' er hp hf Q hQ
  cases hf
  exact hQ F H er (Ext.refl F) _ (.cons hp.1.2 hp.2)
theorem pvs_cons (h : PD X cm W e fd) (hs : PVs X cm W es fds) (hst : starEach (e :: es) X.env = (false, eval e X.env) :: starEach es X.env := by rfl) : PVs X cm W (e :: es) (consD fd fds) := by
  obtain ⟨t, p, j⟩ := h
  obtain ⟨u, p2, j2⟩ := hs
  refine ⟨_, pa_cons p p2 hst, ?_⟩
  unfold consD
  refine JdP.bindS (rel1 := rV X.K cm) (t1 := t) (t2 := fun x σ H Q => u σ H fun xs H2 => Q (x :: xs) H2) stable_true j fun o x => ?_
  refine JdP.bindS (rel1 := rVs X.K cm) (t1 := u) (t2 := fun xs σ H Q => Q (x :: xs) H) (stable_and stable_true stable_rV) (j2.weak fun _ _ _ _ _ _ => trivial) fun os xs => ?_
  intro G F H σ ρ r ρ' er hp hf Q hQ
  cases hf
  exact hQ F H er (Ext.refl F) _ (.cons hp.1.2 hp.2)
theorem resN_rv {K : PySem.W.Frag} {G : Gd} {F H : Hp} {σ : St} {ρ : Env} (er : ER K cm G F H σ ρ) : ∀ {os : List Op} {vs : List V} {ds : List D}, Paired (rO K cm G F H σ ρ) os vs → resN ρ os = some ds → Paired (Rv K cm F H) ds vs
  | _, _, _, .nil, e => by cases e; exact .nil
  | o :: os, _, ds, .cons h r, e => by
    have e : ((res ρ o).bind fun d => (resN ρ os).bind fun ds => some (d :: ds)) = some ds := e
    cases q : res ρ o with
    | none => rw [q] at e; cases e
    | some d =>
      rw [q] at e
      have e : ((resN ρ os).bind fun ds => some (d :: ds)) = some ds := e
      cases q2 : resN ρ os with
      | none => rw [q2] at e; cases e
      | some ds2 => rw [q2] at e; cases e; exact .cons (rO_res h (Ext.refl F) er q) (resN_rv er r q2)
def callD (g : List D → Option D) (fs : M (List Op)) : M D := M.bind fs fun os => appN g os
theorem jd_callD {r : List V → Hp → VK → Prop} {g : List D → Option D} {t : TA} (j : Jd X cm W (rOs X.K cm) t fs) (hg : CallD X.K cm r g) : Jd X cm W (rV X.K cm) (fun σ H Q => t σ H fun vs H1 => r vs H1 Q) (callD g fs) := by
  unfold callD
  refine JdP.bindS (rel1 := rOs X.K cm) (t1 := t) (t2 := fun vs σ H Q => r vs H Q) stable_true j fun os vs => ?_
  refine jd_fin fun G F H σ ρ r ρ' er hp hf => ?_
  obtain ⟨_, hv⟩ := hp
  have hf : ((resN ρ os).bind fun ds => (g ds).bind fun d => some (R.ok d, ρ)) = some (r, ρ') := hf
  cases e1 : resN ρ os with
  | none => rw [e1] at hf; cases hf
  | some ds =>
    rw [e1] at hf
    have hf : ((g ds).bind fun d => some (R.ok d, ρ)) = some (r, ρ') := hf
    cases e2 : g ds with
    | none => rw [e2] at hf; cases hf
    | some d =>
      rw [e2] at hf; cases hf
      exact ⟨d, rfl, rfl, fun Q k => hg F H vs ds d er.sub (resN_rv er hv e1) e2 Q k⟩
/-- an end that makes a new object -/
theorem jd_finF {P : Gd → Hp → Hp → St → Env → Prop} {t : St → Hp → (V → Hp → Prop) → Prop} {f : M D}
    (h : ∀ G F H σ ρ r ρ', ER X.K cm G F H σ ρ → P G F H σ ρ → f ρ = some (r, ρ') → ∃ d, r = .ok d ∧ ρ' = ρ ∧ ∀ Q, (∀ F' H' a, Grow F H F' H' → H a = none → F' a = none → OwnAt X.K cm F' H' a d → Q (.ref a) H') → t σ H Q) : JdP X cm W P (rF X.K cm) t f := by
  intro G F H σ ρ r ρ' er hp hf Q hQ
  obtain ⟨d, rfl, rfl, k⟩ := h G F H σ ρ r ρ' er hp hf
  refine k Q fun F' H' a g ha hf' ho => hQ F' H' (er.grow g) (Ext.of g.f) (.ref a) ⟨a, rfl, .inl ?_, ⟨hf', ho⟩, fun i s e os z => ?_⟩
  · cases q : G.H0 a with
    | none => rfl
    | some o => exact absurd ha (er.live a (by rw [q]; simp))
  · have hs := er.slot i s e
    cases s with
    | own d' =>
      obtain ⟨b, e2, _, r⟩ := hs
      rw [z] at e2
      have : a = b := V.ref.inj (Option.some.inj (Option.some.inj e2))
      subst this
      obtain ⟨o, q⟩ := r.some
      rw [ha] at q; cases q
    | par d' =>
      obtain ⟨b, e2, _, r⟩ := hs
      rw [z] at e2
      have : a = b := V.ref.inj (Option.some.inj (Option.some.inj e2))
      subst this
      obtain ⟨o, q⟩ := r.some
      rw [ha] at q; cases q
    | _ => cases os
theorem jd_callF {r : List V → Hp → VK → Prop} {g : List D → Option D} {t : TA} (j : Jd X cm W (rOs X.K cm) t fs) (hg : CallF X.K cm r g) : Jd X cm W (rF X.K cm) (fun σ H Q => t σ H fun vs H1 => r vs H1 Q) (callD g fs) := by
  unfold callD
  refine JdP.bindS (rel1 := rOs X.K cm) (t1 := t) (t2 := fun vs σ H Q => r vs H Q) stable_true j fun os vs => ?_
  refine jd_finF fun G F H σ ρ r ρ' er hp hf => ?_
  obtain ⟨_, hv⟩ := hp
  have hf : ((resN ρ os).bind fun ds => (g ds).bind fun d => some (R.ok d, ρ)) = some (r, ρ') := hf
  cases e1 : resN ρ os with
  | none => rw [e1] at hf; cases hf
  | some ds =>
    rw [e1] at hf
    have hf : ((g ds).bind fun d => some (R.ok d, ρ)) = some (r, ρ') := hf
    cases e2 : g ds with
    | none => rw [e2] at hf; cases hf
    | some d =>
      rw [e2] at hf; cases hf
      exact ⟨d, rfl, rfl, fun Q k => hg F H vs ds d er.sub er.tp (resN_rv er hv e1) e2 Q k⟩
/-! ### displays -/
def tupD (f : M (List D)) : M D := M.bind f fun ds => if ds.length ≤ sizeLine then M.ret (.tup ds) else M.fail
def lstD (f : M (List D)) : M D := M.bind f fun ds => if ds.length ≤ sizeLine then M.ret (.lst ds) else M.fail
theorem pd_tup {k : Nat} (h : PVs X cm W es fds) : PD X cm W (.Tuple es k pos) (tupD fds) := by
  obtain ⟨t, p, j⟩ := h
  refine ⟨_, pe_tup p, ?_⟩
  unfold tupD
  refine JdP.bindS (rel1 := rVs X.K cm) (t1 := t) (t2 := fun xs σ H1 Q => xs.length ≤ sizeLine ∧ ∀ p, H1 p = none → Q (V.ref p) (upd H1 p (.tup xs))) stable_true j fun ds xs => ?_
  refine jd_fin fun G F H σ ρ r ρ' er hp hf => ?_
  obtain ⟨_, hv⟩ := hp
  have hv : Rps X.K cm F ds xs := hv
  by_cases c : ds.length ≤ sizeLine
  · rw [if_pos c] at hf
    cases hf
    refine ⟨_, rfl, rfl, fun Q k => ⟨by rw [← hv.length]; exact c, fun q hq => ?_⟩⟩
    have g := Grow.new (o := .tup xs) er.sub hq
    exact k _ _ _ g (.tup upd_same (hv.ext (Ext.of g.f)))
  · rw [if_neg c] at hf; cases hf
theorem pf_lst (h : PVs X cm W es fds) : PF X cm W (.List es pos) (lstD fds) := by
  obtain ⟨t, p, j⟩ := h
  refine ⟨_, pe_lst p, ?_⟩
  unfold lstD
  refine JdP.bindS (rel1 := rVs X.K cm) (t1 := t) (t2 := fun xs σ H1 Q => xs.length ≤ sizeLine ∧ ∀ p, H1 p = none → Q (V.ref p) (upd H1 p (.lst xs))) stable_true j fun ds xs => ?_
  refine jd_finF fun G F H σ ρ r ρ' er hp hf => ?_
  obtain ⟨_, hv⟩ := hp
  have hv : Rps X.K cm F ds xs := hv
  by_cases c : ds.length ≤ sizeLine
  · rw [if_pos c] at hf
    cases hf
    refine ⟨_, rfl, rfl, fun Q k => ⟨by rw [← hv.length]; exact c, fun q hq => ?_⟩⟩
    exact k _ _ _ (Grow.newH er.sub hq) hq (er.sub.free hq) ⟨xs, upd_same, hv⟩
  · rw [if_neg c] at hf; cases hf
theorem pf_dk : PF X cm W (.Dict [] [] pos) (M.ret (.dk [])) := ⟨_, pe_dnewK, jd_finF fun G F H σ ρ r ρ' er _ hf => by
  cases hf
  exact ⟨_, rfl, rfl, fun Q k d hd => k _ _ _ (Grow.newH er.sub hd) hd (er.sub.free hd) ⟨[], upd_same, rfl, .nil⟩⟩⟩
theorem pf_dt : PF X cm W (.Dict [] [] pos) (M.ret (.dt [])) := ⟨_, pe_dnewT, jd_finF fun G F H σ ρ r ρ' er _ hf => by
  cases hf
  exact ⟨_, rfl, rfl, fun Q k d hd => k _ _ _ (Grow.newH er.sub hd) hd (er.sub.free hd) ⟨[], upd_same, rfl, .nil⟩⟩⟩
end
/-! ### subscripts -/
def ixG : D → D → Option D
  | d, .int i => match strOf d with
    | some z => if z.length ≤ sizeLine then (atI z.cps.toList i).map fun c => .str ⟨#[c]⟩ else none
    | none => (seqOf d).bind fun ds => atI ds i
  | _, _ => none
theorem atI_rps {K : PySem.W.Frag} {cm : Str → Option Addr} {F : Hp} {ds : List D} {vs : List V} {i : Int} {d : D} (r : Rps K cm F ds vs) (h : atI ds i = some d) : ∃ v, atI vs i = some v ∧ Rp K cm F d v := by
  unfold atI at h ⊢
  rw [r.length] at h
  cases q : ixN vs.length i with
  | none => rw [q] at h; cases h
  | some j =>
    rw [q] at h
    exact r.getD h
theorem od_ix {K : PySem.W.Frag} {cm : Str → Option Addr} : OpD K cm (rIx K) ixG := by
  intro F H x y dx dy d s hx hy hg Q k
  cases dy with
  | int i =>
    have hy' := hy.int
    have hg : (match strOf dx with
      | some z => if z.length ≤ sizeLine then (atI z.cps.toList i).map fun c => D.str ⟨#[c]⟩ else none
      | none => (seqOf dx).bind fun ds => atI ds i) = some d := by cases dx <;> exact hg
    cases q : strOf dx with
    | some z =>
      rw [q] at hg
      have hg2 : (if z.length ≤ sizeLine then (atI z.cps.toList i).map fun c => D.str ⟨#[c]⟩ else none) = some d := hg
      have ex : x = .str z := by have e := strOf_eq q; rw [e] at hx; exact hx.str
      by_cases c : z.length ≤ sizeLine
      · rw [if_pos c] at hg2
        cases q2 : atI z.cps.toList i with
        | none => rw [q2] at hg2; cases hg2
        | some n => rw [q2] at hg2; cases hg2; exact .inr (.inr ⟨z, i, n, ex, hy', c, q2, k F H _ (Grow.refl s) (.str _)⟩)
      · rw [if_neg c] at hg2; cases hg2
    | none =>
      rw [q] at hg
      have hg : ((seqOf dx).bind fun ds => atI ds i) = some d := hg
      cases q2 : seqOf dx with
      | none => rw [q2] at hg; cases hg
      | some ds =>
        rw [q2] at hg
        have hg : atI ds i = some d := hg
        obtain ⟨a, xs, e, h1, r⟩ := hx.seq s q2
        obtain ⟨v, hv, rv⟩ := atI_rps r hg
        have kk := k F H v (Grow.refl s) rv
        rcases h1 with h1 | h1
        · exact .inl ⟨a, xs, i, v, e, hy', h1, hv, kk⟩
        · exact .inr (.inl ⟨a, xs, i, v, e, hy', h1, hv, kk⟩)
  | _ => cases dx <;> cases hg
section
variable {X : Cx} {cm : Str → Option Addr} {W : WX} {pos p2 : Pos} {a b e : Expr} {fa fb : M Op} {fs : M (List Op)}
theorem pd_ix (ha : PO X cm W a fa) (hb : PO X cm W b fb) (hs : PlainIx b := by intro _ _; rfl) : PD X cm W (.Subscript a b pos) (op2 ixG fa fb) := by
  obtain ⟨ta, pa, ja⟩ := ha
  obtain ⟨tb, pb, jb⟩ := hb
  exact ⟨_, pe_ix ix_seq pa pb hs, jd_op2 ja jb od_ix⟩
/-! ### slices -/
def rPart : Rel (Option Int) (Option Int) := fun _ _ _ _ _ a b => a = b
def PP (X : Cx) (cm : Str → Option Addr) (W : WX) (e : Option Expr) (f : M (Option Int)) : Prop := ∃ t : TO, L2.PO X e t ∧ Jd X cm W rPart t f
def partI (f : M D) : M (Option Int) := M.bind f fun d => match d with
  | .int i => M.ret (some i)
  | _ => M.fail
theorem pp_none : PP X cm W none (M.ret none) := ⟨_, po_none, fun G F H σ ρ r ρ' er _ hf Q hQ => by
  cases hf
  exact hQ F H er (Ext.refl F) none rfl⟩
theorem pp_some {f : M D} (h : PD X cm W e f) : PP X cm W (some e) (partI f) := by
  obtain ⟨t, p, j⟩ := h
  refine ⟨_, po_some p, ?_⟩
  unfold partI
  refine JdP.bindS (rel1 := rV X.K cm) (t1 := t) (t2 := fun x σ H1 Q => ∃ i, x = V.int i ∧ Q (some i) H1) stable_true j fun d x => ?_
  intro G F H σ ρ r ρ' er hp hf Q hQ
  obtain ⟨_, hr⟩ := hp
  cases d with
  | int i => cases hr; cases hf; exact ⟨i, rfl, hQ F H er (Ext.refl F) _ rfl⟩
  | _ => cases hf
def cutL {α : Type} (xs : List α) (lo hi : Option Int) : List α := (xs.drop (HT.sIx xs.length 0 lo)).take (HT.sIx xs.length xs.length hi - HT.sIx xs.length 0 lo)
theorem cutL_rps {K : PySem.W.Frag} {F : Hp} {ds : List D} {vs : List V} (r : Rps K cm F ds vs) (lo hi : Option Int) : Rps K cm F (cutL ds lo hi) (cutV vs lo hi) := by
  unfold cutL cutV
  rw [r.length]
  exact Rps.take _ (Rps.drop _ r)
def slG (lo hi : Option Int) : D → Option D
  | .lst ds => some (.lst (cutL ds lo hi))
  | .frl ds => some (.lst (cutL ds lo hi))
  | .tup ds => some (.tup (cutL ds lo hi))
  | .str z => if z.length ≤ sizeLine then some (.str (cutS z lo hi)) else none
  | _ => none
def rSlD (K : PySem.W.Frag) : V → Option Int → Option Int → Hp → VK → Prop := fun x lo hi H Q => (rSlL K x lo hi H Q ∨ rSlA K x lo hi H Q) ∨ rSlS x lo hi H Q
theorem cutL_whole {α : Type} {xs : List α} {lo hi : Option Int} (h : HT.sIx xs.length 0 lo = 0 ∧ HT.sIx xs.length xs.length hi = xs.length) : cutL xs lo hi = xs := by
  unfold cutL
  rw [h.1, h.2]
  simp
def sliceD (f : M Op) (g h : M (Option Int)) : M D := M.bind f fun o => M.bind g fun lo => M.bind h fun hi ρ => (res ρ o).bind fun d => (slG lo hi d).bind fun z => some (.ok z, ρ)
theorem pd_slice {lo hi : Option Expr} {fl fh : M (Option Int)} (ha : PO X cm W a fa) (hl : PP X cm W lo fl) (hh : PP X cm W hi fh) : PD X cm W (.Subscript a (.Slice lo hi none p2) pos) (sliceD fa fl fh) := by
  obtain ⟨ta, pa, ja⟩ := ha
  obtain ⟨tl, pl, jl⟩ := hl
  obtain ⟨th, ph, jh⟩ := hh
  refine ⟨_, pe_slice ((sl_list.or sl_tupA).or sl_str) pa pl ph, ?_⟩
  unfold sliceD
  refine JdP.bindS (rel1 := rO X.K cm) (t1 := ta) (t2 := fun x σ H1 Q => tl σ H1 fun l H2 => th σ H2 fun u H3 => rSlD X.K x l u H3 Q) stable_true ja fun o x => ?_
  refine JdP.bindS (rel1 := rPart) (t1 := tl) (t2 := fun l σ H2 Q => th σ H2 fun u H3 => rSlD X.K x l u H3 Q) (stable_and stable_true stable_rO) (jl.weak fun _ _ _ _ _ _ => trivial) fun l l' => ?_
  refine JdP.bindS (rel1 := rPart) (t1 := th) (t2 := fun u σ H3 Q => rSlD X.K x l' u H3 Q) (stable_and (stable_and stable_true stable_rO) (fun _ _ _ _ _ _ _ _ h _ => h)) (jh.weak fun _ _ _ _ _ _ => trivial) fun u u' => ?_
  refine jd_fin fun G F H σ ρ r ρ' er hp hf => ?_
  obtain ⟨⟨⟨_, hx⟩, hl⟩, hu⟩ := hp
  have hl : l = l' := hl
  have hu : u = u' := hu
  subst hl; subst hu
  have hf : ((res ρ o).bind fun d => (slG l u d).bind fun z => some (R.ok z, ρ)) = some (r, ρ') := hf
  cases e1 : res ρ o with
  | none => rw [e1] at hf; cases hf
  | some d =>
    rw [e1] at hf
    have hf : ((slG l u d).bind fun z => some (R.ok z, ρ)) = some (r, ρ') := hf
    cases e2 : slG l u d with
    | none => rw [e2] at hf; cases hf
    | some z =>
      rw [e2] at hf; cases hf
      refine ⟨z, rfl, rfl, fun Q k => ?_⟩
      have hv := rO_res hx (Ext.refl F) er e1
      have s := er.sub
      cases d with
      | lst ds =>
        cases e2
        obtain ⟨b, xs, rfl, h1, r⟩ := hv.lst s
        exact .inl (.inl ⟨b, xs, rfl, SqL.of h1, fun p hp => by
          have g := Grow.new (o := .lst (cutV xs l u)) s hp
          exact k _ _ _ g (.lst upd_same ((cutL_rps r l u).ext (Ext.of g.f)))⟩)
      | frl ds =>
        cases e2
        obtain ⟨b, xs, rfl, h1, r⟩ := hv.frl s
        exact .inl (.inl ⟨b, xs, rfl, h1, fun p hp => by
          have g := Grow.new (o := .lst (cutV xs l u)) s hp
          exact k _ _ _ g (.lst upd_same ((cutL_rps r l u).ext (Ext.of g.f)))⟩)
      | tup ds =>
        cases e2
        obtain ⟨b, xs, e3, h1, r⟩ := hv.tup s
        refine .inl (.inr ⟨b, xs, e3, h1, fun w => ?_, fun _ p hp => ?_⟩)
        · have hw : HT.sIx ds.length 0 l = 0 ∧ HT.sIx ds.length ds.length u = ds.length := by rw [r.length]; exact w
          rw [cutL_whole hw] at k
          have hx' : Rp X.K cm F (.tup ds) x := by
            rcases hv with h | ⟨_, _, _, h⟩
            · exact h
            · exact False.elim h
          rw [← e3]
          exact k F H _ (Grow.refl s) hx'
        · have g := Grow.new (o := .tup (cutV xs l u)) s hp
          exact k _ _ _ g (.tup upd_same ((cutL_rps r l u).ext (Ext.of g.f)))
      | str w =>
        have e2 : (if w.length ≤ sizeLine then some (D.str (cutS w l u)) else none) = some z := e2
        by_cases c : w.length ≤ sizeLine
        · rw [if_pos c] at e2; cases e2
          exact .inr ⟨w, hv.str, c, k F H _ (Grow.refl s) (.str _)⟩
        · rw [if_neg c] at e2; cases e2
      | _ => cases e2
/-! ### built-in calls -/
variable {x : Str} {p : Pos} {id T : String} {r : List V → Hp → VK → Prop} {g : List D → Option D} {es : List Expr}
theorem pd_callB (hc : CallR X (.builtin id) r) (hd : CallD X.K cm r g) (hg : Gl X x) (hm : X.mg x = none) (hv : bootBuiltins x = some (.builtin id)) (ha : PAs X cm W (e :: es) fs) (hn : x ≠ "__name__" := by decide) (hdb : (x == ("__debug__" : Str)) = false := by decide)
    (he : starEach (e :: es) X.env = (false, eval e X.env) :: starEach es X.env := by rfl) (hpl : (backTo pos (starEach es X.env)).any (·.1) = false := by rfl) : PD X cm W (.Call (.Name x p) (e :: es) [] pos) (callD g fs) := by
  obtain ⟨t, pa, j⟩ := ha
  exact ⟨_, pe_callB hc hg hm hv pa hn hdb he hpl, jd_callD j hd⟩
theorem pf_callB (hc : CallR X (.builtin id) r) (hd : CallF X.K cm r g) (hg : Gl X x) (hm : X.mg x = none) (hv : bootBuiltins x = some (.builtin id)) (ha : PAs X cm W (e :: es) fs) (hn : x ≠ "__name__" := by decide) (hdb : (x == ("__debug__" : Str)) = false := by decide)
    (he : starEach (e :: es) X.env = (false, eval e X.env) :: starEach es X.env := by rfl) (hpl : (backTo pos (starEach es X.env)).any (·.1) = false := by rfl) : PF X cm W (.Call (.Name x p) (e :: es) [] pos) (callD g fs) := by
  obtain ⟨t, pa, j⟩ := ha
  exact ⟨_, pe_callB hc hg hm hv pa hn hdb he hpl, jd_callF j hd⟩
theorem pd_callTy (hc : CallR X (.type T) r) (hd : CallD X.K cm r g) (hg : Gl X x) (hm : X.mg x = none) (hv : bootBuiltins x = some (.type T)) (ha : PAs X cm W (e :: es) fs) (hn : x ≠ "__name__" := by decide) (hdb : (x == ("__debug__" : Str)) = false := by decide)
    (he : starEach (e :: es) X.env = (false, eval e X.env) :: starEach es X.env := by rfl) (hpl : (backTo pos (starEach es X.env)).any (·.1) = false := by rfl) : PD X cm W (.Call (.Name x p) (e :: es) [] pos) (callD g fs) := by
  obtain ⟨t, pa, j⟩ := ha
  exact ⟨_, pe_callTy hc hg hm hv pa hn hdb he hpl, jd_callD j hd⟩
theorem pf_callTy (hc : CallR X (.type T) r) (hd : CallF X.K cm r g) (hg : Gl X x) (hm : X.mg x = none) (hv : bootBuiltins x = some (.type T)) (ha : PAs X cm W (e :: es) fs) (hn : x ≠ "__name__" := by decide) (hdb : (x == ("__debug__" : Str)) = false := by decide)
    (he : starEach (e :: es) X.env = (false, eval e X.env) :: starEach es X.env := by rfl) (hpl : (backTo pos (starEach es X.env)).any (·.1) = false := by rfl) : PF X cm W (.Call (.Name x p) (e :: es) [] pos) (callD g fs) := by
  obtain ⟨t, pa, j⟩ := ha
  exact ⟨_, pe_callTy hc hg hm hv pa hn hdb he hpl, jd_callF j hd⟩
end
section
variable {K : PySem.W.Frag} {cm : Str → Option Addr}
theorem paired1 {α β : Type} {P : α → β → Prop} {d : α} {vs : List β} (h : Paired P [d] vs) : ∃ v, vs = [v] ∧ P d v := by
  cases h with
  | cons h1 h2 => cases h2; exact ⟨_, rfl, h1⟩
theorem paired2 {α β : Type} {P : α → β → Prop} {d e : α} {vs : List β} (h : Paired P [d, e] vs) : ∃ v w, vs = [v, w] ∧ P d v ∧ P e w := by
  cases h with
  | cons h1 h2 => cases h2 with
    | cons h3 h4 => cases h4; exact ⟨_, _, rfl, h1, h3⟩
/-- a call of one argument -/
def one (g : D → Option D) : List D → Option D
  | [d] => g d
  | _ => none
theorem one_eq {g : D → Option D} {ds : List D} {d : D} (h : one g ds = some d) : ∃ x, ds = [x] ∧ g x = some d := by
  match ds, h with
  | [x], h => exact ⟨x, rfl, h⟩
def two (g : D → D → Option D) : List D → Option D
  | [d, e] => g d e
  | _ => none
theorem two_eq {g : D → D → Option D} {ds : List D} {d : D} (h : two g ds = some d) : ∃ x y, ds = [x, y] ∧ g x y = some d := by
  match ds, h with
  | [x, y], h => exact ⟨x, y, rfl, h⟩
/-- len -/
def lenG : D → Option D
  | .str z => if z.length ≤ sizeLine then some (.int z.length) else none
  | .lst ds => some (.int ds.length)
  | .frl ds => some (.int ds.length)
  | .tup ds => some (.int ds.length)
  | .frt ds => some (.int ds.length)
  | _ => none
def rLenD (K : PySem.W.Frag) : List V → Hp → VK → Prop := fun xs H Q => (∃ p ys, xs = [.ref p] ∧ (SqL K H p ys ∨ SqT K H p ys) ∧ Q (.int ys.length) H) ∨ ∃ z, xs = [.str z] ∧ z.length ≤ sizeLine ∧ Q (.int z.length) H
theorem call_lenS {X : Cx} : CallR X (.builtin "len") (rLenD X.K) := call_len_seq.or call_len_str
theorem cd_len : CallD K cm (rLenD K) (one lenG) := by
  intro F H vs ds d s hv hg Q k
  obtain ⟨x, rfl, hg⟩ := one_eq hg
  obtain ⟨v, rfl, hw⟩ := paired1 hv
  have seqc : ∀ es, seqOf x = some es → d = .int es.length → rLenD K [v] H Q := fun es e1 e2 => by
    subst e2
    obtain ⟨a, xs, rfl, h1, r⟩ := hw.seq s e1
    exact .inl ⟨a, xs, rfl, h1, by rw [← r.length]; exact k F H _ (Grow.refl s) (.int _)⟩
  cases x with
  | str z =>
    have hg2 : (if z.length ≤ sizeLine then some (D.int z.length) else none) = some d := hg
    by_cases c : z.length ≤ sizeLine
    · rw [if_pos c] at hg2; cases hg2
      exact .inr ⟨z, by rw [hw.str], c, k F H _ (Grow.refl s) (.int _)⟩
    · rw [if_neg c] at hg2; cases hg2
  | lst es => cases hg; exact seqc es rfl rfl
  | frl es => cases hg; exact seqc es rfl rfl
  | tup es => cases hg; exact seqc es rfl rfl
  | frt es => cases hg; exact seqc es rfl rfl
  | _ => cases hg
/-- abs -/
def absG : D → Option D
  | .int i => some (.int (if i < 0 then -i else i))
  | _ => none
theorem cd_abs : CallD K cm (fun xs H Q => ∃ i, xs = [.int i] ∧ Q (.int (if i < 0 then -i else i)) H) (one absG) := by
  intro F H vs ds d s hv hg Q k
  obtain ⟨x, rfl, hg⟩ := one_eq hg
  obtain ⟨v, rfl, hw⟩ := paired1 hv
  cases x with
  | int i => cases hg; exact ⟨i, by rw [hw.int], k F H _ (Grow.refl s) (.int _)⟩
  | _ => cases hg
/-- int(n), int(flag) -/
def intF : D → Option D
  | .int i => some (.int i)
  | .bl k => some (.int (if k then 1 else 0))
  | _ => none
theorem cd_int : CallD K cm (fun xs H Q => (∃ i, xs = [.int i] ∧ Q (.int i) H) ∨ ∃ k, xs = [.bl k] ∧ Q (.int (if k then 1 else 0)) H) (one intF) := by
  intro F H vs ds d s hv hg Q k
  obtain ⟨x, rfl, hg⟩ := one_eq hg
  obtain ⟨v, rfl, hw⟩ := paired1 hv
  cases x with
  | int i => cases hg; exact .inl ⟨i, by rw [hw.int], k F H _ (Grow.refl s) (.int _)⟩
  | bl i => cases hg; exact .inr ⟨i, by rw [hw.bl], k F H _ (Grow.refl s) (.int _)⟩
  | _ => cases hg
/-- max(a, b), min(a, b) of ints -/
def max2G : D → D → Option D
  | .int i, .int j => some (.int (if j > i then j else i))
  | _, _ => none
def min2G : D → D → Option D
  | .int i, .int j => some (.int (if j < i then j else i))
  | _, _ => none
theorem cd_max2 : CallD K cm (fun xs H Q => ∃ i j, xs = [.int i, .int j] ∧ Q (.int (if j > i then j else i)) H) (two max2G) := by
  intro F H vs ds d s hv hg Q k
  obtain ⟨x, y, rfl, hg⟩ := two_eq hg
  obtain ⟨v, w, rfl, h1, h2⟩ := paired2 hv
  cases x with
  | int i => cases y with
    | int j => cases hg; exact ⟨i, j, by rw [h1.int, h2.int], k F H _ (Grow.refl s) (.int _)⟩
    | _ => cases hg
  | _ => cases y <;> cases hg
theorem cd_min2 : CallD K cm (fun xs H Q => ∃ i j, xs = [.int i, .int j] ∧ Q (.int (if j < i then j else i)) H) (two min2G) := by
  intro F H vs ds d s hv hg Q k
  obtain ⟨x, y, rfl, hg⟩ := two_eq hg
  obtain ⟨v, w, rfl, h1, h2⟩ := paired2 hv
  cases x with
  | int i => cases y with
    | int j => cases hg; exact ⟨i, j, by rw [h1.int, h2.int], k F H _ (Grow.refl s) (.int _)⟩
    | _ => cases hg
  | _ => cases y <;> cases hg
/-- all, any of a list of bools -/
def blsOf : List D → Option (List Bool)
  | [] => some []
  | .bl b :: ds => (blsOf ds).map fun bs => b :: bs
  | _ => none
theorem blsOf_rps {F : Hp} : ∀ {ds : List D} {vs : List V} {bs : List Bool}, Rps K cm F ds vs → blsOf ds = some bs → vs = bs.map V.bl
  | _, _, _, .nil, e => by cases e; rfl
  | .bl b :: ds, _, bs, .cons h r, e => by
    have e : ((blsOf ds).map fun bs => b :: bs) = some bs := e
    cases q : blsOf ds with
    | none => rw [q] at e; cases e
    | some cs => rw [q] at e; cases e; cases h; rw [blsOf_rps r q]; rfl
def lisOf : D → Option (List D)
  | .lst ds => some ds
  | .frl ds => some ds
  | _ => none
theorem Rv.lis {F H : Hp} {d : D} {ds : List D} {v : V} (s : Same F H) (h : Rv K cm F H d v) (e : lisOf d = some ds) : ∃ a xs, v = .ref a ∧ SqL K H a xs ∧ Rps K cm F ds xs := by
  cases d with
  | lst es => cases e; obtain ⟨a, xs, e1, h1, r⟩ := h.lst s; exact ⟨a, xs, e1, SqL.of h1, r⟩
  | frl es => cases e; obtain ⟨a, xs, e1, h1, r⟩ := h.frl s; exact ⟨a, xs, e1, h1, r⟩
  | _ => cases e
def allG (d : D) : Option D := (lisOf d).bind fun ds => (blsOf ds).map fun bs => .bl (bs.all id)
def anyG (d : D) : Option D := (lisOf d).bind fun ds => (blsOf ds).map fun bs => .bl (bs.any id)
theorem bls_case {F H : Hp} {x : D} {v : V} (s : Same F H) (hv : Rv K cm F H x v) {f : List Bool → D} {d : D} (hg : ((lisOf x).bind fun ds => (blsOf ds).map f) = some d) : ∃ a bs, v = .ref a ∧ SqL K H a (bs.map V.bl) ∧ d = f bs := by
  cases q : lisOf x with
  | none => rw [q] at hg; cases hg
  | some ds =>
    rw [q] at hg
    have hg : (blsOf ds).map f = some d := hg
    cases q2 : blsOf ds with
    | none => rw [q2] at hg; cases hg
    | some bs =>
      rw [q2] at hg; cases hg
      obtain ⟨a, xs, e, h1, r⟩ := hv.lis s q
      rw [blsOf_rps r q2] at h1
      exact ⟨a, bs, e, h1, rfl⟩
theorem cd_all : CallD K cm (rAll K) (one allG) := by
  intro F H vs ds d s hv hg Q k
  obtain ⟨x, rfl, hg⟩ := one_eq hg
  obtain ⟨v, rfl, hw⟩ := paired1 hv
  obtain ⟨a, bs, rfl, h1, rfl⟩ := bls_case s hw hg
  exact ⟨a, bs, rfl, h1, k F H _ (Grow.refl s) (.bl _)⟩
theorem cd_any : CallD K cm (rAny K) (one anyG) := by
  intro F H vs ds d s hv hg Q k
  obtain ⟨x, rfl, hg⟩ := one_eq hg
  obtain ⟨v, rfl, hw⟩ := paired1 hv
  obtain ⟨a, bs, rfl, h1, rfl⟩ := bls_case s hw hg
  exact ⟨a, bs, rfl, h1, k F H _ (Grow.refl s) (.bl _)⟩
/-- sum of a list of ints -/
def intsOf : List D → Option (List Int)
  | [] => some []
  | .int b :: ds => (intsOf ds).map fun bs => b :: bs
  | _ => none
theorem intsOf_rps {F : Hp} : ∀ {ds : List D} {vs : List V} {bs : List Int}, Rps K cm F ds vs → intsOf ds = some bs → vs = bs.map V.int
  | _, _, _, .nil, e => by cases e; rfl
  | .int b :: ds, _, bs, .cons h r, e => by
    have e : ((intsOf ds).map fun bs => b :: bs) = some bs := e
    cases q : intsOf ds with
    | none => rw [q] at e; cases e
    | some cs => rw [q] at e; cases e; cases h; rw [intsOf_rps r q]; rfl
def sumG (d : D) : Option D := (lisOf d).bind fun ds => (intsOf ds).map fun bs => .int bs.sum
theorem ints_case {F H : Hp} {x : D} {v : V} (s : Same F H) (hv : Rv K cm F H x v) {f : List Int → D} {d : D} (hg : ((lisOf x).bind fun ds => (intsOf ds).map f) = some d) : ∃ a bs, v = .ref a ∧ SqL K H a (bs.map V.int) ∧ d = f bs := by
  cases q : lisOf x with
  | none => rw [q] at hg; cases hg
  | some ds =>
    rw [q] at hg
    have hg : (intsOf ds).map f = some d := hg
    cases q2 : intsOf ds with
    | none => rw [q2] at hg; cases hg
    | some bs =>
      rw [q2] at hg; cases hg
      obtain ⟨a, xs, e, h1, r⟩ := hv.lis s q
      rw [intsOf_rps r q2] at h1
      exact ⟨a, bs, e, h1, rfl⟩
theorem cd_sum : CallD K cm (rSum K) (one sumG) := by
  intro F H vs ds d s hv hg Q k
  obtain ⟨x, rfl, hg⟩ := one_eq hg
  obtain ⟨v, rfl, hw⟩ := paired1 hv
  obtain ⟨a, bs, rfl, h1, rfl⟩ := ints_case s hw hg
  exact ⟨a, bs, rfl, h1, k F H _ (Grow.refl s) (.int _)⟩
/-- list(xs), tuple(xs) -/
def listG (d : D) : Option D := (seqOf d).map .lst
def rListD (K : PySem.W.Frag) : List V → Hp → VK → Prop := fun xs H Q => ∃ p ys, xs = [.ref p] ∧ (SqL K H p ys ∨ SqT K H p ys) ∧ ∀ l, H l = none → Q (.ref l) (upd H l (.lst ys))
theorem cf_list : CallF K cm (rListD K) (one listG) := by
  intro F H vs ds d s tf hv hg Q k
  obtain ⟨x, rfl, hg1⟩ := one_eq hg
  obtain ⟨v, rfl, hw⟩ := paired1 hv
  have hg2 : (seqOf x).map D.lst = some d := hg1
  cases q : seqOf x with
  | none => rw [q] at hg2; cases hg2
  | some es =>
    rw [q] at hg2; cases hg2
    obtain ⟨a, xs, rfl, h1, r⟩ := hw.seq s q
    exact ⟨a, xs, rfl, h1, fun l hl => k _ _ _ (Grow.newH s hl) hl (s.free hl) ⟨xs, upd_same, r⟩⟩
def tupleG : D → Option D
  | .frt ds => some (.frt ds)
  | d => (seqOf d).map .tup
def rTupleD (K : PySem.W.Frag) : List V → Hp → VK → Prop := fun xs H Q => ∃ p ys, xs = [.ref p] ∧ ((SqL K H p ys ∧ ∀ l, H l = none → Q (.ref l) (upd H l (.tup ys))) ∨ (SqT K H p ys ∧ Q (.ref p) H))
theorem cd_tuple : CallD K cm (rTupleD K) (one tupleG) := by
  intro F H vs ds d s hv hg Q k
  obtain ⟨x, rfl, hg⟩ := one_eq hg
  obtain ⟨v, rfl, hw⟩ := paired1 hv
  have lis : ∀ es, lisOf x = some es → d = .tup es → rTupleD K [v] H Q := fun es e1 e2 => by
    subst e2
    obtain ⟨a, xs, rfl, h1, r⟩ := hw.lis s e1
    exact ⟨a, xs, rfl, .inl ⟨h1, fun l hl => by
        have g := Grow.new (o := .tup xs) s hl
        exact k _ _ _ g (.tup upd_same (r.ext (Ext.of g.f)))⟩⟩
  cases x with
  | lst es => cases hg; exact lis es rfl rfl
  | frl es => cases hg; exact lis es rfl rfl
  | tup es =>
    cases hg
    obtain ⟨a, xs, rfl, h1, r⟩ := hw.tup s
    exact ⟨a, xs, rfl, .inr ⟨h1, k F H _ (Grow.refl s) (by
      rcases hw with h | ⟨_, _, _, h⟩
      · exact h
      · exact False.elim h)⟩⟩
  | frt es =>
    cases hg
    obtain ⟨a, xs, rfl, h1, r⟩ := hw.frt s
    exact ⟨a, xs, rfl, .inr ⟨h1, k F H _ (Grow.refl s) (by
      rcases hw with h | ⟨_, _, _, h⟩
      · exact h
      · exact False.elim h)⟩⟩
  | _ => cases hg
end
end Pd

/-! Pd5: statements on slots: stores, if, while, for, return. -/
namespace Pd
open PySem PySem.Spec L2

inductive SR where
  | nx | brk | cnt | ret (s : Sl) | exc (x : Exn)
abbrev SM := Env → Option (SR × Env)
/-- a new object that a def hands out, or one that a slot gives up -/
def Hand (K : PySem.W.Frag) (cm : Str → Option Addr) (G : Gd) (F H : Hp) (σ : St) (ρ : Env) (a : Addr) (d : D) : Prop :=
  Free G a ∧ OwnR K cm F H a d ∧ ∀ (i : Nat) (s : Sl), ρ[i]? = some s → owns s = true → σ[i]? ≠ some (some (V.ref a))
def SPost (K : PySem.W.Frag) (cm : Str → Option Addr) (G : Gd) (W : WX) (F : Hp) (D : Ends) (r : SR) (ρ' : Env) : Prop :=
  ∀ F' H' σ', ER K cm G F' H' σ' ρ' → Ext F F' → match r with
    | .nx => D.nx σ' H'
    | .brk => D.bk σ' H'
    | .cnt => D.ct σ' H'
    | .ret (.val d) => ∀ v, Rp K cm F' d v → D.rt v H'
    | .ret (.own d) => ∀ a, Hand K cm G F' H' σ' ρ' a d → D.rt (.ref a) H'
    | .ret _ => False
    | .exc x => ∀ cv dx, XR K cm F' x cv dx → W cv dx σ' H'
def Jst (X : Cx) (cm : Str → Option Addr) (W : WX) (t : TS) (g : SM) : Prop :=
  ∀ (G : Gd) (F H : Hp) (σ : St) (ρ : Env) (r : SR) (ρ' : Env), ER X.K cm G F H σ ρ → g ρ = some (r, ρ') → ∀ D : Ends, SPost X.K cm G W F D r ρ' → t D σ H
section
variable (X : Cx) (cm : Str → Option Addr) (W : WX)
def PSd (st : Stmt) (g : SM) : Prop := ∃ t : TS, PS X st t ∧ Jst X cm W t g
def PSsd (sts : List Stmt) (g : SM) : Prop := ∃ t : TS, PSs X sts t ∧ Jst X cm W t g
end
/-- an expression, then what is done with its value -/
def exps {α : Type} (f : M α) (k : α → SM) : SM := fun ρ => match f ρ with
  | none => none
  | some (.ok a, ρ') => k a ρ'
  | some (.exc x, ρ') => some (.exc x, ρ')
def seqS (g h : SM) : SM := fun ρ => match g ρ with
  | some (.nx, ρ') => h ρ'
  | r => r
def skipS : SM := fun ρ => some (.nx, ρ)
section
variable {X : Cx} {cm : Str → Option Addr} {W : WX} {pos : Pos} {st : Stmt} {rest : List Stmt} {g h : SM} {e : Expr} {fd : M D} {fo : M Op}
theorem SPost.mono {K : PySem.W.Frag} {G : Gd} {F F1 : Hp} {D : Ends} {r : SR} {ρ' : Env} (x : Ext F F1) (p : SPost K cm G W F D r ρ') : SPost K cm G W F1 D r ρ' :=
  fun F' H' σ' er x' => p F' H' σ' er (x.trans x')
theorem jst_exp {α β : Type} {rel : Rel α β} {t : St → Hp → (β → Hp → Prop) → Prop} {f : M α} {k : α → SM} {t2 : β → TS} (j : Jd X cm W rel t f)
    (j2 : ∀ a b G F H σ ρ r ρ', ER X.K cm G F H σ ρ → rel G F H σ ρ a b → k a ρ = some (r, ρ') → ∀ D : Ends, SPost X.K cm G W F D r ρ' → t2 b D σ H) :
    Jst X cm W (fun D σ H => t σ H fun b H1 => t2 b D σ H1) (exps f k) := by
  intro G F H σ ρ r ρ' er hf D hD
  unfold exps at hf
  cases q : f ρ with
  | none => rw [q] at hf; cases hf
  | some p =>
    obtain ⟨ra, ρ1⟩ := p
    rw [q] at hf
    refine j G F H σ ρ ra ρ1 er trivial q _ ?_
    intro F1 H1 er1 x1
    cases ra with
    | exc x =>
      cases hf
      exact hD F1 H1 σ er1 x1
    | ok a => exact fun b hb => j2 a b G F1 H1 σ ρ1 r ρ' er1 hb hf D (hD.mono x1)
theorem pss_nil' : PSsd X cm W [] skipS := ⟨_, pss_nil, fun G F H σ ρ r ρ' er hf D hD => by
  cases hf
  exact hD F H σ er (Ext.refl F)⟩
theorem pss_cons' (h1 : PSd X cm W st g) (h2 : PSsd X cm W rest h) : PSsd X cm W (st :: rest) (seqS g h) := by
  obtain ⟨t, p, j⟩ := h1
  obtain ⟨u, p2, j2⟩ := h2
  refine ⟨_, pss_cons p p2, fun G F H σ ρ r ρ' er hf D hD => ?_⟩
  unfold seqS at hf
  cases q : g ρ with
  | none => rw [q] at hf; cases hf
  | some x =>
    obtain ⟨r1, ρ1⟩ := x
    rw [q] at hf
    refine j G F H σ ρ r1 ρ1 er q _ fun F1 H1 σ1 er1 x1 => ?_
    cases r1 with
    | nx => exact j2 G F1 H1 σ1 ρ1 r ρ' er1 hf D (hD.mono x1)
    | brk => cases hf; exact hD F1 H1 σ1 er1 x1
    | cnt => cases hf; exact hD F1 H1 σ1 er1 x1
    | exc x => cases hf; exact hD F1 H1 σ1 er1 x1
    | ret s =>
      cases hf
      have := hD F1 H1 σ1 er1 x1
      cases s <;> exact this
theorem pss_one' (h1 : PSd X cm W st g) : PSsd X cm W [st] g := by
  obtain ⟨t, p, j⟩ := h1
  exact ⟨t, pss_one p, j⟩
theorem psd_never : PSd X cm W st (fun _ => none) := ⟨_, ps_never, fun G F H σ ρ r ρ' er hf => nomatch hf⟩
theorem pssd_never : PSsd X cm W rest (fun _ => none) := ⟨_, pss_never, fun G F H σ ρ r ρ' er hf => nomatch hf⟩
theorem psd_pass : PSd X cm W (.Pass pos) skipS := ⟨_, ps_pass, fun G F H σ ρ r ρ' er hf D hD => by
  cases hf
  exact hD F H σ er (Ext.refl F)⟩
theorem psd_break : PSd X cm W (.Break pos) (fun ρ => some (.brk, ρ)) := ⟨_, ps_break, fun G F H σ ρ r ρ' er hf D hD => by
  cases hf
  exact hD F H σ er (Ext.refl F)⟩
theorem psd_continue : PSd X cm W (.Continue pos) (fun ρ => some (.cnt, ρ)) := ⟨_, ps_continue, fun G F H σ ρ r ρ' er hf D hD => by
  cases hf
  exact hD F H σ er (Ext.refl F)⟩
theorem psd_doc {x j pos'} : PSd X cm W (.Expr (.Constant (.str x) j pos) pos') skipS := ⟨_, ps_doc, fun G F H σ ρ r ρ' er hf D hD => by
  cases hf
  exact hD F H σ er (Ext.refl F)⟩
/-! ### stores -/
def setV (i : Nat) (d : D) : SM := fun ρ => if i < ρ.length then some (.nx, ρ.set i (.val d)) else none
def setOw (i : Nat) (d : D) : SM := fun ρ => if i < ρ.length then some (.nx, ρ.set i (.own d)) else none
theorem set_self {α : Type} {l : List α} {i : Nat} {a : α} (h : i < l.length) : (l.set i a)[i]? = some a := List.getElem?_set_self h
theorem ER.setV {K : PySem.W.Frag} {G : Gd} {F H : Hp} {σ : St} {ρ : Env} {i : Nat} {d : D} {v : V} (er : ER K cm G F H σ ρ) (hi : i < ρ.length) (hv : Rp K cm F d v) : ER K cm G F H (σ.set i (some v)) (ρ.set i (.val d)) := by
  have hi2 : i < σ.length := by rw [← er.len]; exact hi
  refine ⟨er.sub, er.f0, er.h0, er.live, er.nf, fun j s q => ?_, fun j k s t qj qk os ot eq => ?_, by rw [List.length_set, List.length_set]; exact er.len, er.tp⟩
  · by_cases c : j = i
    · subst c
      rw [set_self hi] at q
      cases q
      exact ⟨v, set_self hi2, hv⟩
    · rw [List.getElem?_set_ne (Ne.symm c)] at q
      have hs := er.slot j s q
      cases s with
      | no => trivial
      | val d' => obtain ⟨w, e, r⟩ := hs; exact ⟨w, by rw [List.getElem?_set_ne (Ne.symm c)]; exact e, r⟩
      | own d' => obtain ⟨w, e, r⟩ := hs; exact ⟨w, by rw [List.getElem?_set_ne (Ne.symm c)]; exact e, r⟩
      | par d' => obtain ⟨w, e, r⟩ := hs; exact ⟨w, by rw [List.getElem?_set_ne (Ne.symm c)]; exact e, r⟩
  · by_cases cj : j = i
    · subst cj
      rw [set_self hi] at qj
      cases qj; cases os
    · by_cases ck : k = i
      · subst ck
        rw [set_self hi] at qk
        cases qk; cases ot
      · rw [List.getElem?_set_ne (Ne.symm cj)] at qj eq
        rw [List.getElem?_set_ne (Ne.symm ck)] at qk eq
        exact er.inj j k s t qj qk os ot eq
theorem ER.setO {K : PySem.W.Frag} {G : Gd} {F H : Hp} {σ : St} {ρ : Env} {i : Nat} {d : D} {a : Addr} (er : ER K cm G F H σ ρ) (hi : i < ρ.length) (hv : Hand K cm G F H σ ρ a d) : ER K cm G F H (σ.set i (some (.ref a))) (ρ.set i (.own d)) := by
  have hi2 : i < σ.length := by rw [← er.len]; exact hi
  obtain ⟨h1, h2, h3⟩ := hv
  refine ⟨er.sub, er.f0, er.h0, er.live, er.nf, fun j s q => ?_, fun j k s t qj qk os ot eq => ?_, by rw [List.length_set, List.length_set]; exact er.len, er.tp⟩
  · by_cases c : j = i
    · subst c
      rw [set_self hi] at q
      cases q
      exact ⟨a, set_self hi2, h1, h2⟩
    · rw [List.getElem?_set_ne (Ne.symm c)] at q
      have hs := er.slot j s q
      cases s with
      | no => trivial
      | val d' => obtain ⟨w, e, r⟩ := hs; exact ⟨w, by rw [List.getElem?_set_ne (Ne.symm c)]; exact e, r⟩
      | own d' => obtain ⟨w, e, r⟩ := hs; exact ⟨w, by rw [List.getElem?_set_ne (Ne.symm c)]; exact e, r⟩
      | par d' => obtain ⟨w, e, r⟩ := hs; exact ⟨w, by rw [List.getElem?_set_ne (Ne.symm c)]; exact e, r⟩
  · by_cases cj : j = i
    · by_cases ck : k = i
      · rw [cj, ck]
      · subst cj
        rw [set_self hi2] at eq
        rw [List.getElem?_set_ne (Ne.symm ck)] at qk eq
        exact absurd eq.symm (h3 k t qk ot)
    · by_cases ck : k = i
      · subst ck
        rw [set_self hi2] at eq
        rw [List.getElem?_set_ne (Ne.symm cj)] at qj eq
        exact absurd eq (h3 j s qj os)
      · rw [List.getElem?_set_ne (Ne.symm cj)] at qj eq
        rw [List.getElem?_set_ne (Ne.symm ck)] at qk eq
        exact er.inj j k s t qj qk os ot eq
theorem psd_set {x : Str} {pos' : Pos} (i : Nat) (hN : X.N.Nodup) (he : PD X cm W e fd) (hi : X.N[i]? = some x := by rfl) (hx : Loc X.env.scope x := by first | exact Or.inl rfl | exact Or.inr rfl) (hs : swapsWith e (some (.Name x pos')) pos.line X.env = pure false := by rfl)
    (hf : X.fn x = true ∨ X.env.scope.names.lookup x = some .local := by first | exact .inl rfl | exact .inr rfl | assumption) : PSd X cm W (.Assign [.Name x pos'] e pos) (exps fd (setV i)) := by
  obtain ⟨t, p, j⟩ := he
  refine ⟨_, ps_set hN hi hx p hs hf, jst_exp (t2 := fun v D σ H => gName i v σ H D.nx) j fun d v G F H σ ρ r ρ' er hv hk D hD => ?_⟩
  unfold setV at hk
  by_cases c : i < ρ.length
  · rw [if_pos c] at hk; cases hk
    exact hD F H _ (er.setV c hv) (Ext.refl F)
  · rw [if_neg c] at hk; cases hk
theorem psd_setO {x : Str} {pos' : Pos} (i : Nat) (hN : X.N.Nodup) (he : PF X cm W e fd) (hi : X.N[i]? = some x := by rfl) (hx : Loc X.env.scope x := by first | exact Or.inl rfl | exact Or.inr rfl) (hs : swapsWith e (some (.Name x pos')) pos.line X.env = pure false := by rfl)
    (hf : X.fn x = true ∨ X.env.scope.names.lookup x = some .local := by first | exact .inl rfl | exact .inr rfl | assumption) : PSd X cm W (.Assign [.Name x pos'] e pos) (exps fd (setOw i)) := by
  obtain ⟨t, p, j⟩ := he
  refine ⟨_, ps_set hN hi hx p hs hf, jst_exp (t2 := fun v D σ H => gName i v σ H D.nx) j fun d v G F H σ ρ r ρ' er hv hk D hD => ?_⟩
  obtain ⟨a, rfl, h⟩ := hv
  unfold setOw at hk
  by_cases c : i < ρ.length
  · rw [if_pos c] at hk; cases hk
    exact hD F H _ (er.setO c h) (Ext.refl F)
  · rw [if_neg c] at hk; cases hk
theorem psd_ret (he : PD X cm W e fd) : PSd X cm W (.Return (some e) pos) (exps fd fun d ρ => some (.ret (.val d), ρ)) := by
  obtain ⟨t, p, j⟩ := he
  refine ⟨_, ps_ret p, jst_exp (t2 := fun v D σ H => D.rt v H) j fun d v G F H σ ρ r ρ' er hv hk D hD => ?_⟩
  cases hk
  exact hD F H σ er (Ext.refl F) v hv
theorem psd_retF (he : PF X cm W e fd) : PSd X cm W (.Return (some e) pos) (exps fd fun d ρ => some (.ret (.own d), ρ)) := by
  obtain ⟨t, p, j⟩ := he
  refine ⟨_, ps_ret p, jst_exp (t2 := fun v D σ H => D.rt v H) j fun d v G F H σ ρ r ρ' er hv hk D hD => ?_⟩
  cases hk
  obtain ⟨a, rfl, h⟩ := hv
  exact hD F H σ er (Ext.refl F) a h
theorem psd_retN : PSd X cm W (.Return none pos) (fun ρ => some (.ret (.val .non), ρ)) := ⟨_, ps_retN, fun G F H σ ρ r ρ' er hf D hD => by
  cases hf
  exact hD F H σ er (Ext.refl F) .non .non⟩
/-- the slot gives up what it owns -/
def giveUp (i : Nat) : SM := fun ρ => match ρ[i]? with
  | some (.own d) => some (.ret (.own d), ρ.set i .no)
  | some (.val d) => some (.ret (.val d), ρ)
  | _ => none
theorem psd_retO (i : Nat) {x : Str} {pos' : Pos} (hN : X.N[i]? = some x := by rfl) (hv : Vis X.env.scope x := by first | exact Or.inl rfl | exact Or.inr (Or.inl rfl) | exact Or.inr (Or.inr rfl)) (hd : (x == ("__debug__" : Str)) = false := by decide)
    (hcd : (x == ("__classdict__" : Str)) = false := by decide) : PSd X cm W (.Return (some (.Name x pos')) pos) (giveUp i) := by
  refine ⟨_, ps_ret (pe_var hN hv hd hcd), fun G F H σ ρ r ρ' er hf D hD => ?_⟩
  unfold giveUp at hf
  cases q : ρ[i]? with
  | none => rw [q] at hf; cases hf
  | some s =>
    rw [q] at hf
    have hs := er.slot i s q
    cases s with
    | no => cases hf
    | par _ => cases hf
    | val d =>
      cases hf
      obtain ⟨v, e1, r⟩ := hs
      exact ⟨v, e1, hD F H σ er (Ext.refl F) v r⟩
    | own d =>
      cases hf
      obtain ⟨a, e1, fr, ow⟩ := hs
      have hi : i < ρ.length := (List.getElem?_eq_some_iff.mp q).1
      refine ⟨.ref a, e1, hD F H σ ?_ (Ext.refl F) a ⟨fr, ow, fun j s qj os z => ?_⟩⟩
      · refine ⟨er.sub, er.f0, er.h0, er.live, er.nf, fun j s qj => ?_, fun j k s t qj qk os ot eq => ?_, by rw [List.length_set]; exact er.len, er.tp⟩
        · by_cases c : j = i
          · subst c; rw [set_self hi] at qj; cases qj; trivial
          · rw [List.getElem?_set_ne (Ne.symm c)] at qj; exact er.slot j s qj
        · by_cases cj : j = i
          · subst cj; rw [set_self hi] at qj; cases qj; cases os
          · by_cases ck : k = i
            · subst ck; rw [set_self hi] at qk; cases qk; cases ot
            · rw [List.getElem?_set_ne (Ne.symm cj)] at qj
              rw [List.getElem?_set_ne (Ne.symm ck)] at qk
              exact er.inj j k s t qj qk os ot eq
      · by_cases c : j = i
        · subst c; rw [set_self hi] at qj; cases qj; cases os
        · rw [List.getElem?_set_ne (Ne.symm c)] at qj
          exact c (er.inj j i s _ qj q os rfl (z.trans e1.symm))
theorem psd_expr (he : PD X cm W e fd) (hs : swapsWith e none pos.line X.env = pure false := by rfl) : PSd X cm W (.Expr e pos) (exps fd fun _ => skipS) := by
  obtain ⟨t, p, j⟩ := he
  refine ⟨_, ps_expr p hs, jst_exp (t2 := fun v D σ H => D.nx σ H) j fun d v G F H σ ρ r ρ' er hv hk D hD => ?_⟩
  cases hk
  exact hD F H σ er (Ext.refl F)
/-! ### if -/
theorem psd_if {c : Expr} {a b : List Stmt} {f : M Bool} (hc : PB X cm W c f) (ha : PSsd X cm W a g) (hb : PSsd X cm W b h) : PSd X cm W (.If c a b pos) (exps f fun k => if k = true then g else h) := by
  obtain ⟨t, p, j⟩ := hc
  obtain ⟨u, p2, j2⟩ := ha
  obtain ⟨w, p3, j3⟩ := hb
  refine ⟨_, ps_if p p2 p3, jst_exp (t2 := fun k D σ H => if k = true then u D σ H else w D σ H) j fun k k' G F H σ ρ r ρ' er hv hk D hD => ?_⟩
  have hv : k = k' := hv
  subst hv
  cases k with
  | true => exact j2 G F H σ ρ r ρ' er hk D hD
  | false => exact j3 G F H σ ρ r ρ' er hk D hD
end
end Pd

/-! Pd6: targets, walks, for, while, comprehensions. -/
namespace Pd
open PySem PySem.Spec L2

/-! ### a ground within the ground -/
def inn (G : Gd) (F H : Hp) (σ : St) (ρ : Env) : Gd where
  vs := G.vs
  pa := fun a => ∃ (i : Nat) (d : D), ρ[i]? = some (.par d) ∧ σ[i]? = some (some (.ref a))
  fr := fun a => ∃ (i : Nat) (d : D), ρ[i]? = some (.own d) ∧ σ[i]? = some (some (.ref a))
  F0 := F
  H0 := H
section
variable {K : PySem.W.Frag} {cm : Str → Option Addr} {G : Gd} {F H F' H' : Hp} {σ σ' : St} {ρ ρ' : Env}
theorem ER.inner (er : ER K cm G F H σ ρ) : ER K cm (inn G F H σ ρ) F H σ ρ where
  sub := er.sub
  f0 := Ext.refl F
  h0 := fun _ _ h _ _ => h
  live := fun _ h => h
  nf := fun _ _ h _ => h
  slot := fun i s e => by
    have hs := er.slot i s e
    cases s with
    | no => trivial
    | val d => exact hs
    | own d => obtain ⟨a, e1, _, r⟩ := hs; exact ⟨a, e1, .inr ⟨i, d, e, e1⟩, r⟩
    | par d => obtain ⟨a, e1, q, r⟩ := hs; exact ⟨a, e1, ⟨q.1, ⟨i, d, e, e1⟩⟩, r⟩
  inj := er.inj
  len := er.len
  tp := er.tp
theorem ER.pa_of (er : ER K cm G F H σ ρ) {a : Addr} (h : (inn G F H σ ρ).pa a) : G.pa a := by
  obtain ⟨i, d, e, e1⟩ := h
  obtain ⟨b, e2, q, _⟩ := er.slot i _ e
  rw [e1] at e2
  have : a = b := V.ref.inj (Option.some.inj (Option.some.inj e2))
  subst this
  exact q.2
theorem ER.fr_of (er : ER K cm G F H σ ρ) {a : Addr} (h : (inn G F H σ ρ).fr a) : Free G a := by
  obtain ⟨i, d, e, e1⟩ := h
  obtain ⟨b, e2, q, _⟩ := er.slot i _ e
  rw [e1] at e2
  have : a = b := V.ref.inj (Option.some.inj (Option.some.inj e2))
  subst this
  exact q
theorem ER.outer (er : ER K cm G F H σ ρ) (er' : ER K cm (inn G F H σ ρ) F' H' σ' ρ') : ER K cm G F' H' σ' ρ' where
  sub := er'.sub
  f0 := er.f0.trans er'.f0
  h0 := fun b o h n m => er'.h0 b o (er.h0 b o h n m) (fun z => n (er.pa_of z)) (fun z => by
    rcases er.fr_of z with q | q
    · rw [q] at h; cases h
    · exact m q)
  live := fun b h => er'.live b (er.live b h)
  nf := fun b h n m => er'.nf b (er.live b h) (er.nf b h n m) (fun z => by
    rcases er.fr_of z with q | q
    · exact h q
    · exact m q)
  slot := fun i s e => by
    have hs := er'.slot i s e
    cases s with
    | no => trivial
    | val d => exact hs
    | own d =>
      obtain ⟨a, e1, q, r⟩ := hs
      refine ⟨a, e1, ?_, r⟩
      rcases q with q | q
      · refine .inl ?_
        cases z : G.H0 a with
        | none => rfl
        | some o => exact absurd q (er.live a (by rw [z]; simp))
      · exact er.fr_of q
    | par d => obtain ⟨a, e1, q, r⟩ := hs; exact ⟨a, e1, ⟨q.1, er.pa_of q.2⟩, r⟩
  inj := er'.inj
  len := er'.len
  tp := er'.tp
/-- what no slot owned stands -/
theorem ER.kept (er' : ER K cm (inn G F H σ ρ) F' H' σ' ρ') {b : Addr} {o : HO} (h : H b = some o) (hn : ∀ (i : Nat) (s : Sl), ρ[i]? = some s → owns s = true → σ[i]? ≠ some (some (V.ref b))) : H' b = some o :=
  er'.h0 b o h (fun ⟨i, d, e, e1⟩ => hn i _ e rfl e1) (fun ⟨i, d, e, e1⟩ => hn i _ e rfl e1)
/-- .. and no slot owns it behind -/
theorem ER.unowned (er' : ER K cm (inn G F H σ ρ) F' H' σ' ρ') {b : Addr} {o : HO} (h : H b = some o) (hn : ∀ (i : Nat) (s : Sl), ρ[i]? = some s → owns s = true → σ[i]? ≠ some (some (V.ref b))) :
    ∀ (i : Nat) (s : Sl), ρ'[i]? = some s → owns s = true → σ'[i]? ≠ some (some (V.ref b)) := fun i s e os z => by
  have hs := er'.slot i s e
  cases s with
  | own d =>
    obtain ⟨a, e1, q, _⟩ := hs
    rw [z] at e1
    have : b = a := V.ref.inj (Option.some.inj (Option.some.inj e1))
    subst this
    rcases q with q | ⟨j, d2, e3, e4⟩
    · have q : H b = none := q
      rw [h] at q; cases q
    · exact hn j _ e3 rfl e4
  | par d =>
    obtain ⟨a, e1, q, _⟩ := hs
    rw [z] at e1
    have : b = a := V.ref.inj (Option.some.inj (Option.some.inj e1))
    subst this
    obtain ⟨j, d2, e3, e4⟩ := q.2
    exact hn j _ e3 rfl e4
  | _ => cases os
theorem ER.unfrozen (er' : ER K cm (inn G F H σ ρ) F' H' σ' ρ') {b : Addr} {o : HO} (h : H b = some o) (hf : F b = none) (hn : ∀ (i : Nat) (s : Sl), ρ[i]? = some s → owns s = true → σ[i]? ≠ some (some (V.ref b))) : F' b = none :=
  er'.nf b (by show H b ≠ none; rw [h]; simp) hf (fun ⟨i, d, e, e1⟩ => hn i _ e rfl e1)
/-- an object that nobody speaks of is written -/
theorem ER.other (er : ER K cm G F H σ ρ) {b : Addr} {o : HO} (ho : ∀ xs, o ≠ HO.tup xs) (hf : F b = none) (h0 : G.H0 b = none) (hn : ∀ (i : Nat) (s : Sl), ρ[i]? = some s → owns s = true → σ[i]? ≠ some (some (V.ref b))) : ER K cm G F (upd H b o) σ ρ where
  sub := fun c u e => by rw [upd_ne (ne_of_none e hf)]; exact er.sub c u e
  f0 := er.f0
  h0 := fun c u e n m => by
    have hc : c ≠ b := fun z => by subst z; rw [h0] at e; cases e
    rw [upd_ne hc]; exact er.h0 c u e n m
  live := fun c h => by
    have hc : c ≠ b := fun z => by subst z; exact h h0
    rw [upd_ne hc]; exact er.live c h
  nf := er.nf
  slot := fun i s e => by
    have hs := er.slot i s e
    cases s with
    | no => trivial
    | val d => exact hs
    | own d =>
      obtain ⟨a, e1, q, r⟩ := hs
      exact ⟨a, e1, q, r.mono (Ext.refl F) (upd_ne fun z => by subst z; exact hn i _ e rfl e1) r.1⟩
    | par d =>
      obtain ⟨a, e1, q, r⟩ := hs
      exact ⟨a, e1, q, r.mono (Ext.refl F) (upd_ne fun z => by subst z; exact hn i _ e rfl e1) r.1⟩
  inj := er.inj
  len := er.len
  tp := er.tp.upH ho
end

/-! ### targets -/
abbrev GS := D → Env → Option Env
/-- slots ts are stored -/
def JG (X : Cx) (cm : Str → Option Addr) (ts : List Nat) (g : TG) (gs : GS) : Prop :=
  ∀ (G : Gd) (F H : Hp) (σ : St) (ρ ρ' : Env) (d : D) (v : V), ER X.K cm G F H σ ρ → Rp X.K cm F d v → gs d ρ = some ρ' → ∀ Q : St → Hp → Prop,
    (∀ σ', ER X.K cm G F H σ' ρ' → σ'.length = σ.length → (∀ j, j ∉ ts → σ'[j]? = σ[j]?) → Q σ' H) → g v σ H Q
def PGd (X : Cx) (cm : Str → Option Addr) (tg : Expr) (ts : List Nat) (gs : GS) : Prop := ∃ g : TG, PG X tg g ∧ JG X cm ts g gs
def JGs (X : Cx) (cm : Str → Option Addr) (ts : List Nat) (g : TGs) (gs : List D → Env → Option Env) : Prop :=
  ∀ (G : Gd) (F H : Hp) (σ : St) (ρ ρ' : Env) (ds : List D) (vs : List V), ER X.K cm G F H σ ρ → Rps X.K cm F ds vs → gs ds ρ = some ρ' → ∀ Q : St → Hp → Prop,
    (∀ σ', ER X.K cm G F H σ' ρ' → σ'.length = σ.length → (∀ j, j ∉ ts → σ'[j]? = σ[j]?) → Q σ' H) → g vs σ H Q
def PGsd (X : Cx) (cm : Str → Option Addr) (tgs : List Expr) (ts : List Nat) (gs : List D → Env → Option Env) : Prop := ∃ g : TGs, PGs X tgs g ∧ JGs X cm ts g gs
def gV (i : Nat) : GS := fun d ρ => if i < ρ.length then some (ρ.set i (.val d)) else none
def tupOf : D → Option (List D)
  | .tup ds => some ds
  | .frt ds => some ds
  | _ => none
def gT (n : Nat) (gs : List D → Env → Option Env) : GS := fun d ρ => (tupOf d).bind fun ds => if ds.length = n then gs ds ρ else none
def gN : List D → Env → Option Env
  | [], ρ => some ρ
  | _, _ => none
def gC (g : GS) (gs : List D → Env → Option Env) : List D → Env → Option Env
  | d :: ds, ρ => (g d ρ).bind (gs ds)
  | [], _ => none
section
variable {X : Cx} {cm : Str → Option Addr} {W : WX} {pos : Pos}
theorem pgd_name (i : Nat) {x : Str} (hN : X.N.Nodup) (hi : X.N[i]? = some x := by rfl) (hx : Loc X.env.scope x := by first | exact Or.inl rfl | exact Or.inr rfl) (hf : X.fn x = true ∨ X.env.scope.names.lookup x = some .local := by first | exact .inl rfl | exact .inr rfl) : PGd X cm (.Name x pos) [i] (gV i) := by
  refine ⟨_, pg_name hN hi hx hf, fun G F H σ ρ ρ' d v er hv hg Q k => ?_⟩
  unfold gV at hg
  by_cases c : i < ρ.length
  · rw [if_pos c] at hg; cases hg
    exact k _ (er.setV c hv) (by rw [List.length_set]) fun j hj => List.getElem?_set_ne (fun z => hj (by rw [z]; exact List.mem_singleton.mpr rfl))
  · rw [if_neg c] at hg; cases hg
theorem pgs_nil' : PGsd X cm [] [] gN := ⟨_, pgs_nil, fun G F H σ ρ ρ' ds vs er hv hg Q k => by
  cases hv with
  | nil => cases hg; exact ⟨rfl, k σ er rfl fun _ _ => rfl⟩
  | cons _ _ => cases hg⟩
theorem pgs_cons' {e : Expr} {es : List Expr} {ts us : List Nat} {g : GS} {gs : List D → Env → Option Env} (h1 : PGd X cm e ts g) (h2 : PGsd X cm es us gs) (hs : (assignEach (e :: es) X.env).map (·.2) = assign e X.env :: (assignEach es X.env).map (·.2) := by rfl) : PGsd X cm (e :: es) (ts ++ us) (gC g gs) := by
  obtain ⟨t, p, j⟩ := h1
  obtain ⟨u, p2, j2⟩ := h2
  refine ⟨_, pgs_cons p p2 hs, fun G F H σ ρ ρ' ds vs er hv hg Q k => ?_⟩
  cases hv with
  | nil => cases hg
  | @cons d v ds vs h r =>
    have hg : (g d ρ).bind (gs ds) = some ρ' := hg
    cases q : g d ρ with
    | none => rw [q] at hg; cases hg
    | some ρ1 =>
      rw [q] at hg
      exact ⟨v, vs, rfl, j G F H σ ρ ρ1 d v er h q _ fun σ1 er1 l1 o1 => j2 G F H σ1 ρ1 ρ' ds vs er1 r hg _ fun σ2 er2 l2 o2 =>
        k σ2 er2 (l2.trans l1) fun j hj => (o2 j fun z => hj (List.mem_append_right _ z)).trans (o1 j fun z => hj (List.mem_append_left _ z))⟩
theorem pgd_tup {es : List Expr} {k n : Nat} {ts : List Nat} {gs : List D → Env → Option Env} (hc : X.calm = true) (h : PGsd X cm es ts gs)
    (hn : (assignEach es X.env).length = n := by rfl) (hst : (assignEach es X.env).findIdx? (·.1) = none := by rfl) : PGd X cm (.Tuple es k pos) ts (gT n gs) := by
  obtain ⟨u, p, j⟩ := h
  refine ⟨_, pg_tup hc p hn hst, fun G F H σ ρ ρ' d v er hv hg Q kk => ?_⟩
  have hg : ((tupOf d).bind fun ds => if ds.length = n then gs ds ρ else none) = some ρ' := hg
  have key : ∀ ds, tupOf d = some ds → ∃ a xs, v = .ref a ∧ SqT X.K H a xs ∧ Rps X.K cm F ds xs := fun ds e => by
    cases hv with
    | tup h r => cases e; exact ⟨_, _, rfl, SqT.of (er.sub _ _ h), r⟩
    | frt h r => cases e; exact ⟨_, _, rfl, sqT_ext (Ext.of er.sub) h, r⟩
    | _ => cases e
  cases q : tupOf d with
  | none => rw [q] at hg; cases hg
  | some ds =>
    rw [q] at hg
    have hg : (if ds.length = n then gs ds ρ else none) = some ρ' := hg
    by_cases c : ds.length = n
    · rw [if_pos c] at hg
      obtain ⟨a, xs, e, h, r⟩ := key ds q
      exact ⟨a, xs, e, h, by rw [← r.length]; exact c, j G F H σ ρ ρ' _ _ er r hg Q kk⟩
    · rw [if_neg c] at hg; cases hg
theorem psd_asg {tg e : Expr} {ts : List Nat} {gs : GS} {fd : M D} (he : PD X cm W e fd) (hg : PGd X cm tg ts gs) (hs : swapsWithSole [tg] e pos.line X.env = pure false := by rfl) (hw : swappedStores [tg] e X.env = pure none := by rfl)
    (h1 : (assignEach [tg] X.env).map (·.2) = [assign tg X.env] := by rfl) : PSd X cm W (.Assign [tg] e pos) (exps fd fun d ρ => (gs d ρ).map fun ρ' => (.nx, ρ')) := by
  obtain ⟨t, p, j⟩ := he
  obtain ⟨g, pg, jg⟩ := hg
  refine ⟨_, ps_asg p pg hs hw h1, jst_exp (t2 := fun v D σ H => g v σ H D.nx) j fun d v G F H σ ρ r ρ' er hv hk D hD => ?_⟩
  cases q : gs d ρ with
  | none => rw [q] at hk; cases hk
  | some ρ1 =>
    rw [q] at hk
    cases hk
    exact jg G F H σ ρ _ d v er hv q _ fun σ1 er1 _ _ => hD F H σ1 er1 (Ext.refl F)
/-- a, b = e1, e2 -/
def parS (i j : Nat) (f : M (List D)) : SM := exps f fun ds ρ => match ds with
  | [d, e] => if i < ρ.length ∧ j < ρ.length then some (.nx, (ρ.set i (.val d)).set j (.val e)) else none
  | _ => none
theorem psd_par {i j : Nat} {x y : Str} {a b : Expr} {px py pt : Pos} {kt k2 pt2} {fds : M (List D)} (hc : X.calm = true) (hN : X.N.Nodup) (ha : PVs X cm W [a, b] fds) (hi : X.N[i]? = some x := by rfl) (hj : X.N[j]? = some y := by rfl) (hij : i ≠ j := by decide)
    (hx : X.env.scope.names.lookup x = some .local := by rfl) (hy : X.env.scope.names.lookup y = some .local := by rfl)
    (hw : swappedStores [.Tuple [.Name x px, .Name y py] kt pt] (.Tuple [a, b] k2 pt2) X.env = pure (some [x, y]) := by rfl)
    (hs : swapsWithSole [.Tuple [.Name x px, .Name y py] kt pt] (.Tuple [a, b] k2 pt2) pos.line X.env = pure false := by rfl) :
    PSd X cm W (.Assign [.Tuple [.Name x px, .Name y py] kt pt] (.Tuple [a, b] k2 pt2) pos) (parS i j fds) := by
  obtain ⟨t, p, jj⟩ := ha
  refine ⟨_, ps_par hc hN hi hj hij hx hy p hw hs, ?_⟩
  unfold parS
  refine jst_exp (t2 := fun vs D σ H => ∃ v w, vs = [v, w] ∧ D.nx ((σ.set i (some v)).set j (some w)) H) jj fun ds vs G F H σ ρ r ρ' er hv hk D hD => ?_
  have hv : Rps X.K cm F ds vs := hv
  match ds, hv, hk with
  | [d, e], .cons h1 (.cons h2 .nil), hk =>
    have hk : (if i < ρ.length ∧ j < ρ.length then some (SR.nx, (ρ.set i (.val d)).set j (.val e)) else none) = some (r, ρ') := hk
    by_cases c : i < ρ.length ∧ j < ρ.length
    · rw [if_pos c] at hk; cases hk
      exact ⟨_, _, rfl, hD F H _ ((er.setV c.1 h1).setV (by rw [List.length_set]; exact c.2) h2) (Ext.refl F)⟩
    · rw [if_neg c] at hk; cases hk
/-- x op= e, ints -/
def augS (i : Nat) (f : Int → Int → Int) (fd : M D) : SM := fun ρ => match ρ[i]? with
  | some (.val (.int a)) => exps fd (fun d => match d with
    | .int b => setV i (.int (f a b))
    | _ => fun _ => none) ρ
  | _ => none
theorem psd_aug {x : Str} {e : Expr} {pos' : Pos} {op : Operator} {f : Int → Int → Int} {fd : M D} (i : Nat) (hN : X.N.Nodup) (ho : PIp X op (ipI f)) (he : PD X cm W e fd) (hi : X.N[i]? = some x := by rfl) (hx : Loc X.env.scope x := by first | exact Or.inl rfl | exact Or.inr rfl)
    (hf : X.fn x = true ∨ X.env.scope.names.lookup x = some .local := by first | exact .inl rfl | exact .inr rfl | assumption) : PSd X cm W (.AugAssign (.Name x pos') op e pos) (augS i f fd) := by
  obtain ⟨t, p, j⟩ := he
  refine ⟨_, ps_aug hN hi hx p ho hf, fun G F H σ ρ r ρ' er hg D hD => ?_⟩
  unfold augS at hg
  cases q : ρ[i]? with
  | none => rw [q] at hg; cases hg
  | some s =>
    rw [q] at hg
    match s, q, hg with
    | .val (.int a), q, hg =>
      obtain ⟨v, e1, rv⟩ := er.slot i _ q
      cases rv
      refine ⟨.int a, e1, ?_⟩
      refine jst_exp (t2 := fun y D σ H => ipI f (.int a) y H fun z H2 => D.nx (σ.set i (some z)) H2) j (fun d y G F H σ ρ r ρ' er hv hk D hD => ?_) G F H σ ρ r ρ' er hg D hD
      cases d with
      | int b =>
        cases hv
        have hk : setV i (.int (f a b)) ρ = some (r, ρ') := hk
        unfold setV at hk
        by_cases c : i < ρ.length
        · rw [if_pos c] at hk; cases hk
          exact ⟨a, b, rfl, rfl, hD F H _ (er.setV c (.int _)) (Ext.refl F)⟩
        · rw [if_neg c] at hk; cases hk
      | _ => cases hk
/-! ### walks -/
/-- what J yields from F1 on -/
def WalkD (K : PySem.W.Frag) (cm : Str → Option Addr) (J : It) (F1 : Hp) (ds : List D) : Prop :=
  ∀ (i : Nat) (F' H' : Hp), Ext F1 F' → Same F' H' → (∀ d, ds[i]? = some d → J.go i H' ∧ ∀ x H'', J.yld i H' x H'' → ∃ F'', Grow F' H' F'' H'' ∧ Rp K cm F'' d x) ∧ (ds.length ≤ i → J.stop i H')
def rW (K : PySem.W.Frag) (cm : Str → Option Addr) : Rel (List D) It := fun _ F _ _ _ ds J => WalkD K cm J F ds
def PId (X : Cx) (cm : Str → Option Addr) (W : WX) (tg iter : Expr) (f : M (List D)) : Prop := ∃ wi : TI, PI X tg iter wi ∧ Jd X cm W (rW X.K cm) wi f
def walkL (f : M D) : M (List D) := M.bind f fun d => M.lift (lisOf d)
def walkT (f : M D) : M (List D) := M.bind f fun d => M.lift (tupOf d)
def rngI (lo : Int) (n : Nat) : List D := (List.range n).map fun (i : Nat) => D.int (lo + i)
def walkR1 (f : M (List Op)) : M (List D) := M.bind f fun os ρ => (resN ρ os).bind fun ds => match ds with
  | [.int j] => if -(2 ^ 62) ≤ j ∧ j < 2 ^ 62 then some (.ok (rngI 0 j.toNat), ρ) else none
  | _ => none
def walkR2 (f : M (List Op)) : M (List D) := M.bind f fun os ρ => (resN ρ os).bind fun ds => match ds with
  | [.int i, .int j] => if -(2 ^ 62) ≤ i ∧ i < 2 ^ 62 ∧ -(2 ^ 62) ≤ j ∧ j < 2 ^ 62 then some (.ok (rngI i (j - i).toNat), ρ) else none
  | _ => none
def signs (x : Str) : List D := x.cps.toList.map fun c => D.str ⟨#[c]⟩
def walkS (f : M D) : M (List D) := M.bind f fun d => M.lift ((strOf d).map signs)
theorem rngI_get {lo : Int} {n i : Nat} : (rngI lo n)[i]? = if i < n then some (.int (lo + i)) else none := by
  unfold rngI
  rw [List.getElem?_map]
  by_cases c : i < n
  · rw [List.getElem?_range c, if_pos c]; rfl
  · rw [List.getElem?_eq_none (by rw [List.length_range]; omega), if_neg c]; rfl
theorem walk_rng {K : PySem.W.Frag} {F : Hp} (lo : Int) (n : Nat) : WalkD K cm (Itr lo n) F (rngI lo n) := by
  intro i F' H' x s
  constructor
  · intro d hd
    rw [rngI_get] at hd
    by_cases c : i < n
    · rw [if_pos c] at hd; cases hd
      refine ⟨c, fun y H'' hy => ?_⟩
      obtain ⟨rfl, rfl⟩ := hy
      exact ⟨F', Grow.refl s, .int _⟩
    · rw [if_neg c] at hd; cases hd
  · intro h
    unfold rngI at h
    rw [List.length_map, List.length_range] at h
    exact h
variable {tg e : Expr} {es : List Expr} {f : M D} {fo : M (List Op)}
theorem pid_list (h : PD X cm W e f) : PId X cm W tg e (walkL f) := by
  obtain ⟨t, p, j⟩ := h
  refine ⟨_, pi_list p, ?_⟩
  unfold walkL
  refine JdP.bindS (rel1 := rV X.K cm) (t1 := t) (t2 := fun x σ H1 R => ∃ a, x = V.ref a ∧ (∃ xs, SqL X.K H1 a xs) ∧ R (Itl X.K a) H1) stable_true j fun d x => ?_
  intro G F H σ ρ r ρ' er hp hf Q hQ
  obtain ⟨_, hr⟩ := hp
  have hr : Rp X.K cm F d x := hr
  unfold M.lift at hf
  cases q : lisOf d with
  | none => rw [q] at hf; cases hf
  | some ds =>
    rw [q] at hf
    cases hf
    have key : ∃ a xs, x = .ref a ∧ SqL X.K F a xs ∧ Rps X.K cm F ds xs := by
      cases hr with
      | lst h r => cases q; exact ⟨_, _, rfl, SqL.of h, r⟩
      | frl h r => cases q; exact ⟨_, _, rfl, h, r⟩
      | _ => cases q
    obtain ⟨a, xs, rfl, h1, r1⟩ := key
    refine ⟨a, rfl, ⟨xs, sqL_ext (Ext.of er.sub) h1⟩, hQ F H er (Ext.refl F) (Itl X.K a) fun i F' H' x s => ?_⟩
    have h2 : SqL X.K H' a xs := sqL_ext (x.trans (Ext.of s)) h1
    constructor
    · intro d hd
      obtain ⟨v, hv, rv⟩ := r1.getD hd
      refine ⟨⟨xs, v, h2, hv⟩, fun y H'' hy => ?_⟩
      obtain ⟨rfl, hy⟩ := hy
      have : y = v := Option.some.inj ((hy xs h2).symm.trans hv)
      subst this
      exact ⟨F', Grow.refl s, rv.ext x⟩
    · intro hl
      exact ⟨xs, h2, by rw [← r1.length]; exact hl⟩
theorem pid_tup (h : PD X cm W e f) : PId X cm W tg e (walkT f) := by
  obtain ⟨t, p, j⟩ := h
  refine ⟨_, pi_tup p, ?_⟩
  unfold walkT
  refine JdP.bindS (rel1 := rV X.K cm) (t1 := t) (t2 := fun x σ H1 R => ∃ a, x = V.ref a ∧ (∃ xs, SqT X.K H1 a xs) ∧ R (Itt X.K a) H1) stable_true j fun d x => ?_
  intro G F H σ ρ r ρ' er hp hf Q hQ
  obtain ⟨_, hr⟩ := hp
  have hr : Rp X.K cm F d x := hr
  unfold M.lift at hf
  cases q : tupOf d with
  | none => rw [q] at hf; cases hf
  | some ds =>
    rw [q] at hf
    cases hf
    have key : ∃ a xs, x = .ref a ∧ SqT X.K F a xs ∧ Rps X.K cm F ds xs := by
      cases hr with
      | tup h r => cases q; exact ⟨_, _, rfl, SqT.of h, r⟩
      | frt h r => cases q; exact ⟨_, _, rfl, h, r⟩
      | _ => cases q
    obtain ⟨a, xs, rfl, h1, r1⟩ := key
    refine ⟨a, rfl, ⟨xs, sqT_ext (Ext.of er.sub) h1⟩, hQ F H er (Ext.refl F) (Itt X.K a) fun i F' H' x s => ?_⟩
    have h2 : SqT X.K H' a xs := sqT_ext (x.trans (Ext.of s)) h1
    constructor
    · intro d hd
      obtain ⟨v, hv, rv⟩ := r1.getD hd
      refine ⟨⟨xs, v, h2, hv⟩, fun y H'' hy => ?_⟩
      obtain ⟨rfl, hy⟩ := hy
      have : y = v := Option.some.inj ((hy xs h2).symm.trans hv)
      subst this
      exact ⟨F', Grow.refl s, rv.ext x⟩
    · intro hl
      exact ⟨xs, h2, by rw [← r1.length]; exact hl⟩
theorem pid_str (h : PD X cm W e f) : PId X cm W tg e (walkS f) := by
  obtain ⟨t, p, j⟩ := h
  refine ⟨_, pi_str p, ?_⟩
  unfold walkS
  refine JdP.bindS (rel1 := rV X.K cm) (t1 := t) (t2 := fun v σ H1 R => ∃ x, v = V.str x ∧ R (Its x) H1) stable_true j fun d x => ?_
  intro G F H σ ρ r ρ' er hp hf Q hQ
  obtain ⟨_, hr⟩ := hp
  have hr : Rp X.K cm F d x := hr
  unfold M.lift at hf
  cases d with
  | str z =>
    cases hr
    cases hf
    refine ⟨z, rfl, hQ F H er (Ext.refl F) (Its z) fun i F' H' x s => ?_⟩
    constructor
    · intro d hd
      unfold signs at hd
      rw [List.getElem?_map] at hd
      cases q : z.cps.toList[i]? with
      | none => rw [q] at hd; cases hd
      | some c =>
        rw [q] at hd; cases hd
        have q' : z.cps[i]? = some c := by rw [← Array.getElem?_toList]; exact q
        refine ⟨(Array.getElem?_eq_some_iff.mp q').1, fun y H'' hy => ?_⟩
        obtain ⟨rfl, c', h1, rfl⟩ := hy
        rw [q'] at h1; cases h1
        exact ⟨F', Grow.refl s, .str _⟩
    · intro hl
      unfold signs at hl
      rw [List.length_map, Array.length_toList] at hl
      exact hl
  | _ => cases hf
theorem pid_range1 {p : Pos} {a : Expr} (hg : Gl X "range") (hm : X.mg "range" = none) (ha : PAs X cm W [a] fo) (hs : starEach [a] X.env = [(false, eval a X.env)] := by rfl) : PId X cm W tg (.Call (.Name "range" p) [a] [] pos) (walkR1 fo) := by
  obtain ⟨t, pa, j⟩ := ha
  refine ⟨_, pi_range1 hg hm pa hs, ?_⟩
  unfold walkR1
  refine JdP.bindS (rel1 := rOs X.K cm) (t1 := t) (t2 := fun vs σ H1 R => ∃ j : Int, vs = [V.int j] ∧ -(2 ^ 62) ≤ j ∧ j < 2 ^ 62 ∧ R (Itr 0 j.toNat) H1) stable_true j fun os vs => ?_
  intro G F H σ ρ r ρ' er hp hf Q hQ
  obtain ⟨_, hv⟩ := hp
  cases q : resN ρ os with
  | none => have hf : ((resN ρ os).bind _) = some (r, ρ') := hf; rw [q] at hf; cases hf
  | some ds =>
    have hf : ((resN ρ os).bind fun ds => match ds with
      | [D.int j] => if -(2 ^ 62) ≤ j ∧ j < 2 ^ 62 then some (R.ok (rngI 0 j.toNat), ρ) else none
      | _ => none) = some (r, ρ') := hf
    rw [q] at hf
    have hw := resN_rv er hv q
    match ds, hw, hf with
    | [.int n], .cons h .nil, hf =>
      have hf : (if -(2 ^ 62) ≤ n ∧ n < 2 ^ 62 then some (R.ok (rngI 0 n.toNat), ρ) else none) = some (r, ρ') := hf
      by_cases c : -(2 ^ 62) ≤ n ∧ n < 2 ^ 62
      · rw [if_pos c] at hf; cases hf
        exact ⟨n, by rw [h.int], c.1, c.2, hQ F H er (Ext.refl F) _ (walk_rng _ _)⟩
      · rw [if_neg c] at hf; cases hf
theorem pid_range2 {p : Pos} {a b : Expr} (hg : Gl X "range") (hm : X.mg "range" = none) (ha : PAs X cm W [a, b] fo) (hs : starEach [a, b] X.env = [(false, eval a X.env), (false, eval b X.env)] := by rfl) (hs2 : starEach [b] X.env = [(false, eval b X.env)] := by rfl) : PId X cm W tg (.Call (.Name "range" p) [a, b] [] pos) (walkR2 fo) := by
  obtain ⟨t, pa, j⟩ := ha
  refine ⟨_, pi_range2 hg hm pa hs hs2, ?_⟩
  unfold walkR2
  refine JdP.bindS (rel1 := rOs X.K cm) (t1 := t) (t2 := fun vs σ H1 R => ∃ i j : Int, vs = [V.int i, V.int j] ∧ (-(2 ^ 62) ≤ i ∧ i < 2 ^ 62 ∧ -(2 ^ 62) ≤ j ∧ j < 2 ^ 62) ∧ R (Itr i (j - i).toNat) H1) stable_true j fun os vs => ?_
  intro G F H σ ρ r ρ' er hp hf Q hQ
  obtain ⟨_, hv⟩ := hp
  cases q : resN ρ os with
  | none => have hf : ((resN ρ os).bind _) = some (r, ρ') := hf; rw [q] at hf; cases hf
  | some ds =>
    have hf : ((resN ρ os).bind fun ds => match ds with
      | [D.int i, D.int j] => if -(2 ^ 62) ≤ i ∧ i < 2 ^ 62 ∧ -(2 ^ 62) ≤ j ∧ j < 2 ^ 62 then some (R.ok (rngI i (j - i).toNat), ρ) else none
      | _ => none) = some (r, ρ') := hf
    rw [q] at hf
    have hw := resN_rv er hv q
    match ds, hw, hf with
    | [.int m, .int n], .cons h (.cons h2 .nil), hf =>
      have hf : (if -(2 ^ 62) ≤ m ∧ m < 2 ^ 62 ∧ -(2 ^ 62) ≤ n ∧ n < 2 ^ 62 then some (R.ok (rngI m (n - m).toNat), ρ) else none) = some (r, ρ') := hf
      by_cases c : -(2 ^ 62) ≤ m ∧ m < 2 ^ 62 ∧ -(2 ^ 62) ≤ n ∧ n < 2 ^ 62
      · rw [if_pos c] at hf; cases hf
        exact ⟨m, n, by rw [h.int, h2.int], c, hQ F H er (Ext.refl F) _ (walk_rng _ _)⟩
      · rw [if_neg c] at hf; cases hf
/-! ### for, while -/
def loopF (gs : GS) (b : SM) : List D → SM
  | [] => skipS
  | d :: ds => fun ρ => (gs d ρ).bind fun ρ1 => match b ρ1 with
    | some (.nx, ρ2) => loopF gs b ds ρ2
    | some (.cnt, ρ2) => loopF gs b ds ρ2
    | some (.brk, ρ2) => some (.nx, ρ2)
    | x => x
theorem psd_for {body : List Stmt} {fi : M (List D)} {ts : List Nat} {gs : GS} {b : SM} (hp : PassesOwn (model X.prog X.w) X.A X.env X.xe) (hc : X.calm = true) (hi : PId X cm W tg e fi) (hg : PGd X cm tg ts gs) (hb : PSsd X cm W body b)
    (hs : ∀ x, foldedSetIterable e X.env x = pure x := by intro _; rfl) : PSd X cm W (.For tg e body [] pos) (exps fi fun ds => loopF gs b ds) := by
  obtain ⟨wi, pi, ji⟩ := hi
  obtain ⟨g, pg, jg⟩ := hg
  obtain ⟨tb, pb, jb⟩ := hb
  refine ⟨_, ps_for hp hc pi pg pb hs, ?_⟩
  refine jst_exp (t2 := fun J D σ H1 => ∃ W : Nat → Nat → St → Hp → Prop, (∃ m, W 0 m σ H1) ∧ ∀ i m σ H, W i m σ H →
    (J.stop i H ∧ D.nx σ H) ∨ (J.go i H ∧ ∃ N : St → Hp → Prop, (∀ σ' H', N σ' H' → ∃ m', m' < m ∧ W (i + 1) m' σ' H') ∧ ∀ x H', J.yld i H x H' → g x σ H' fun σ2 H2 => tb { D with nx := N, ct := N, bk := D.nx } σ2 H2)) ji fun ds J G F1 H1 σ1 ρ1 r ρ' er hw hk D hD => ?_
  have hw : WalkD X.K cm J F1 ds := hw
  refine ⟨fun i m σ H => m = ds.length - i ∧ i ≤ ds.length ∧ ∃ F ρ, ER X.K cm G F H σ ρ ∧ Ext F1 F ∧ loopF gs b (ds.drop i) ρ = some (r, ρ'), ⟨ds.length, by simp, Nat.zero_le _, F1, ρ1, er, Ext.refl F1, hk⟩, ?_⟩
  rintro i m σ H ⟨rfl, hi, F, ρ, er, x, hk⟩
  obtain ⟨w1, w2⟩ := hw i F H x er.sub
  by_cases hlt : i < ds.length
  · have hd : ds[i]? = some ds[i] := List.getElem?_eq_getElem hlt
    obtain ⟨go, yl⟩ := w1 _ hd
    rw [List.drop_eq_getElem_cons hlt] at hk
    have hk : ((gs ds[i] ρ).bind fun ρ1 => match b ρ1 with
      | some (SR.nx, ρ2) => loopF gs b (ds.drop (i + 1)) ρ2
      | some (SR.cnt, ρ2) => loopF gs b (ds.drop (i + 1)) ρ2
      | some (SR.brk, ρ2) => some (SR.nx, ρ2)
      | x => x) = some (r, ρ') := hk
    refine .inr ⟨go, fun σ' H' => ∃ F' ρ'', ER X.K cm G F' H' σ' ρ'' ∧ Ext F1 F' ∧ loopF gs b (ds.drop (i + 1)) ρ'' = some (r, ρ'), fun σ' H' h => ⟨ds.length - (i + 1), by omega, rfl, by omega, h⟩, fun v H' hy => ?_⟩
    obtain ⟨F', gr, rv⟩ := yl v H' hy
    have er' := er.grow gr
    have x' : Ext F1 F' := x.trans (Ext.of gr.f)
    cases q : gs ds[i] ρ with
    | none => rw [q] at hk; cases hk
    | some ρ2 =>
      rw [q] at hk
      have hk : (match b ρ2 with
        | some (SR.nx, ρ2) => loopF gs b (ds.drop (i + 1)) ρ2
        | some (SR.cnt, ρ2) => loopF gs b (ds.drop (i + 1)) ρ2
        | some (SR.brk, ρ2) => some (SR.nx, ρ2)
        | x => x) = some (r, ρ') := hk
      refine jg G F' H' σ ρ ρ2 ds[i] v er' rv q _ fun σ2 er2 _ _ => ?_
      cases q2 : b ρ2 with
      | none => rw [q2] at hk; cases hk
      | some pr =>
        obtain ⟨r3, ρ3⟩ := pr
        rw [q2] at hk
        refine jb G F' H' σ2 ρ2 r3 ρ3 er2 q2 _ fun F3 H3 σ3 er3 x3 => ?_
        cases r3 with
        | nx => exact ⟨F3, ρ3, er3, x'.trans x3, hk⟩
        | cnt => exact ⟨F3, ρ3, er3, x'.trans x3, hk⟩
        | brk => cases hk; exact hD F3 H3 σ3 er3 (x'.trans x3)
        | exc z => cases hk; exact hD F3 H3 σ3 er3 (x'.trans x3)
        | ret s =>
          cases hk
          have := hD F3 H3 σ3 er3 (x'.trans x3)
          cases s <;> exact this
  · have e0 : i = ds.length := by omega
    subst e0
    rw [List.drop_length] at hk
    cases hk
    exact .inl ⟨w2 (Nat.le_refl _), hD F H σ er x⟩
def loopW (c : M Bool) (b : SM) : Nat → SM
  | 0 => fun _ => none
  | n + 1 => fun ρ => match c ρ with
    | none => none
    | some (.exc x, ρ1) => some (.exc x, ρ1)
    | some (.ok false, ρ1) => some (.nx, ρ1)
    | some (.ok true, ρ1) => match b ρ1 with
      | some (.nx, ρ2) => loopW c b n ρ2
      | some (.cnt, ρ2) => loopW c b n ρ2
      | some (.brk, ρ2) => some (.nx, ρ2)
      | x => x
theorem psd_while {c : Expr} {body : List Stmt} {fc : M Bool} {b : SM} (μ : Env → Nat) (hp : PassesOwn (model X.prog X.w) X.A X.env X.xe) (hc : PB X cm W c fc) (hb : PSsd X cm W body b) : PSd X cm W (.While c body [] pos) (fun ρ => loopW fc b (μ ρ) ρ) := by
  obtain ⟨tc, pc, jc⟩ := hc
  obtain ⟨tb, pb, jb⟩ := hb
  refine ⟨_, ps_while hp pc pb, fun G F0 H0 σ0 ρ0 r ρ' er0 hg D hD => ?_⟩
  refine ⟨fun m σ H => ∃ F ρ, ER X.K cm G F H σ ρ ∧ Ext F0 F ∧ loopW fc b m ρ = some (r, ρ'), ⟨μ ρ0, F0, ρ0, er0, Ext.refl F0, hg⟩, ?_⟩
  rintro m σ H ⟨F, ρ, er, x, hk⟩
  cases m with
  | zero => cases hk
  | succ n =>
    have hk : (match fc ρ with
      | none => none
      | some (R.exc x, ρ1) => some (SR.exc x, ρ1)
      | some (R.ok false, ρ1) => some (SR.nx, ρ1)
      | some (R.ok true, ρ1) => match b ρ1 with
        | some (SR.nx, ρ2) => loopW fc b n ρ2
        | some (SR.cnt, ρ2) => loopW fc b n ρ2
        | some (SR.brk, ρ2) => some (SR.nx, ρ2)
        | x => x) = some (r, ρ') := hk
    cases q : fc ρ with
    | none => rw [q] at hk; cases hk
    | some pr =>
      obtain ⟨rc, ρ1⟩ := pr
      rw [q] at hk
      refine jc G F H σ ρ rc ρ1 er trivial q _ fun F1 H1 er1 x1 => ?_
      cases rc with
      | exc z => cases hk; exact hD F1 H1 σ er1 (x.trans x1)
      | ok k =>
        rintro k' rfl
        cases k with
        | false => cases hk; exact hD F1 H1 σ er1 (x.trans x1)
        | true =>
          have hk : (match b ρ1 with
            | some (SR.nx, ρ2) => loopW fc b n ρ2
            | some (SR.cnt, ρ2) => loopW fc b n ρ2
            | some (SR.brk, ρ2) => some (SR.nx, ρ2)
            | x => x) = some (r, ρ') := hk
          refine ⟨fun σ' H' => ∃ F' ρ'', ER X.K cm G F' H' σ' ρ'' ∧ Ext F0 F' ∧ loopW fc b n ρ'' = some (r, ρ'), fun σ' H' h => ⟨n, Nat.lt_succ_self n, h⟩, ?_⟩
          cases q2 : b ρ1 with
          | none => rw [q2] at hk; cases hk
          | some pr =>
            obtain ⟨r3, ρ3⟩ := pr
            rw [q2] at hk
            refine jb G F1 H1 σ ρ1 r3 ρ3 er1 q2 _ fun F3 H3 σ3 er3 x3 => ?_
            have x' := x.trans (x1.trans x3)
            cases r3 with
            | nx => exact ⟨F3, ρ3, er3, x', hk⟩
            | cnt => exact ⟨F3, ρ3, er3, x', hk⟩
            | brk => cases hk; exact hD F3 H3 σ3 er3 x'
            | exc z => cases hk; exact hD F3 H3 σ3 er3 x'
            | ret s =>
              cases hk
              have := hD F3 H3 σ3 er3 x'
              cases s <;> exact this
end
end Pd

/-! Pd7: list comprehensions. -/
namespace Pd
open PySem PySem.Spec L2

/-! ### a reading by what it does -/
def canE (K : PySem.W.Frag) (cm : Str → Option Addr) (W : WX) {α β : Type} (rel : Rel α β) (f : M α) : St → Hp → (β → Hp → Prop) → Prop :=
  fun σ H Q => ∃ (G : Gd) (F : Hp) (ρ : Env) (r : R α) (ρ' : Env), ER K cm G F H σ ρ ∧ f ρ = some (r, ρ') ∧ Post K cm G W σ F rel Q r ρ'
def canG (K : PySem.W.Frag) (cm : Str → Option Addr) (ts : List Nat) (gs : GS) : TG :=
  fun v σ H Q => ∃ (G : Gd) (F : Hp) (ρ ρ' : Env) (d : D), ER K cm G F H σ ρ ∧ Rp K cm F d v ∧ gs d ρ = some ρ' ∧ ∀ σ', ER K cm G F H σ' ρ' → σ'.length = σ.length → (∀ j, j ∉ ts → σ'[j]? = σ[j]?) → Q σ' H
section
variable {X : Cx} {cm : Str → Option Addr} {W : WX}
theorem PD.can {e : Expr} {f : M D} (h : PD X cm W e f) : PE X e (canE X.K cm W (rV X.K cm) f) := by
  obtain ⟨t, p, j⟩ := h
  exact ⟨fun pins s σ H Q I h => p.run pins s σ H Q I (let ⟨G, F, ρ, r, ρ', er, hf, hQ⟩ := h; j G F H σ ρ r ρ' er trivial hf Q hQ)⟩
theorem PGd.can {e : Expr} {ts : List Nat} {gs : GS} (h : PGd X cm e ts gs) : PG X e (canG X.K cm ts gs) := by
  obtain ⟨t, p, j⟩ := h
  exact ⟨fun pins s σ H v u Q I r h => p.run pins s σ H v u Q I r (let ⟨G, F, ρ, ρ', d, er, hv, hg, hQ⟩ := h; j G F H σ ρ ρ' d v er hv hg Q hQ)⟩
def PTsd (X : Cx) (cm : Str → Option Addr) (W : WX) (ifs : List Expr) (f : M Bool) : Prop := ∃ t : TT, PTs X ifs t ∧ Jd X cm W rB t f
theorem PTsd.can {ifs : List Expr} {f : M Bool} (h : PTsd X cm W ifs f) : PTs X ifs (canE X.K cm W rB f) := by
  obtain ⟨t, p, j⟩ := h
  exact ⟨fun pins s σ H Q I h => p.run pins s σ H Q I (let ⟨G, F, ρ, r, ρ', er, hf, hQ⟩ := h; j G F H σ ρ r ρ' er trivial hf Q hQ)⟩
theorem ptsd_nil : PTsd X cm W [] (M.ret true) := ⟨_, pts_nil, jd_retB⟩
theorem ptsd_one {c : Expr} {f : M Bool} (h : PB X cm W c f) : PTsd X cm W [c] f := by
  obtain ⟨t, p, j⟩ := h
  exact ⟨_, pts_one p, j⟩
end
/-! ### slots of a comprehension's own names -/
def wipeE (ρ : Env) : List Nat → Env
  | [] => ρ
  | v :: vs => (wipeE ρ vs).set v .no
def restE (ρ0 ρ : Env) : List Nat → Env
  | [] => ρ
  | v :: vs => (restE ρ0 ρ vs).set v ((ρ0[v]?).getD .no)
def valsAt (ρ : Env) (vs : List Nat) : Bool := vs.all fun i => match ρ[i]? with
  | some (.val _) => true
  | some .no => true
  | _ => false
theorem wipeE_length (ρ : Env) : ∀ vs, (wipeE ρ vs).length = ρ.length
  | [] => rfl
  | v :: vs => by unfold wipeE; rw [List.length_set, wipeE_length ρ vs]
theorem restE_length (ρ0 ρ : Env) : ∀ vs, (restE ρ0 ρ vs).length = ρ.length
  | [] => rfl
  | v :: vs => by unfold restE; rw [List.length_set, restE_length ρ0 ρ vs]
theorem wipeE_out {ρ : Env} {i : Nat} : ∀ {vs : List Nat}, i ∉ vs → (wipeE ρ vs)[i]? = ρ[i]?
  | [], _ => rfl
  | v :: vs, h => by
    have h1 : v ≠ i := fun e => h (by rw [e]; exact List.mem_cons_self)
    unfold wipeE
    rw [List.getElem?_set_ne h1]
    exact wipeE_out fun z => h (List.mem_cons_of_mem _ z)
theorem wipeE_in {ρ : Env} {i : Nat} {s : Sl} : ∀ {vs : List Nat}, i ∈ vs → (wipeE ρ vs)[i]? = some s → s = .no
  | v :: vs, h, e => by
    unfold wipeE at e
    by_cases c : v = i
    · subst c
      by_cases hl : v < (wipeE ρ vs).length
      · rw [set_self hl] at e; cases e; rfl
      · rw [List.getElem?_eq_none (by rw [List.length_set]; omega)] at e; cases e
    · rw [List.getElem?_set_ne c] at e
      exact wipeE_in ((List.mem_cons.mp h).resolve_left fun z => c z.symm) e
theorem restE_out {ρ0 ρ : Env} {i : Nat} : ∀ {vs : List Nat}, i ∉ vs → (restE ρ0 ρ vs)[i]? = ρ[i]?
  | [], _ => rfl
  | v :: vs, h => by
    have h1 : v ≠ i := fun e => h (by rw [e]; exact List.mem_cons_self)
    unfold restE
    rw [List.getElem?_set_ne h1]
    exact restE_out fun z => h (List.mem_cons_of_mem _ z)
theorem restE_in {ρ0 ρ : Env} {i : Nat} {s : Sl} : ∀ {vs : List Nat}, i ∈ vs → (restE ρ0 ρ vs)[i]? = some s → s = (ρ0[i]?).getD .no
  | v :: vs, h, e => by
    unfold restE at e
    by_cases c : v = i
    · subst c
      by_cases hl : v < (restE ρ0 ρ vs).length
      · rw [set_self hl] at e; cases e; rfl
      · rw [List.getElem?_eq_none (by rw [List.length_set]; omega)] at e; cases e
    · rw [List.getElem?_set_ne c] at e
      exact restE_in ((List.mem_cons.mp h).resolve_left fun z => c z.symm) e
theorem wipe_in {σ : St} {i : Nat} : ∀ {vs : List Nat}, i ∈ vs → i < σ.length → (wipe σ vs)[i]? = some none
  | v :: vs, h, hl => by
    unfold wipe
    by_cases c : v = i
    · subst c
      rw [set_self (by rw [wipe_length]; exact hl)]
    · rw [List.getElem?_set_ne c]
      exact wipe_in ((List.mem_cons.mp h).resolve_left fun z => c z.symm) hl
theorem wipe_agree {σ σ2 : St} {vs : List Nat} (hl : σ2.length = σ.length) (h : ∀ j, j ∉ vs → σ2[j]? = σ[j]?) : wipe σ2 vs = wipe σ vs := by
  apply List.ext_getElem?
  intro i
  by_cases c : i ∈ vs
  · by_cases l : i < σ.length
    · rw [wipe_in c l, wipe_in c (by rw [hl]; exact l)]
    · rw [List.getElem?_eq_none (by rw [wipe_length, hl]; omega), List.getElem?_eq_none (by rw [wipe_length]; omega)]
  · rw [wipe_out c, wipe_out c]; exact h i c
theorem wipe_idem (σ : St) (vs : List Nat) : wipe (wipe σ vs) vs = wipe σ vs := wipe_agree (wipe_length σ vs) fun j hj => wipe_out hj
section
variable {K : PySem.W.Frag} {cm : Str → Option Addr} {G : Gd} {F F1 H : Hp} {σ : St} {ρ ρ0 : Env} {vs : List Nat}
theorem SlR.at {σ' : St} {i : Nat} {s : Sl} (h : SlR K cm G F H σ i s) (e : σ'[i]? = σ[i]?) : SlR K cm G F H σ' i s := by
  cases s with
  | no => trivial
  | val d => obtain ⟨v, h1, r⟩ := h; exact ⟨v, by rw [e]; exact h1, r⟩
  | own d => obtain ⟨v, h1, r⟩ := h; exact ⟨v, by rw [e]; exact h1, r⟩
  | par d => obtain ⟨v, h1, r⟩ := h; exact ⟨v, by rw [e]; exact h1, r⟩
theorem ER.wipe (er : ER K cm G F H σ ρ) (vs : List Nat) : ER K cm G F H (wipe σ vs) (wipeE ρ vs) where
  sub := er.sub
  f0 := er.f0
  h0 := er.h0
  live := er.live
  nf := er.nf
  slot := fun i s e => by
    by_cases c : i ∈ vs
    · rw [wipeE_in c e]; trivial
    · rw [wipeE_out c] at e
      exact (er.slot i s e).at (wipe_out c)
  inj := fun i j s t ei ej os ot eq => by
    by_cases ci : i ∈ vs
    · rw [wipeE_in ci ei] at os; cases os
    · by_cases cj : j ∈ vs
      · rw [wipeE_in cj ej] at ot; cases ot
      · rw [wipeE_out ci] at ei
        rw [wipeE_out cj] at ej
        rw [wipe_out ci, wipe_out cj] at eq
        exact er.inj i j s t ei ej os ot eq
  len := by rw [wipeE_length, wipe_length]; exact er.len
  tp := er.tp
/-- behind a comprehension the slots of its names are as they were -/
theorem ER.rest {H1 : Hp} (er0 : ER K cm G F1 H1 σ ρ0) (x : Ext F1 F) (hv : valsAt ρ0 vs = true) (er : ER K cm G F H (L2.wipe σ vs) (wipeE ρ vs)) : ER K cm G F H σ (restE ρ0 ρ vs) where
  sub := er.sub
  f0 := er.f0
  h0 := er.h0
  live := er.live
  nf := er.nf
  slot := fun i s e => by
    by_cases c : i ∈ vs
    · have es := restE_in c e
      have hh := List.all_eq_true.mp hv i c
      cases q : ρ0[i]? with
      | none => rw [q] at es; rw [es]; trivial
      | some s0 =>
        rw [q] at es hh
        have es : s = s0 := es
        subst es
        have hs := er0.slot i s q
        cases s with
        | no => trivial
        | val d => obtain ⟨v, h1, r⟩ := hs; exact ⟨v, h1, r.ext x⟩
        | own d => cases hh
        | par d => cases hh
    · rw [restE_out c] at e
      exact (er.slot i s (by rw [wipeE_out c]; exact e)).at (wipe_out c).symm
  inj := fun i j s t ei ej os ot eq => by
    have key : ∀ k u, (restE ρ0 ρ vs)[k]? = some u → owns u = true → k ∉ vs := fun k u e o c => by
      have es := restE_in c e
      have hh := List.all_eq_true.mp hv k c
      cases q : ρ0[k]? with
      | none => rw [q] at es; rw [es] at o; cases o
      | some s0 =>
        rw [q] at es hh
        have es : u = s0 := es
        subst es
        cases u with
        | no => cases o
        | val _ => cases o
        | own _ => cases hh
        | par _ => cases hh
    have ci := key i s ei os
    have cj := key j t ej ot
    rw [restE_out ci] at ei
    rw [restE_out cj] at ej
    exact er.inj i j s t (by rw [wipeE_out ci]; exact ei) (by rw [wipeE_out cj]; exact ej) os ot (by rw [wipe_out ci, wipe_out cj]; exact eq)
  len := by
    have := er.len
    rw [wipeE_length, wipe_length] at this
    rw [restE_length]; exact this
  tp := er.tp
end
def compF (gs : GS) (ft : M Bool) (fe : M D) (vs : List Nat) : List D → List D → M (List D)
  | [], acc => M.ret acc
  | d :: ds, acc => fun ρ => (gs d (wipeE ρ vs)).bind fun ρ1 => match ft ρ1 with
    | some (.ok true, ρ2) => match fe ρ2 with
      | some (.ok x, ρ3) => if acc.length < sizeLine then compF gs ft fe vs ds (acc ++ [x]) ρ3 else none
      | _ => none
    | some (.ok false, ρ2) => compF gs ft fe vs ds acc ρ2
    | _ => none
def compK (gs : GS) (ft : M Bool) (fe : M D) (vs : List Nat) (ds : List D) : M D := fun ρ1 => if valsAt ρ1 vs = true then match compF gs ft fe vs ds [] ρ1 with
  | some (.ok xs, ρ2) => some (.ok (.lst xs), restE ρ1 ρ2 vs)
  | _ => none else none
def compD (fi : M (List D)) (gs : GS) (ft : M Bool) (fe : M D) (vs : List Nat) : M D := M.bind fi fun ds => compK gs ft fe vs ds
abbrev W0 : WX := fun _ _ _ _ => False
section
variable {X : Cx} {cm : Str → Option Addr} {W : WX} {pos : Pos} {elt tg iter : Expr} {ifs : List Expr} {scope : Scope} {own : List (Str × Nat)} {fi : M (List D)} {gs : GS} {ft : M Bool} {fe : M D} {ts : List Nat}
theorem jd_lc {wi : TI} (vs : List Nat) (hts : ∀ j ∈ ts, j ∈ vs) (ji : Jd X cm W (rW X.K cm) wi fi) :
    Jd X cm W (rF X.K cm) (tLc wi (canG X.K cm ts gs) (canE X.K cm W0 rB ft) (canE X.K cm W0 (rV X.K cm) fe) vs) (compD fi gs ft fe vs) := by
  unfold compD
  refine JdP.bindS (rel1 := rW X.K cm) (t1 := wi) (t2 := fun J σ H1 Q => ∀ D, H1 D = none → ∃ W : Nat → Nat → Hp → Prop, (∃ m, W 0 m (upd H1 D (.lst []))) ∧ ∀ i m H, W i m H →
    (J.stop i H ∧ Q (V.ref D) H) ∨ (J.go i H ∧ ∃ Nx : Hp → Prop, (∀ H', Nx H' → ∃ m', m' < m ∧ W (i + 1) m' H') ∧ ∀ x H', J.yld i H x H' → (canG X.K cm ts gs) x (wipe σ vs) H' fun σ2 H2 => wipe σ2 vs = wipe σ vs ∧ (canE X.K cm W0 rB ft) σ2 H2 fun b H3 =>
      if b = true then (canE X.K cm W0 (rV X.K cm) fe) σ2 H3 fun y H4 => ∃ acc, H4 D = some (.lst acc) ∧ acc.length < sizeLine ∧ Nx (upd H4 D (.lst (acc ++ [y]))) else Nx H3)) stable_true ji fun ds J => ?_
  intro G F1 H1 σ ρ1 r ρ' er1 hp hf Q hQ Dl hD
  obtain ⟨_, hw⟩ := hp
  have hw : WalkD X.K cm J F1 ds := hw
  unfold compK at hf
  by_cases hv : valsAt ρ1 vs = true
  · rw [if_pos hv] at hf
    cases q : compF gs ft fe vs ds [] ρ1 with
    | none => rw [q] at hf; cases hf
    | some pr =>
      obtain ⟨ra, ρe⟩ := pr
      rw [q] at hf
      cases ra with
      | exc x => cases hf
      | ok xs =>
        cases hf
        have hG0 : G.H0 Dl = none := by
          cases z : G.H0 Dl with
          | none => rfl
          | some o => exact absurd hD (er1.live Dl (by rw [z]; simp))
        have hF1 : F1 Dl = none := er1.sub.free hD
        have uno : ∀ (i : Nat) (s : Sl), ρ1[i]? = some s → owns s = true → σ[i]? ≠ some (some (V.ref Dl)) := fun i s e os z => by
          have hs := er1.slot i s e
          cases s with
          | own d =>
            obtain ⟨a, e2, _, r⟩ := hs
            rw [z] at e2
            have : Dl = a := V.ref.inj (Option.some.inj (Option.some.inj e2))
            subst this
            obtain ⟨o, q⟩ := r.some
            rw [hD] at q; cases q
          | par d =>
            obtain ⟨a, e2, _, r⟩ := hs
            rw [z] at e2
            have : Dl = a := V.ref.inj (Option.some.inj (Option.some.inj e2))
            subst this
            obtain ⟨o, q⟩ := r.some
            rw [hD] at q; cases q
          | _ => cases os
        have unoW : ∀ {ρx : Env} {σx : St}, (∀ (i : Nat) (s : Sl), ρx[i]? = some s → owns s = true → σx[i]? ≠ some (some (V.ref Dl))) →
            ∀ (i : Nat) (s : Sl), (wipeE ρx vs)[i]? = some s → owns s = true → (wipe σx vs)[i]? ≠ some (some (V.ref Dl)) := fun {ρx σx} h i s e os z => by
          by_cases c : i ∈ vs
          · rw [wipeE_in c e] at os; cases os
          · rw [wipeE_out c] at e
            rw [wipe_out c] at z
            exact h i s e os z
        refine ⟨fun i m H => m = ds.length - i ∧ i ≤ ds.length ∧ ∃ F ρ acc, ER X.K cm G F H (wipe σ vs) (wipeE ρ vs) ∧ Ext F1 F ∧ F Dl = none ∧
            (∀ (i : Nat) (s : Sl), (wipeE ρ vs)[i]? = some s → owns s = true → (wipe σ vs)[i]? ≠ some (some (V.ref Dl))) ∧ (∃ ys, H Dl = some (.lst ys) ∧ Rps X.K cm F acc ys) ∧ compF gs ft fe vs (ds.drop i) acc ρ = some (.ok xs, ρe),
          ⟨ds.length, by simp, Nat.zero_le _, F1, ρ1, [], (er1.wipe vs).other (by intro xs h; cases h) hF1 hG0 (unoW uno), Ext.refl F1, hF1, unoW uno, ⟨[], upd_same, .nil⟩, q⟩, ?_⟩
        rintro i m H ⟨rfl, hi, F, ρ, acc, er, x, hFD, un, ⟨ys, hHD, rys⟩, hk⟩
        obtain ⟨w1, w2⟩ := hw i F H x er.sub
        by_cases hlt : i < ds.length
        · have hd : ds[i]? = some ds[i] := List.getElem?_eq_getElem hlt
          obtain ⟨go, yl⟩ := w1 _ hd
          rw [List.drop_eq_getElem_cons hlt] at hk
          have hk : ((gs ds[i] (wipeE ρ vs)).bind fun ρ1 => match ft ρ1 with
            | some (R.ok true, ρ2) => match fe ρ2 with
              | some (R.ok x, ρ3) => if acc.length < sizeLine then compF gs ft fe vs (ds.drop (i + 1)) (acc ++ [x]) ρ3 else none
              | _ => none
            | some (R.ok false, ρ2) => compF gs ft fe vs (ds.drop (i + 1)) acc ρ2
            | _ => none) = some (R.ok xs, ρe) := hk
          refine .inr ⟨go, fun H' => ∃ F ρ acc, ER X.K cm G F H' (wipe σ vs) (wipeE ρ vs) ∧ Ext F1 F ∧ F Dl = none ∧
            (∀ (i : Nat) (s : Sl), (wipeE ρ vs)[i]? = some s → owns s = true → (wipe σ vs)[i]? ≠ some (some (V.ref Dl))) ∧ (∃ ys, H' Dl = some (.lst ys) ∧ Rps X.K cm F acc ys) ∧ compF gs ft fe vs (ds.drop (i + 1)) acc ρ = some (.ok xs, ρe),
            fun H' h => ⟨ds.length - (i + 1), by omega, rfl, by omega, h⟩, fun v H' hy => ?_⟩
          obtain ⟨F', gr, rv⟩ := yl v H' hy
          have er' := er.grow gr
          have x' : Ext F1 F' := x.trans (Ext.of gr.f)
          have hHD' : H' Dl = some (.lst ys) := gr.h _ _ hHD
          have hFD' : F' Dl = none := gr.nf Dl (by rw [hHD]; simp) hFD
          have rys' : Rps X.K cm F' acc ys := rys.ext (Ext.of gr.f)
          cases q : gs ds[i] (wipeE ρ vs) with
          | none => rw [q] at hk; cases hk
          | some ρ2 =>
            rw [q] at hk
            have hk : (match ft ρ2 with
              | some (R.ok true, ρ2) => match fe ρ2 with
                | some (R.ok x, ρ3) => if acc.length < sizeLine then compF gs ft fe vs (ds.drop (i + 1)) (acc ++ [x]) ρ3 else none
                | _ => none
              | some (R.ok false, ρ2) => compF gs ft fe vs (ds.drop (i + 1)) acc ρ2
              | _ => none) = some (R.ok xs, ρe) := hk
            refine ⟨inn G F' H' (wipe σ vs) (wipeE ρ vs), F', wipeE ρ vs, ρ2, ds[i], er'.inner, rv, q, fun σ2 er2 l2 a2 => ?_⟩
            have ew : wipe σ2 vs = wipe σ vs := by
              rw [wipe_agree l2 fun j hj => a2 j fun z => hj (hts j z)]
              exact wipe_idem σ vs
            refine ⟨ew, ?_⟩
            cases q2 : ft ρ2 with
            | none => rw [q2] at hk; cases hk
            | some pr =>
              obtain ⟨rb, ρ3⟩ := pr
              rw [q2] at hk
              refine ⟨_, F', ρ2, rb, ρ3, er2, q2, ?_⟩
              intro F3 H3 er3 x3
              cases rb with
              | exc z => cases hk
              | ok b =>
                rintro b' rfl
                cases b with
                | false =>
                  have er3o := er'.outer er3
                  have u3 := er3.unowned hHD' un
                  refine ⟨F3, ρ3, acc, ?_, x'.trans x3, er3.unfrozen hHD' hFD' un, ?_, ⟨ys, er3.kept hHD' un, rys'.ext x3⟩, hk⟩
                  · rw [← ew]; exact er3o.wipe vs
                  · rw [← ew]; exact unoW u3
                | true =>
                  have hk : (match fe ρ3 with
                    | some (R.ok x, ρ3) => if acc.length < sizeLine then compF gs ft fe vs (ds.drop (i + 1)) (acc ++ [x]) ρ3 else none
                    | _ => none) = some (R.ok xs, ρe) := hk
                  cases q3 : fe ρ3 with
                  | none => rw [q3] at hk; cases hk
                  | some pr =>
                    obtain ⟨rc, ρ4⟩ := pr
                    rw [q3] at hk
                    refine ⟨_, F3, ρ3, rc, ρ4, er3, q3, ?_⟩
                    intro F4 H4 er4 x4
                    cases rc with
                    | exc z => cases hk
                    | ok d =>
                      intro y hy
                      have hy : Rp X.K cm F4 d y := hy
                      have hk : (if acc.length < sizeLine then compF gs ft fe vs (ds.drop (i + 1)) (acc ++ [d]) ρ4 else none) = some (R.ok xs, ρe) := hk
                      by_cases c : acc.length < sizeLine
                      · rw [if_pos c] at hk
                        have er4o := er'.outer er4
                        have u4 := er4.unowned hHD' un
                        have f4 := er4.unfrozen hHD' hFD' un
                        have rr : Rps X.K cm F4 acc ys := (rys'.ext x3).ext x4
                        refine ⟨ys, er4.kept hHD' un, by rw [← rr.length]; exact c, F4, ρ4, acc ++ [d], ?_, (x'.trans x3).trans x4, f4, ?_, ⟨ys ++ [y], upd_same, rr.append (.cons hy .nil)⟩, hk⟩
                        · rw [← ew]; exact (er4o.wipe vs).other (by intro xs h; cases h) f4 hG0 (unoW u4)
                        · rw [← ew]; exact unoW u4
                      · rw [if_neg c] at hk; cases hk
        · have e0 : i = ds.length := by omega
          subst e0
          rw [List.drop_length] at hk
          cases hk
          refine .inl ⟨w2 (Nat.le_refl _), ?_⟩
          refine hQ F H (ER.rest er1 x hv er) x (.ref Dl) ⟨Dl, rfl, .inl hG0, ⟨hFD, ys, hHD, rys⟩, fun j s e os z => ?_⟩
          by_cases c : j ∈ vs
          · have es := restE_in c e
            have hh := List.all_eq_true.mp hv j c
            cases q0 : ρ1[j]? with
            | none => rw [q0] at es; rw [es] at os; cases os
            | some s0 =>
              rw [q0] at es hh
              have es : s = s0 := es
              subst es
              cases s with
              | no => cases os
              | val _ => cases os
              | own _ => cases hh
              | par _ => cases hh
          · rw [restE_out c] at e
            exact un j s (by rw [wipeE_out c]; exact e) os (by rw [wipe_out c]; exact z)
  · rw [if_neg hv] at hf; cases hf
theorem pf_lc (own : List (Str × Nat)) (hc : X.calm = true) (hN : X.N.Nodup) (hi : PId X cm W tg iter fi) (ok : BlkOk X.N X.env.scope scope own)
    (hg : ∀ (s : Shared) (H : Hp) (C : Addr) (cl : List (Str × Addr)) (fp : List Addr), PGd (X.blk s H scope (compEnvC scope cl C X.env) fp) cm tg ts gs) (ht : ∀ (s : Shared) (H : Hp) (C : Addr) (cl : List (Str × Addr)) (fp : List Addr), PTsd (X.blk s H scope (compEnvC scope cl C X.env) fp) cm W0 ifs ft)
    (he : ∀ (s : Shared) (H : Hp) (C : Addr) (cl : List (Str × Addr)) (fp : List Addr), PD (X.blk s H scope (compEnvC scope cl C X.env) fp) cm W0 elt fe) (hts : ∀ j ∈ ts, j ∈ own.map (·.2) := by decide) (hs : ∀ x, foldedSetIterable iter X.env x = pure x := by intro _; rfl) :
    PF X cm W (.ListComp elt [⟨tg, iter, ifs, 0⟩] scope pos) (compD fi gs ft fe (own.map (·.2))) := by
  obtain ⟨wi, pi, ji⟩ := hi
  exact ⟨_, pe_lc hc hN pi ok (fun s H C cl fp => (hg s H C cl fp).can) (fun s H C cl fp => (ht s H C cl fp).can) (fun s H C cl fp => (he s H C cl fp).can) hs, jd_lc _ hts ji⟩
/-- y = [..], a new list that y owns -/
theorem psd_setLcO {i : Nat} {y : Str} {py spos : Pos} (own : List (Str × Nat)) (hc : X.calm = true) (hN : X.N.Nodup) (hy : X.N[i]? = some y) (hyl : X.env.scope.names.lookup y = some .local)
    (hsw : swapsWith (.ListComp elt [⟨tg, iter, ifs, 0⟩] scope pos) (some (.Name y py)) spos.line X.env = pure true) (hi : PId X cm W tg iter fi) (ok : BlkOk X.N X.env.scope scope own)
    (hg : ∀ (s : Shared) (H : Hp) (C : Addr) (cl : List (Str × Addr)) (fp : List Addr), PGd (X.blk s H scope (compEnvC scope cl C X.env) fp) cm tg ts gs) (ht : ∀ (s : Shared) (H : Hp) (C : Addr) (cl : List (Str × Addr)) (fp : List Addr), PTsd (X.blk s H scope (compEnvC scope cl C X.env) fp) cm W0 ifs ft)
    (he : ∀ (s : Shared) (H : Hp) (C : Addr) (cl : List (Str × Addr)) (fp : List Addr), PD (X.blk s H scope (compEnvC scope cl C X.env) fp) cm W0 elt fe) (hts : ∀ j ∈ ts, j ∈ own.map (·.2) := by decide) (hs : ∀ x, foldedSetIterable iter X.env x = pure x := by intro _; rfl) :
    PSd X cm W (.Assign [.Name y py] (.ListComp elt [⟨tg, iter, ifs, 0⟩] scope pos) spos) (exps (compD fi gs ft fe (own.map (·.2))) (setOw i)) := by
  obtain ⟨wi, pi, ji⟩ := hi
  refine ⟨_, ps_setLc (i := i) (g := canG X.K cm ts gs) (tt := canE X.K cm W0 rB ft) (te := canE X.K cm W0 (rV X.K cm) fe) hc hN hy hyl hsw pi ok (fun s H C cl fp => (hg s H C cl fp).can) (fun s H C cl fp => (ht s H C cl fp).can) (fun s H C cl fp => (he s H C cl fp).can) hs, ?_⟩
  refine jst_exp (t2 := fun v D σ H => gName i v σ H D.nx) (jd_lc _ hts ji) fun d v G F H σ ρ r ρ' er hv hk D hD => ?_
  obtain ⟨a, rfl, h⟩ := hv
  unfold setOw at hk
  by_cases c : i < ρ.length
  · rw [if_pos c] at hk; cases hk
    exact hD F H _ (er.setO c h) (Ext.refl F)
  · rw [if_neg c] at hk; cases hk
/-- y = [..] -/
theorem psd_setLc {i : Nat} {y : Str} {py spos : Pos} (own : List (Str × Nat)) (hc : X.calm = true) (hN : X.N.Nodup) (hy : X.N[i]? = some y) (hyl : X.env.scope.names.lookup y = some .local)
    (hsw : swapsWith (.ListComp elt [⟨tg, iter, ifs, 0⟩] scope pos) (some (.Name y py)) spos.line X.env = pure true) (hi : PId X cm W tg iter fi) (ok : BlkOk X.N X.env.scope scope own)
    (hg : ∀ (s : Shared) (H : Hp) (C : Addr) (cl : List (Str × Addr)) (fp : List Addr), PGd (X.blk s H scope (compEnvC scope cl C X.env) fp) cm tg ts gs) (ht : ∀ (s : Shared) (H : Hp) (C : Addr) (cl : List (Str × Addr)) (fp : List Addr), PTsd (X.blk s H scope (compEnvC scope cl C X.env) fp) cm W0 ifs ft)
    (he : ∀ (s : Shared) (H : Hp) (C : Addr) (cl : List (Str × Addr)) (fp : List Addr), PD (X.blk s H scope (compEnvC scope cl C X.env) fp) cm W0 elt fe) (hts : ∀ j ∈ ts, j ∈ own.map (·.2) := by decide) (hs : ∀ x, foldedSetIterable iter X.env x = pure x := by intro _; rfl) :
    PSd X cm W (.Assign [.Name y py] (.ListComp elt [⟨tg, iter, ifs, 0⟩] scope pos) spos) (exps (compD fi gs ft fe (own.map (·.2))) (setV i)) := by
  obtain ⟨wi, pi, ji⟩ := hi
  refine ⟨_, ps_setLc (i := i) (g := canG X.K cm ts gs) (tt := canE X.K cm W0 rB ft) (te := canE X.K cm W0 (rV X.K cm) fe) hc hN hy hyl hsw pi ok (fun s H C cl fp => (hg s H C cl fp).can) (fun s H C cl fp => (ht s H C cl fp).can) (fun s H C cl fp => (he s H C cl fp).can) hs, ?_⟩
  refine jst_exp (t2 := fun v D σ H => gName i v σ H D.nx) (jd_fresh (jd_lc _ hts ji)) fun d v G F H σ ρ r ρ' er hv hk D hD => ?_
  unfold setV at hk
  by_cases c : i < ρ.length
  · rw [if_pos c] at hk; cases hk
    exact hD F H _ (er.setV c hv) (Ext.refl F)
  · rw [if_neg c] at hk; cases hk
end
end Pd

/-! Pd8: the promise of a def, and its calls. -/
namespace Pd
open PySem PySem.Spec L2
open PyProof.Rows (envOfC)

/-- the arguments behind a def's run -/
def backA : List Sl → List Sl → Option (List Sl)
  | [], _ => some []
  | .val d :: ss, _ :: ρ => (backA ss ρ).map fun t => .val d :: t
  | .par _ :: ss, .par d :: ρ => (backA ss ρ).map fun t => .par d :: t
  | _, _ => none
/-- a def by its body: n slots -/
def fnD (np n : Nat) (g : SM) (ss : List Sl) : Option (SR × List Sl) := if ss.length = np then (match g (ss ++ List.replicate (n - ss.length) .no) with
  | some (.nx, ρ) => (backA ss ρ).map fun t => (.ret (.val .non), t)
  | some (.ret s, ρ) => (backA ss ρ).map fun t => (.ret s, t)
  | some (.exc x, ρ) => (backA ss ρ).map fun t => (.exc x, t)
  | _ => none) else none
abbrev FD := List Sl → Option (SR × List Sl)
def entry (vs : List V) (pa : Addr → Prop) (F H : Hp) : Gd := ⟨vs, pa, fun _ => False, F, H⟩
def FPost (K : PySem.W.Frag) (cm : Str → Option Addr) (G : Gd) (σ : St) (ss' : List Sl) (r : SR) (Q : VK) (E : XK) : Prop :=
  ∀ F' H', ER K cm G F' H' σ ss' → match r with
    | .ret (.val d) => ∀ v, Rp K cm F' d v → Q v H'
    | .ret (.own d) => ∀ a, Hand K cm G F' H' σ ss' a d → Q (.ref a) H'
    | .exc x => ∀ cv dx, XR K cm F' x cv dx → E cv dx H'
    | _ => False
def spD (K : PySem.W.Frag) (cm : Str → Option Addr) (np : Nat) (m : FD) : Sp := fun vs H Q E =>
  ∃ (F : Hp) (ss ss' : List Sl) (r : SR) (pa : Addr → Prop), vs.length = np ∧ ER K cm (entry vs pa F H) F H (vs.map some) ss ∧ m ss = some (r, ss') ∧ FPost K cm (entry vs pa F H) (vs.map some) ss' r Q E
theorem backA_at : ∀ {ss ρ ss' : List Sl}, backA ss ρ = some ss' → ss'.length = ss.length ∧ ∀ (i : Nat) (s : Sl), ss'[i]? = some s → (∃ d, s = .val d ∧ ss[i]? = some (.val d)) ∨ (∃ d, s = .par d ∧ ρ[i]? = some (.par d))
  | [], ρ, ss', h => by
    cases h
    exact ⟨rfl, fun i s e => by simp at e⟩
  | .val d :: ss, x :: ρ, ss', h => by
    have h : (backA ss ρ).map (fun t => Sl.val d :: t) = some ss' := h
    cases q : backA ss ρ with
    | none => rw [q] at h; cases h
    | some t =>
      rw [q] at h; cases h
      obtain ⟨l, a⟩ := backA_at q
      refine ⟨by simp [l], fun i s e => ?_⟩
      cases i with
      | zero => cases e; exact .inl ⟨d, rfl, rfl⟩
      | succ i => simpa using a i s (by simpa using e)
  | .par d0 :: ss, .par d :: ρ, ss', h => by
    have h : (backA ss ρ).map (fun t => Sl.par d :: t) = some ss' := h
    cases q : backA ss ρ with
    | none => rw [q] at h; cases h
    | some t =>
      rw [q] at h; cases h
      obtain ⟨l, a⟩ := backA_at q
      refine ⟨by simp [l], fun i s e => ?_⟩
      cases i with
      | zero => cases e; exact .inr ⟨d, rfl, rfl⟩
      | succ i => simpa using a i s (by simpa using e)
  | .val d :: ss, [], ss', h => nomatch h
  | .par d :: ss, [], ss', h => nomatch h
  | .par d :: ss, .no :: ρ, ss', h => nomatch h
  | .par d :: ss, .val _ :: ρ, ss', h => nomatch h
  | .par d :: ss, .own _ :: ρ, ss', h => nomatch h
  | .no :: ss, ρ, ss', h => by cases ρ <;> cases h
  | .own d :: ss, ρ, ss', h => by cases ρ <;> cases h
section
variable {P : Program} {w : World} {K : PySem.W.Frag} {mg : Str → Option Value} {base : Heap} {cm : Str → Option Addr}
theorem start_at {N : List Str} {vs : List V} {i : Nat} {v : Option V} (h : (vs.map some)[i]? = some v) : (start N vs)[i]? = some v := by
  unfold L2.start
  rw [List.getElem?_append_left]
  · exact h
  · exact (List.getElem?_eq_some_iff.mp h).1
theorem ER.enter {G : Gd} {F H : Hp} {vs : List V} {ss : List Sl} {N : List Str} (er : ER K cm G F H (vs.map some) ss) : ER K cm G F H (start N vs) (ss ++ List.replicate (N.length - ss.length) .no) := by
  have hl : ss.length = vs.length := by have := er.len; rw [List.length_map] at this; exact this
  have at_ : ∀ (i : Nat) (s : Sl), (ss ++ List.replicate (N.length - ss.length) Sl.no)[i]? = some s → ss[i]? = some s ∨ s = .no := fun i s e => by
    by_cases c : i < ss.length
    · rw [List.getElem?_append_left c] at e; exact .inl e
    · rw [List.getElem?_append_right (by omega)] at e
      exact .inr (List.eq_of_mem_replicate (List.mem_of_getElem? e))
  refine ⟨er.sub, er.f0, er.h0, er.live, er.nf, fun i s e => ?_, fun i j s t ei ej os ot eq => ?_, ?_, er.tp⟩
  · rcases at_ i s e with e | rfl
    · have hs := er.slot i s e
      cases s with
      | no => trivial
      | val d => obtain ⟨v, h1, r⟩ := hs; exact ⟨v, start_at h1, r⟩
      | own d => obtain ⟨v, h1, r⟩ := hs; exact ⟨v, start_at h1, r⟩
      | par d => obtain ⟨v, h1, r⟩ := hs; exact ⟨v, start_at h1, r⟩
    · trivial
  · rcases at_ i s ei with ei | rfl
    · rcases at_ j t ej with ej | rfl
      · have hi : i < vs.length := by rw [← hl]; exact (List.getElem?_eq_some_iff.mp ei).1
        have hj : j < vs.length := by rw [← hl]; exact (List.getElem?_eq_some_iff.mp ej).1
        refine er.inj i j s t ei ej os ot ?_
        have e1 : (vs.map some)[i]? = some (some vs[i]) := by rw [List.getElem?_map, List.getElem?_eq_getElem hi]; rfl
        have e2 : (vs.map some)[j]? = some (some vs[j]) := by rw [List.getElem?_map, List.getElem?_eq_getElem hj]; rfl
        rw [start_at e1, start_at e2] at eq
        rw [e1, e2, eq]
      · cases ot
    · cases os
  · unfold L2.start
    rw [List.length_append, List.length_append, List.length_replicate, List.length_replicate, List.length_map, hl]
/-- the arguments of a def behind its run -/
theorem ER.leave {vs : List V} {pa : Addr → Prop} {F H F' H' : Hp} {ss ss' : List Sl} {σ' : St} {ρ' : Env} (er : ER K cm (entry vs pa F H) F H (vs.map some) ss) (er' : ER K cm (entry vs pa F H) F' H' σ' ρ') (hb : backA ss ρ' = some ss') :
    ER K cm (entry vs pa F H) F' H' (vs.map some) ss' := by
  obtain ⟨hl, ha⟩ := backA_at hb
  refine ⟨er'.sub, er'.f0, er'.h0, er'.live, er'.nf, fun i s e => ?_, fun i j s t ei ej os ot eq => ?_, by rw [hl]; exact er.len, er'.tp⟩
  · rcases ha i s e with ⟨d, rfl, e1⟩ | ⟨d, rfl, e1⟩
    · obtain ⟨v, h1, r⟩ := er.slot i _ e1
      exact ⟨v, h1, r.ext er'.f0⟩
    · obtain ⟨a, h1, q, r⟩ := er'.slot i _ e1
      have q1 : vs[i]? = some (.ref a) := q.1
      exact ⟨a, by rw [List.getElem?_map, q1]; rfl, q, r⟩
  · have key : ∀ (k : Nat) (u : Sl), ss'[k]? = some u → owns u = true → ∃ (d : D) (a : Addr), ρ'[k]? = some (.par d) ∧ σ'[k]? = some (some (.ref a)) ∧ (vs.map some)[k]? = some (some (V.ref a)) := fun k u e o => by
      rcases ha k u e with ⟨d, rfl, _⟩ | ⟨d, rfl, e1⟩
      · cases o
      · obtain ⟨a, h1, q, r⟩ := er'.slot k _ e1
        have q1 : vs[k]? = some (.ref a) := q.1
        exact ⟨d, a, e1, h1, by rw [List.getElem?_map, q1]; rfl⟩
    obtain ⟨d, a, e1, h1, g1⟩ := key i s ei os
    obtain ⟨d2, b, e2, h2, g2⟩ := key j t ej ot
    refine er'.inj i j _ _ e1 e2 rfl rfl ?_
    rw [g1, g2] at eq
    rw [h1, h2, eq]
theorem ok_def {x qual : Str} {st : Stmt} {f : Addr} {fd : FuncData} {N ps : List Str} {k : Nat} {g : SM} (F : Fun K x qual st f fd) (S : FnScope N ps (defScope st))
    (hb : ∀ (cdv : Value) (A : Around) (outer : List PySem.Env) (s : Shared) (H : Hp) (E : XK), Room k (A.deeper (envOfC qual (defScope st) s.heap.objs.size f cdv)) →
      PSsd (cxOf (L2.CX P w) P w K mg base N qual (defScope st) f cdv A outer s H E) cm (fun cls d _ H => E cls d H) (defBody st) g) :
    FnOk P w K mg base (L2.CX P w) (k + 1) f fd ps (spD K cm ps.length (fnD ps.length N.length g)) := by
  refine F.okX S (fun vs H Q E h => ?_) (fun cdv A outer s H vs Q E hr h => ?_)
  · obtain ⟨_, _, _, _, _, hl, _⟩ := h
    exact hl
  · obtain ⟨F0, ss, ss', r, pa, hl, er, hm, hp⟩ := h
    obtain ⟨t, p, j⟩ := hb cdv A outer s H E hr
    refine ⟨t, p, ?_⟩
    unfold fnD at hm
    rw [if_pos (by have := er.len; rw [List.length_map, hl] at this; exact this)] at hm
    cases q : g (ss ++ List.replicate (N.length - ss.length) .no) with
    | none => rw [q] at hm; cases hm
    | some pr =>
      obtain ⟨r1, ρ1⟩ := pr
      rw [q] at hm
      refine j (entry vs pa F0 H) F0 H (start N vs) _ r1 ρ1 er.enter q _ fun F' H' σ' er' x' => ?_
      cases r1 with
      | nx =>
        have hm : (backA ss ρ1).map (fun t => (SR.ret (.val .non), t)) = some (r, ss') := hm
        cases qb : backA ss ρ1 with
        | none => rw [qb] at hm; cases hm
        | some t => rw [qb] at hm; cases hm; exact hp F' H' (er.leave er' qb) .non .non
      | ret s =>
        have hm : (backA ss ρ1).map (fun t => (SR.ret s, t)) = some (r, ss') := hm
        cases qb : backA ss ρ1 with
        | none => rw [qb] at hm; cases hm
        | some t =>
          rw [qb] at hm; cases hm
          have hz := hp F' H' (er.leave er' qb)
          cases s with
          | no => exact hz
          | par d => exact hz
          | val d => exact hz
          | own d =>
            refine fun a ha => hz a ⟨ha.1, ha.2.1, fun i s e os z => ?_⟩
            obtain ⟨_, hat⟩ := backA_at qb
            rcases hat i s e with ⟨d, rfl, _⟩ | ⟨d, rfl, e1⟩
            · cases os
            · obtain ⟨b, h1, q, _⟩ := er'.slot i _ e1
              have q1 : vs[i]? = some (.ref b) := q.1
              rw [List.getElem?_map, q1] at z
              have : b = a := V.ref.inj (Option.some.inj (Option.some.inj z))
              subst this
              exact ha.2.2 i _ e1 rfl h1
      | exc x =>
        have hm : (backA ss ρ1).map (fun t => (SR.exc x, t)) = some (r, ss') := hm
        cases qb : backA ss ρ1 with
        | none => rw [qb] at hm; cases hm
        | some t => rw [qb] at hm; cases hm; exact hp F' H' (er.leave er' qb)
      | brk => cases hm
      | cnt => cases hm
end
/-! ### a call -/
def slotsOf : List Op → List Nat
  | [] => []
  | .s i :: os => i :: slotsOf os
  | .v _ :: os => slotsOf os
def argS (ρ : Env) : List Op → Option (List Sl)
  | [] => some []
  | .v d :: os => (argS ρ os).map fun t => .val d :: t
  | .s i :: os => (res ρ (.s i)).bind fun d => (argS ρ os).map fun t => .par d :: t
def isS (j : Nat) : Op → Bool
  | .s i => i == j
  | .v _ => false
def setKind : Sl → D → Sl
  | .own _, d => .own d
  | .par _, d => .par d
  | s, _ => s
def inTo (s : Sl) : Option Sl → Sl
  | some (.par d) => setKind s d
  | _ => s
def putB (ρ : Env) (os : List Op) (ss : List Sl) : Env := ρ.mapIdx fun j s => match os.findIdx? (isS j) with
  | none => s
  | some k => inTo s ss[k]?
def callM (m : FD) (os : List Op) : Env → Option (SR × Env) := fun ρ => (argS ρ os).bind fun ss => if (slotsOf os).Nodup then (m ss).bind fun p => some (p.1, putB ρ os p.2) else none
/-- what a call gives: a value, or a new object -/
def rS (K : PySem.W.Frag) (cm : Str → Option Addr) : Rel Sl V := fun G F H σ ρ s v => match s with
  | .val d => Rp K cm F d v
  | .own d => rF K cm G F H σ ρ d v
  | _ => False
def toR : SR → Option (R Sl)
  | .ret (.val d) => some (.ok (.val d))
  | .ret (.own d) => some (.ok (.own d))
  | .exc x => some (.exc x)
  | _ => none
def callR (m : FD) (os : List Op) : M Sl := fun ρ => (callM m os ρ).bind fun p => (toR p.1).map fun r => (r, p.2)
section
variable {K : PySem.W.Frag} {cm : Str → Option Addr} {G : Gd} {F H : Hp} {σ : St} {ρ : Env}
theorem argS_at : ∀ {os : List Op} {ss : List Sl}, argS ρ os = some ss → ss.length = os.length ∧ ∀ (k : Nat) (s : Sl), ss[k]? = some s → (∃ d, s = .val d ∧ os[k]? = some (.v d)) ∨ (∃ d i, s = .par d ∧ os[k]? = some (.s i) ∧ res ρ (.s i) = some d)
  | [], ss, h => by cases h; exact ⟨rfl, fun k s e => by simp at e⟩
  | .v d :: os, ss, h => by
    have h : (argS ρ os).map (fun t => Sl.val d :: t) = some ss := h
    cases q : argS ρ os with
    | none => rw [q] at h; cases h
    | some t =>
      rw [q] at h; cases h
      obtain ⟨l, a⟩ := argS_at q
      refine ⟨by simp [l], fun k s e => ?_⟩
      cases k with
      | zero => cases e; exact .inl ⟨d, rfl, rfl⟩
      | succ k => simpa using a k s (by simpa using e)
  | .s i :: os, ss, h => by
    have h : ((res ρ (.s i)).bind fun d => (argS ρ os).map fun t => Sl.par d :: t) = some ss := h
    cases q0 : res ρ (.s i) with
    | none => rw [q0] at h; cases h
    | some d =>
      rw [q0] at h
      have h : (argS ρ os).map (fun t => Sl.par d :: t) = some ss := h
      cases q : argS ρ os with
      | none => rw [q] at h; cases h
      | some t =>
        rw [q] at h; cases h
        obtain ⟨l, a⟩ := argS_at q
        refine ⟨by simp [l], fun k s e => ?_⟩
        cases k with
        | zero => cases e; exact .inr ⟨d, i, rfl, rfl, q0⟩
        | succ k => simpa using a k s (by simpa using e)
theorem slots_nodup : ∀ {os : List Op} {k l i : Nat}, (slotsOf os).Nodup → os[k]? = some (.s i) → os[l]? = some (.s i) → k = l
  | [], k, l, i, _, h, _ => by simp at h
  | .v d :: os, k, l, i, hn, h, h' => by
    cases k with
    | zero => cases h
    | succ k => cases l with
      | zero => cases h'
      | succ l => exact congrArg (· + 1) (slots_nodup (os := os) hn (by simpa using h) (by simpa using h'))
  | .s j :: os, k, l, i, hn, h, h' => by
    have hn' := List.nodup_cons.mp hn
    have mem : ∀ {os : List Op} {k : Nat}, os[k]? = some (.s i) → i ∈ slotsOf os := by
      intro os
      induction os with
      | nil => intro k h; simp at h
      | cons o os ih =>
        intro k h
        cases k with
        | zero => cases h; exact List.mem_cons_self
        | succ k =>
          have := ih (k := k) (by simpa using h)
          cases o with
          | v _ => exact this
          | s _ => exact List.mem_cons_of_mem _ this
    cases k with
    | zero =>
      cases h
      cases l with
      | zero => rfl
      | succ l => exact absurd (mem (os := os) (k := l) (by simpa using h')) hn'.1
    | succ k => cases l with
      | zero =>
        cases h'
        exact absurd (mem (os := os) (k := k) (by simpa using h)) hn'.1
      | succ l => exact congrArg (· + 1) (slots_nodup (os := os) hn'.2 (by simpa using h) (by simpa using h'))
theorem find_none {os : List Op} {j k : Nat} (h : os.findIdx? (isS j) = none) : os[k]? ≠ some (.s j) := fun e => by
  have := List.findIdx?_eq_none_iff.mp h (.s j) (List.mem_of_getElem? e)
  simp [isS] at this
theorem find_some {os : List Op} {j k : Nat} (h : os.findIdx? (isS j) = some k) : os[k]? = some (.s j) := by
  obtain ⟨hk, h1, _⟩ := List.findIdx?_eq_some_iff_getElem.mp h
  rw [List.getElem?_eq_getElem hk]
  cases q : os[k] with
  | v d => rw [q] at h1; cases h1
  | s i =>
    rw [q] at h1
    have : i = j := by simpa [isS] using h1
    rw [this]
theorem paired_get {α β : Type} {P : α → β → Prop} : ∀ {xs : List α} {ys : List β} {k : Nat} {x : α}, Paired P xs ys → xs[k]? = some x → ∃ y, ys[k]? = some y ∧ P x y
  | _, _, _, _, .nil, h => by simp at h
  | _, _, 0, _, .cons h _, e => by cases e; exact ⟨_, rfl, h⟩
  | _, _, k + 1, _, .cons _ r, e => by
    obtain ⟨y, h1, h2⟩ := paired_get (k := k) r (by simpa using e)
    exact ⟨y, by simpa using h1, h2⟩
theorem paired_len {α β : Type} {P : α → β → Prop} : ∀ {xs : List α} {ys : List β}, Paired P xs ys → xs.length = ys.length
  | _, _, .nil => rfl
  | _, _, .cons _ r => by simp [paired_len r]
/-- the addresses of the arguments that the caller's slots own -/
def paOf (σ : St) (os : List Op) : Addr → Prop := fun a => ∃ i : Nat, Op.s i ∈ os ∧ σ[i]? = some (some (.ref a))
theorem res_slot {i : Nat} {d : D} (h : res ρ (.s i) = some d) : ρ[i]? = some (.own d) ∨ ρ[i]? = some (.par d) := by
  have h : (ρ[i]?).bind ownOf = some d := h
  cases q : ρ[i]? with
  | none => rw [q] at h; cases h
  | some s =>
    rw [q] at h
    have h : ownOf s = some d := h
    cases s with
    | own d' => cases h; exact .inl rfl
    | par d' => cases h; exact .inr rfl
    | _ => cases h
theorem ER.own_of (er : ER K cm G F H σ ρ) {i : Nat} {d : D} (h : res ρ (.s i) = some d) : ∃ a, σ[i]? = some (some (.ref a)) ∧ OwnR K cm F H a d ∧ (Free G a ∨ G.pa a) := by
  rcases res_slot h with e | e
  · obtain ⟨a, h1, q, r⟩ := er.slot i _ e; exact ⟨a, h1, r, .inl q⟩
  · obtain ⟨a, h1, q, r⟩ := er.slot i _ e; exact ⟨a, h1, r, .inr q.2⟩
/-- into the callee -/
theorem ER.into {os : List Op} {vs : List V} {ss : List Sl} (er : ER K cm G F H σ ρ) (hv : Paired (rO K cm G F H σ ρ) os vs) (ha : argS ρ os = some ss) (hn : (slotsOf os).Nodup) :
    ER K cm (entry vs (paOf σ os) F H) F H (vs.map some) ss := by
  obtain ⟨hl, hat⟩ := argS_at ha
  have hlen := paired_len hv
  have par_at : ∀ (k : Nat) (d : D), ss[k]? = some (.par d) → ∃ (i : Nat) (a : Addr), os[k]? = some (.s i) ∧ σ[i]? = some (some (.ref a)) ∧ vs[k]? = some (.ref a) ∧ OwnR K cm F H a d := fun k d e => by
    rcases hat k _ e with ⟨d', e1, _⟩ | ⟨d', i, e1, e2, e3⟩
    · cases e1
    · cases e1
      obtain ⟨a, h1, r, _⟩ := er.own_of e3
      obtain ⟨y, h2, h3⟩ := paired_get hv e2
      have h3 : σ[i]? = some (some y) := h3
      rw [h1] at h3
      have : y = .ref a := (Option.some.inj (Option.some.inj h3)).symm
      subst this
      exact ⟨i, a, e2, h1, h2, r⟩
  refine ⟨er.sub, Ext.refl F, fun _ _ h _ _ => h, fun _ h => h, fun _ _ h _ => h, fun k s e => ?_, fun k l s t ek el os' ot eq => ?_, by rw [List.length_map, hl, hlen], er.tp⟩
  · rcases hat k s e with ⟨d, rfl, e1⟩ | ⟨d, i, rfl, e1, e2⟩
    · obtain ⟨y, h2, h3⟩ := paired_get hv e1
      exact ⟨y, by rw [List.getElem?_map, h2]; rfl, h3⟩
    · obtain ⟨i', a, e3, h1, h2, r⟩ := par_at k d e
      exact ⟨a, by rw [List.getElem?_map, h2]; rfl, ⟨h2, i', List.mem_of_getElem? e3, h1⟩, r⟩
  · rcases hat k s ek with ⟨d, rfl, _⟩ | ⟨d, i, rfl, _, _⟩
    · cases os'
    · rcases hat l t el with ⟨d2, rfl, _⟩ | ⟨d2, j, rfl, _, _⟩
      · cases ot
      · obtain ⟨i1, a, e1, h1, g1, _⟩ := par_at k d ek
        obtain ⟨i2, b, e2, h2, g2, _⟩ := par_at l d2 el
        rw [List.getElem?_map, List.getElem?_map, g1, g2] at eq
        have : a = b := V.ref.inj (Option.some.inj (Option.some.inj eq))
        subst this
        have o1 : res ρ (.s i1) = some d := by
          rcases hat k _ ek with ⟨_, z, _⟩ | ⟨_, _, z, z1, z2⟩
          · cases z
          · cases z; rw [e1] at z1; cases z1; exact z2
        have o2 : res ρ (.s i2) = some d2 := by
          rcases hat l _ el with ⟨_, z, _⟩ | ⟨_, _, z, z1, z2⟩
          · cases z
          · cases z; rw [e2] at z1; cases z1; exact z2
        have ei : i1 = i2 := by
          rcases res_slot o1 with r1 | r1 <;> rcases res_slot o2 with r2 | r2 <;> exact er.inj i1 i2 _ _ r1 r2 rfl rfl (h1.trans h2.symm)
        subst ei
        exact slots_nodup hn e1 e2
/-- back from the callee -/
theorem ER.back {os : List Op} {vs : List V} {ss ss' : List Sl} {F' H' : Hp} (er : ER K cm G F H σ ρ) (hv : Paired (rO K cm G F H σ ρ) os vs) (ha : argS ρ os = some ss) (hn : (slotsOf os).Nodup)
    (hl' : ss'.length = ss.length) (hk : ∀ (k : Nat) (s : Sl), ss'[k]? = some s → (∃ d, s = .val d ∧ ss[k]? = some (.val d)) ∨ (∃ d d0, s = .par d ∧ ss[k]? = some (.par d0)))
    (er' : ER K cm (entry vs (paOf σ os) F H) F' H' (vs.map some) ss') : ER K cm G F' H' σ (putB ρ os ss') := by
  obtain ⟨hl, hat⟩ := argS_at ha
  have pa_of : ∀ {b}, paOf σ os b → ∃ i d, Op.s i ∈ os ∧ σ[i]? = some (some (.ref b)) ∧ res ρ (.s i) = some d ∧ (Free G b ∨ G.pa b) := fun {b} ⟨i, hm, h1⟩ => by
    obtain ⟨k, hk1⟩ := List.mem_iff_getElem?.mp hm
    have hk2 : k < ss.length := by rw [hl]; exact (List.getElem?_eq_some_iff.mp hk1).1
    rcases hat k _ (List.getElem?_eq_getElem hk2) with ⟨d, _, e1⟩ | ⟨d, i2, _, e1, e2⟩
    · rw [hk1] at e1; cases e1
    · rw [hk1] at e1; cases e1
      obtain ⟨a, g1, _, g2⟩ := er.own_of e2
      rw [h1] at g1
      have : b = a := V.ref.inj (Option.some.inj (Option.some.inj g1))
      subst this
      exact ⟨i, d, hm, h1, e2, g2⟩
  have at_ : ∀ (j : Nat) (s : Sl), (putB ρ os ss')[j]? = some s → ∃ s0, ρ[j]? = some s0 ∧ s = (match os.findIdx? (isS j) with
      | none => s0
      | some k => inTo s0 ss'[k]?) := fun j s e => by
    unfold putB at e
    rw [List.getElem?_mapIdx] at e
    cases q : ρ[j]? with
    | none => rw [q] at e; cases e
    | some s0 =>
      rw [q] at e
      exact ⟨s0, rfl, (Option.some.inj e).symm⟩
  have ow : ∀ (j : Nat) (s : Sl), (putB ρ os ss')[j]? = some s → owns s = true → ∃ s0, ρ[j]? = some s0 ∧ owns s0 = true := fun j s e o => by
    obtain ⟨s0, h0, h1⟩ := at_ j s e
    refine ⟨s0, h0, ?_⟩
    have sk : ∀ z, owns (inTo s0 z) = owns s0 := fun z => by
      unfold inTo
      split
      · cases s0 <;> rfl
      · rfl
    rw [h1] at o
    split at o
    · exact o
    · rw [sk] at o; exact o
  refine ⟨er'.sub, er.f0.trans er'.f0, fun b o h n m => ?_, fun b h => er'.live b (er.live b h), fun b h n m => er'.nf b (er.live b h) (er.nf b h n m) (fun z => z), fun j s e => ?_, fun i j s t ei ej os1 ot eq => ?_, ?_, er'.tp⟩
  · refine er'.h0 b o (er.h0 b o h n m) (fun z => ?_) (fun z => z)
    obtain ⟨_, _, _, _, _, q⟩ := pa_of z
    rcases q with q | q
    · rcases q with q | q
      · rw [q] at h; cases h
      · exact m q
    · exact n q
  · obtain ⟨s0, h0, h1⟩ := at_ j s e
    have hs0 := er.slot j s0 h0
    -- an argument's slot
    have argc : ∀ (k : Nat) (d : D), os.findIdx? (isS j) = some k → ss'[k]? = some (.par d) → ∀ a : Addr, σ[j]? = some (some (.ref a)) → OwnR K cm F' H' a d := fun k d f1 f2 a ha1 => by
      obtain ⟨b, g1, q, r⟩ := er'.slot k _ f2
      have g2 : vs[k]? = some (.ref b) := q.1
      obtain ⟨y, h2, h3⟩ := paired_get hv (find_some f1)
      have h3 : σ[j]? = some (some y) := h3
      rw [g2] at h2; cases h2
      rw [ha1] at h3
      have : a = b := V.ref.inj (Option.some.inj (Option.some.inj h3))
      subst this
      exact r
    -- no argument's slot
    have keep : ∀ (a : Addr) (d : D), σ[j]? = some (some (.ref a)) → OwnR K cm F H a d → owns s0 = true → os.findIdx? (isS j) = none → OwnR K cm F' H' a d := fun a d ha1 r o f1 => by
      obtain ⟨ob, hob⟩ := r.some
      have np : ¬ paOf σ os a := fun z => by
        obtain ⟨i, d', hm, h2, h3, _⟩ := pa_of z
        have ei : i = j := by
          rcases res_slot h3 with r1 | r1 <;> exact er.inj i j _ _ r1 h0 rfl o (h2.trans ha1.symm)
        subst ei
        obtain ⟨k, hk1⟩ := List.mem_iff_getElem?.mp hm
        exact find_none f1 hk1
      exact r.mono er'.f0 ((er'.h0 a ob hob np (fun z => z)).trans hob.symm) (er'.nf a (by show H a ≠ none; rw [hob]; simp) r.1 (fun z => z))
    cases f1 : os.findIdx? (isS j) with
    | none =>
      rw [f1] at h1
      have h1 : s = s0 := h1
      subst h1
      cases s with
      | no => trivial
      | val d => obtain ⟨v, g1, r⟩ := hs0; exact ⟨v, g1, r.ext er'.f0⟩
      | own d => obtain ⟨a, g1, q, r⟩ := hs0; exact ⟨a, g1, q, keep a d g1 r rfl f1⟩
      | par d => obtain ⟨a, g1, q, r⟩ := hs0; exact ⟨a, g1, q, keep a d g1 r rfl f1⟩
    | some k =>
      rw [f1] at h1
      have hk0 := find_some f1
      have hkl : k < ss'.length := by rw [hl', hl]; exact (List.getElem?_eq_some_iff.mp hk0).1
      have hss : ∃ d0, ss[k]? = some (.par d0) := by
        have hk2 : k < ss.length := by omega
        rcases hat k _ (List.getElem?_eq_getElem hk2) with ⟨d, _, e1⟩ | ⟨d, i2, e0, e1, e2⟩
        · rw [hk0] at e1; cases e1
        · exact ⟨d, by rw [List.getElem?_eq_getElem hk2, e0]⟩
      obtain ⟨d0, hss⟩ := hss
      rcases hk k _ (List.getElem?_eq_getElem hkl) with ⟨d, _, e1⟩ | ⟨d, _, e0, _⟩
      · rw [hss] at e1; cases e1
      · have f2 : ss'[k]? = some (.par d) := by rw [List.getElem?_eq_getElem hkl, e0]
        have h1 : s = inTo s0 ss'[k]? := h1
        rw [f2] at h1
        have h1 : s = setKind s0 d := h1
        cases s0 with
        | no => rw [h1]; trivial
        | val d' => obtain ⟨v, g1, r⟩ := hs0; rw [h1]; exact ⟨v, g1, r.ext er'.f0⟩
        | own d' => obtain ⟨a, g1, q, r⟩ := hs0; rw [h1]; exact ⟨a, g1, q, argc k d f1 f2 a g1⟩
        | par d' => obtain ⟨a, g1, q, r⟩ := hs0; rw [h1]; exact ⟨a, g1, q, argc k d f1 f2 a g1⟩
  · obtain ⟨s0, h0, o0⟩ := ow i s ei os1
    obtain ⟨t0, h1, o1⟩ := ow j t ej ot
    exact er.inj i j s0 t0 h0 h1 o0 o1 eq
  · unfold putB
    rw [List.length_mapIdx]; exact er.len
end
/-! ### the call as an expression -/
def PSl (X : Cx) (cm : Str → Option Addr) (W : WX) (e : Expr) (f : M Sl) : Prop := ∃ t : TE, PE X e t ∧ Jd X cm W (rS X.K cm) t f
/-- what a def's run leaves of its arguments: the same kinds -/
def Tame (m : FD) : Prop := ∀ ss r ss', m ss = some (r, ss') → ss'.length = ss.length ∧ ∀ (k : Nat) (s : Sl), ss'[k]? = some s → (∃ d, s = .val d ∧ ss[k]? = some (.val d)) ∨ (∃ d d0, s = .par d ∧ ss[k]? = some (.par d0))
theorem backA_tame : ∀ {ss ρ ss' : List Sl}, backA ss ρ = some ss' → ss'.length = ss.length ∧ ∀ (k : Nat) (s : Sl), ss'[k]? = some s → (∃ d, s = .val d ∧ ss[k]? = some (.val d)) ∨ (∃ d d0, s = .par d ∧ ss[k]? = some (.par d0))
  | [], ρ, ss', h => by
    cases h
    exact ⟨rfl, fun i s e => by simp at e⟩
  | .val d :: ss, x :: ρ, ss', h => by
    have h : (backA ss ρ).map (fun t => Sl.val d :: t) = some ss' := h
    cases q : backA ss ρ with
    | none => rw [q] at h; cases h
    | some t =>
      rw [q] at h; cases h
      obtain ⟨l, a⟩ := backA_tame q
      refine ⟨by simp [l], fun i s e => ?_⟩
      cases i with
      | zero => cases e; exact .inl ⟨d, rfl, rfl⟩
      | succ i => simpa using a i s (by simpa using e)
  | .par d0 :: ss, .par d :: ρ, ss', h => by
    have h : (backA ss ρ).map (fun t => Sl.par d :: t) = some ss' := h
    cases q : backA ss ρ with
    | none => rw [q] at h; cases h
    | some t =>
      rw [q] at h; cases h
      obtain ⟨l, a⟩ := backA_tame q
      refine ⟨by simp [l], fun i s e => ?_⟩
      cases i with
      | zero => cases e; exact .inr ⟨d, d0, rfl, rfl⟩
      | succ i => simpa using a i s (by simpa using e)
  | .val d :: ss, [], ss', h => nomatch h
  | .par d :: ss, [], ss', h => nomatch h
  | .par d :: ss, .no :: ρ, ss', h => nomatch h
  | .par d :: ss, .val _ :: ρ, ss', h => nomatch h
  | .par d :: ss, .own _ :: ρ, ss', h => nomatch h
  | .no :: ss, ρ, ss', h => by cases ρ <;> cases h
  | .own d :: ss, ρ, ss', h => by cases ρ <;> cases h
theorem fnD_len {np n : Nat} {g : SM} {ss : List Sl} {p : SR × List Sl} (h : fnD np n g ss = some p) : ss.length = np := by
  unfold fnD at h
  by_cases c : ss.length = np
  · exact c
  · rw [if_neg c] at h; cases h
theorem fnD_tame (np n : Nat) (g : SM) : Tame (fnD np n g) := by
  intro ss r ss' h
  have hl := fnD_len h
  unfold fnD at h
  rw [if_pos hl] at h
  split at h
  · rename_i ρ q
    cases qb : backA ss ρ with
    | none => rw [qb] at h; cases h
    | some t => rw [qb] at h; cases h; exact backA_tame qb
  · rename_i s ρ q
    cases qb : backA ss ρ with
    | none => rw [qb] at h; cases h
    | some t => rw [qb] at h; cases h; exact backA_tame qb
  · rename_i x ρ q
    cases qb : backA ss ρ with
    | none => rw [qb] at h; cases h
    | some t => rw [qb] at h; cases h; exact backA_tame qb
  · cases h
section
variable {X : Cx} {cm : Str → Option Addr} {W : WX} {pos p : Pos} {e : Expr} {es : List Expr} {fs : M (List Op)} {k np : Nat} {f : Addr} {fd : FuncData} {ps : List Str} {m : FD} {x : Str}
def callS (m : FD) (fs : M (List Op)) : M Sl := M.bind fs fun os => callR m os
/-- a promise at the values of operands -/
theorem jd_sp (hm : Tame m) (hnp : ∀ ss p, m ss = some p → ss.length = np) {os : List Op} {vs : List V} :
    JdP X cm W (fun G F H σ ρ => rOs X.K cm G F H σ ρ os vs) (rS X.K cm) (fun σ H Q => spD X.K cm np m vs H Q (WE W σ)) (callR m os) := by
  intro G F H σ ρ r ρ' er hv hf Q hQ
  have hv : Paired (rO X.K cm G F H σ ρ) os vs := hv
  have hf : (callM m os ρ).bind (fun p => (toR p.1).map fun r => (r, p.2)) = some (r, ρ') := hf
  cases q : callM m os ρ with
  | none => rw [q] at hf; cases hf
  | some pr =>
    obtain ⟨r1, ρ1⟩ := pr
    rw [q] at hf
    have hf : (toR r1).map (fun r => (r, ρ1)) = some (r, ρ') := hf
    have q : (argS ρ os).bind (fun ss => if (slotsOf os).Nodup then (m ss).bind fun p => some (p.1, putB ρ os p.2) else none) = some (r1, ρ1) := q
    cases qa : argS ρ os with
    | none => rw [qa] at q; cases q
    | some ss =>
      rw [qa] at q
      have q : (if (slotsOf os).Nodup then (m ss).bind fun p => some (p.1, putB ρ os p.2) else none) = some (r1, ρ1) := q
      by_cases hn : (slotsOf os).Nodup
      · rw [if_pos hn] at q
        cases qm : m ss with
        | none => rw [qm] at q; cases q
        | some pm =>
          obtain ⟨r2, ss'⟩ := pm
          rw [qm] at q
          have q : some (r2, putB ρ os ss') = some (r1, ρ1) := q
          cases q
          obtain ⟨tl, tk⟩ := hm ss r1 ss' qm
          refine ⟨F, ss, ss', r1, paOf σ os, by rw [← paired_len hv, ← (argS_at qa).1]; exact hnp ss _ qm, er.into hv qa hn, qm, fun F' H' er' => ?_⟩
          have erb := er.back hv qa hn tl tk er'
          cases r1 with
          | nx => cases hf
          | brk => cases hf
          | cnt => cases hf
          | exc z =>
            cases hf
            exact hQ F' H' erb er'.f0
          | ret s =>
            cases s with
            | no => cases hf
            | par d => cases hf
            | val d =>
              cases hf
              exact hQ F' H' erb er'.f0
            | own d =>
              cases hf
              intro a ha
              obtain ⟨h1, h2, h3⟩ := ha
              refine hQ F' H' erb er'.f0 (.ref a) ⟨a, rfl, ?_, h2, fun i s e os1 z => ?_⟩
              · have hH : H a = none := h1.resolve_right (fun z => z)
                refine .inl ?_
                cases z : G.H0 a with
                | none => rfl
                | some o => exact absurd hH (er.live a (by rw [z]; simp))
              · have hH : H a = none := h1.resolve_right (fun z => z)
                have hs := erb.slot i s e
                -- what the caller's slots own stood before
                have old : ∃ s0, ρ[i]? = some s0 ∧ owns s0 = true := by
                  unfold putB at e
                  rw [List.getElem?_mapIdx] at e
                  cases q0 : ρ[i]? with
                  | none => rw [q0] at e; cases e
                  | some s0 =>
                    rw [q0] at e
                    refine ⟨s0, rfl, ?_⟩
                    have e := (Option.some.inj e).symm
                    have sk : ∀ z, owns (inTo s0 z) = owns s0 := fun z => by
                      unfold inTo
                      split
                      · cases s0 <;> rfl
                      · rfl
                    rw [e] at os1
                    split at os1
                    · exact os1
                    · rw [sk] at os1; exact os1
                obtain ⟨s0, q0, o0⟩ := old
                have hs0 := er.slot i s0 q0
                cases s0 with
                | no => cases o0
                | val _ => cases o0
                | own d0 =>
                  obtain ⟨b, g1, _, r⟩ := hs0
                  rw [z] at g1
                  have : a = b := V.ref.inj (Option.some.inj (Option.some.inj g1))
                  subst this
                  obtain ⟨o, q⟩ := r.some
                  rw [hH] at q; cases q
                | par d0 =>
                  obtain ⟨b, g1, _, r⟩ := hs0
                  rw [z] at g1
                  have : a = b := V.ref.inj (Option.some.inj (Option.some.inj g1))
                  subst this
                  obtain ⟨o, q⟩ := r.some
                  rw [hH] at q; cases q
      · rw [if_neg hn] at q; cases q
theorem psl_call {ds : List Value} (F : FnOk X.prog X.w X.K X.mg X.base (L2.CX X.prog X.w) k f fd ps (spD X.K cm np m)) (hm : Tame m) (hnp : ∀ ss p, m ss = some p → ss.length = np) (tk : Takes X W) (hr : Room k X.A) (hg : Gl X x) (hmg : X.mg x = some (.ref f)) (hk : PySem.W.keepIn X.K (.ref f) = true) (hb : Binds X.K fd ps [])
    (ha : PAs X cm W (e :: es) fs) (hdb : (x == ("__debug__" : Str)) = false := by decide) (he : starEach (e :: es) X.env = (false, eval e X.env) :: starEach es X.env := by rfl) (hpl : (backTo pos (starEach es X.env)).any (·.1) = false := by rfl) :
    PSl X cm W (.Call (.Name x p) (e :: es) [] pos) (callS m fs) := by
  obtain ⟨t, pa, j⟩ := ha
  refine ⟨_, pe_callS F hr hg hmg hk hb (fun σ => passAt tk σ) pa hdb he hpl, ?_⟩
  unfold callS
  exact JdP.bindS (rel1 := rOs X.K cm) (t1 := t) (t2 := fun vs σ H Q => spD X.K cm np m vs H Q (WE W σ)) stable_true j fun os vs => (jd_sp hm hnp).weak fun _ _ _ _ _ h => h.2
def sVal : Sl → M D
  | .val d => M.ret d
  | .own d => M.ret d
  | _ => M.fail
def sOwn : Sl → M D
  | .own d => M.ret d
  | _ => M.fail
/-- a call's value, a new object frozen -/
theorem pd_ofS {f : M Sl} (h : PSl X cm W e f) : PD X cm W e (M.bind f sVal) := by
  obtain ⟨t, p, j⟩ := h
  refine ⟨t, p, ?_⟩
  intro G F H σ ρ r ρ' er _ hf Q hQ
  unfold M.bind at hf
  cases q : f ρ with
  | none => rw [q] at hf; cases hf
  | some pr =>
    obtain ⟨ra, ρ1⟩ := pr
    rw [q] at hf
    cases ra with
    | exc z =>
      cases hf
      refine j G F H σ ρ (.exc z) _ er trivial q Q fun F' H' er' x' => hQ F' H' er' x'
    | ok s =>
      cases s with
      | no => cases hf
      | par _ => cases hf
      | val d =>
        cases hf
        exact j G F H σ ρ (.ok (.val d)) _ er trivial q Q fun F' H' er' x' => hQ F' H' er' x'
      | own d =>
        cases hf
        refine j G F H σ ρ (.ok (.own d)) _ er trivial q Q fun F' H' er' x' v hv => ?_
        exact freeze_new er' hv fun F2 er2 x2 hr => hQ F2 H' er2 (x'.trans x2) v hr
theorem pf_ofS {f : M Sl} (h : PSl X cm W e f) : PF X cm W e (M.bind f sOwn) := by
  obtain ⟨t, p, j⟩ := h
  refine ⟨t, p, ?_⟩
  intro G F H σ ρ r ρ' er _ hf Q hQ
  unfold M.bind at hf
  cases q : f ρ with
  | none => rw [q] at hf; cases hf
  | some pr =>
    obtain ⟨ra, ρ1⟩ := pr
    rw [q] at hf
    cases ra with
    | exc z =>
      cases hf
      exact j G F H σ ρ (.exc z) _ er trivial q Q fun F' H' er' x' => hQ F' H' er' x'
    | ok s =>
      cases s with
      | no => cases hf
      | par _ => cases hf
      | val d => cases hf
      | own d =>
        cases hf
        exact j G F H σ ρ (.ok (.own d)) _ er trivial q Q fun F' H' er' x' => hQ F' H' er' x'
end
end Pd

/-! Pd9: products, quotients, powers, isinstance, globals, lists that a slot owns, join. -/
namespace Pd
open PySem PySem.Spec L2

/-! ### ints -/
def mulG : D → D → Option D
  | .int i, .int j => if i.natAbs.log2 + j.natAbs.log2 < 1000000 then some (.int (i * j)) else none
  | .lst xs, .int k => if -(2 ^ 63) ≤ k ∧ k < 2 ^ 63 ∧ xs.length * k.toNat ≤ sizeLine then some (.lst (List.replicate k.toNat xs).flatten) else none
  | _, _ => none
def rMulD : R2 := fun x y H Q => rI CMulW (fun i j => .int (i * j)) x y H Q ∨ rRep x y H Q
theorem op_mulD {X : Cx} : OpR X (binaryOp .Mult) rMulD := op_mulW.or op_rep
section
variable {K : PySem.W.Frag} {cm : Str → Option Addr}
theorem Rps.rep {F : Hp} {ds : List D} {vs : List V} (h : Rps K cm F ds vs) : ∀ k : Nat, Rps K cm F (List.replicate k ds).flatten (List.replicate k vs).flatten
  | 0 => .nil
  | k + 1 => by
    rw [List.replicate_succ, List.replicate_succ, List.flatten_cons, List.flatten_cons]
    exact h.append (Rps.rep h k)
theorem od_mul : OpD K cm rMulD mulG := by
  intro F H x y dx dy d s hx hy hg Q k
  cases dx with
  | int i =>
    cases dy with
    | int j =>
      have hg2 : (if i.natAbs.log2 + j.natAbs.log2 < 1000000 then some (D.int (i * j)) else none) = some d := hg
      by_cases c : i.natAbs.log2 + j.natAbs.log2 < 1000000
      · rw [if_pos c] at hg2; cases hg2
        exact .inl ⟨i, j, hx.int, hy.int, c, k F H _ (Grow.refl s) (.int _)⟩
      · rw [if_neg c] at hg2; cases hg2
    | _ => cases hg
  | lst es =>
    cases dy with
    | int j =>
      have hg2 : (if -(2 ^ 63) ≤ j ∧ j < 2 ^ 63 ∧ es.length * j.toNat ≤ sizeLine then some (D.lst (List.replicate j.toNat es).flatten) else none) = some d := hg
      by_cases c : -(2 ^ 63) ≤ j ∧ j < 2 ^ 63 ∧ es.length * j.toNat ≤ sizeLine
      · rw [if_pos c] at hg2; cases hg2
        obtain ⟨a, xs, e1, h1, r1⟩ := hx.lst s
        refine .inr ⟨a, j, xs, e1, hy.int, h1, c.1, c.2.1, by rw [← r1.length]; exact c.2.2, fun p hp => ?_⟩
        have g := Grow.new (o := .lst (List.replicate j.toNat xs).flatten) s hp
        exact k _ _ _ g (.lst upd_same ((r1.rep j.toNat).ext (Ext.of g.f)))
      · rw [if_neg c] at hg2; cases hg2
    | _ => cases hg
  | _ => cases dy <;> cases hg
def fdivG : D → D → Option D := intG (fun _ j => decide (0 < j) && decide (j.natAbs.log2 < 9000)) (fun i j => i / j)
theorem od_fdiv : OpD K cm (rI CDivW fun i j => .int (i / j)) fdivG := od_int fun i j h => by
  have := (Bool.and_eq_true _ _).mp h
  exact ⟨of_decide_eq_true this.1, of_decide_eq_true this.2⟩
def modG : D → D → Option D := intG (fun _ j => decide (0 < j)) (fun i j => i % j)
theorem od_mod : OpD K cm (rI (fun _ j => 0 < j) fun i j => .int (i % j)) modG := od_int fun i j h => of_decide_eq_true h
def subG : D → D → Option D := intG (fun _ _ => true) (fun i j => i - j)
theorem od_sub : OpD K cm (rI0 fun i j => .int (i - j)) subG := by
  intro F H x y dx dy d s hx hy hg Q k
  cases dx with
  | int i => cases dy with
    | int j => cases hg; exact ⟨i, j, hx.int, hy.int, k F H _ (Grow.refl s) (.int _)⟩
    | _ => cases hg
  | _ => cases dy <;> cases hg
def CPowW (i j : Int) : Prop := 0 ≤ j ∧ (Builtin.Int.intBits i : Int) * j ≤ 2 ^ 27
theorem op_powW {X : Cx} : OpR X (binaryOp .Pow) (rI CPowW fun i j => .int (i ^ j.toNat)) := opI fun _ _ _ _ _ _ _ hc q => PyProof.Rows.pow_int hc.1 hc.2 q
def powG : D → D → Option D := intG (fun i j => decide (0 ≤ j) && decide ((Builtin.Int.intBits i : Int) * j ≤ 2 ^ 27)) (fun i j => i ^ j.toNat)
theorem od_pow : OpD K cm (rI CPowW fun i j => .int (i ^ j.toNat)) powG := od_int fun i j h => by
  have := (Bool.and_eq_true _ _).mp h
  exact ⟨of_decide_eq_true this.1, of_decide_eq_true this.2⟩
end
section
variable {X : Cx} {cm : Str → Option Addr} {W : WX} {pos p q : Pos} {a e : Expr} {fo : M Op} {fd : M D} {fds : M (List D)} {x : Str}
def app1 (g : D → Option D) (f : M Op) : M D := M.bind f fun o ρ => (res ρ o).bind fun d => (g d).bind fun z => some (.ok z, ρ)
def negG : D → Option D
  | .int i => some (.int (-i))
  | _ => none
theorem jd_app1 {t : TE} {t2 : V → St → Hp → VK → Prop} {g : D → Option D} (j : Jd X cm W (rO X.K cm) t fo)
    (h : ∀ (F H : Hp) (σ : St) (v : V) (d z : D), Same F H → Rv X.K cm F H d v → g d = some z → ∀ Q : VK, (∀ F' H' v, Grow F H F' H' → Rp X.K cm F' z v → Q v H') → t2 v σ H Q) : Jd X cm W (rV X.K cm) (fun σ H Q => t σ H fun v H1 => t2 v σ H1 Q) (app1 g fo) := by
  unfold app1
  refine JdP.bindS (rel1 := rO X.K cm) (t1 := t) (t2 := t2) stable_true j fun o v => ?_
  refine jd_fin fun G F H σ ρ r ρ' er hp hf => ?_
  obtain ⟨_, ho⟩ := hp
  have hf : ((res ρ o).bind fun d => (g d).bind fun z => some (R.ok z, ρ)) = some (r, ρ') := hf
  cases e1 : res ρ o with
  | none => rw [e1] at hf; cases hf
  | some d =>
    rw [e1] at hf
    have hf : ((g d).bind fun z => some (R.ok z, ρ)) = some (r, ρ') := hf
    cases e2 : g d with
    | none => rw [e2] at hf; cases hf
    | some z =>
      rw [e2] at hf; cases hf
      exact ⟨z, rfl, rfl, fun Q k => h F H σ v d z er.sub (rO_res ho (Ext.refl F) er e1) e2 Q k⟩
theorem pd_neg (ha : PO X cm W a fo) : PD X cm W (.UnaryOp .USub a pos) (app1 negG fo) := by
  obtain ⟨t, p, j⟩ := ha
  refine ⟨_, pe_un un_neg p, jd_app1 (t2 := fun v _ H Q => rU (fun i => .int (-i)) v H Q) j fun F H σ v d z s hv hg Q k => ?_⟩
  cases d with
  | int i => cases hg; exact ⟨i, hv.int, k F H _ (Grow.refl s) (.int _)⟩
  | _ => cases hg
/-! ### a name of the module -/
theorem pd_glob {v : V} {u : Value} {d : D} (hg : Gl X x) (hm : X.mg x = some u) (r : RelV v u) (hd : ∀ F, Rp X.K cm F d v) (hdb : (x == ("__debug__" : Str)) = false := by decide) : PD X cm W (.Name x pos) (M.ret d) := ⟨_, pe_glob hg hm r hdb, jd_const (fun _ _ _ h => h) hd⟩
/-! ### isinstance, built-in types -/
def tyName : D → Option String
  | .non => some "NoneType"
  | .bl _ => some "bool"
  | .int _ => some "int"
  | .str _ => some "str"
  | .tup _ => some "tuple"
  | .frt _ => some "tuple"
  | .lst _ => some "list"
  | .frl _ => some "list"
  | .dk _ => some "dict"
  | _ => none
theorem tyx_of {K : PySem.W.Frag} {F H : Hp} {d : D} {v : V} {n : String} (s : Same F H) (h : Rv K cm F H d v) (e : tyName d = some n) : TyX K H v (.type n) := by
  cases d with
  | non => cases e; rw [h.non]; exact .base .non
  | bl b => cases e; rw [h.bl]; exact .base (.bl b)
  | int i => cases e; rw [h.int]; exact .base (.int i)
  | str i => cases e; rw [h.str]; exact .base (.str i)
  | tup ds =>
    cases e
    obtain ⟨a, xs, rfl, h1, _⟩ := h.tupX s
    exact .base (.tup (s _ _ h1))
  | lst ds =>
    cases e
    obtain ⟨a, xs, rfl, h1, _⟩ := h.lst s
    exact .base (.lst h1)
  | frl ds =>
    cases e
    obtain ⟨a, xs, rfl, h1, _⟩ := h.frl s
    rcases h1 with (h1 | ⟨o, h1⟩) | ⟨o, its, n, h1, h2, _⟩
    · exact .base (.lst h1)
    · exact .base (.frz h1)
    · exact .kList h1 h2
  | frt ds =>
    cases e
    obtain ⟨a, xs, rfl, h1, _⟩ := h.frt s
    rcases h1 with (h1 | ⟨o, h1⟩) | ⟨o, its, n, h1, h2, _⟩
    · exact .base (.tup h1)
    · exact .fTuple h1
    · exact .kTuple h1 h2
  | dk kvs =>
    cases e
    rcases h with h | ⟨a, rfl, _, h⟩
    · cases h with
      | dk h _ _ =>
        obtain ⟨o, h1, h2⟩ := h
        rcases un_dK h2 with rfl | ⟨ob, rfl⟩
        · exact .base (.dK (s _ _ h1))
        · exact .fDict (s _ _ h1)
    · obtain ⟨ks, h1, _⟩ := h
      exact .base (.dK h1)
  | _ => cases e
def isiG (T : String) (d : D) : Option D := (tyName d).bind fun a => (kitB a T).map .bl
theorem pd_isi {T : String} {y : Str} (hg : Gl X "isinstance") (hm : X.mg "isinstance" = none) (hg2 : Gl X y) (hm2 : X.mg y = none) (hv : bootBuiltins y = some (.type T)) (he : PO X cm W e fo)
    (hn : y ≠ "__name__" := by decide) (hdb : (y == ("__debug__" : Str)) = false := by decide)
    (hs : starEach (e :: [.Name y q]) X.env = (false, eval e X.env) :: starEach [.Name y q] X.env := by rfl) (hs2 : starEach (.Name y q :: []) X.env = (false, eval (.Name y q) X.env) :: starEach [] X.env := by rfl)
    (hpl : (backTo pos (starEach [.Name y q] X.env)).any (·.1) = false := by rfl) : PD X cm W (.Call (.Name "isinstance" p) [e, .Name y q] [] pos) (app1 (isiG T) fo) := by
  obtain ⟨t, pe, j⟩ := he
  have hb : PE X (.Name y q) (tC (.ty T)) := pe_bltn hg2 hm2 hv (show RelV (.ty T) (.type T) from rfl) hn hdb
  refine ⟨_, pe_callB call_isi hg hm (by decide +kernel) (pa_cons pe (pa_cons hb pa_nil hs2) hs) (by decide) (by decide) hs hpl, ?_⟩
  refine jd_app1 (t2 := fun v σ H Q => rIsi X.K [v, .ty T] H Q) j fun F H σ v d z s hv hg Q k => ?_
  have hg : (tyName d).bind (fun a => (kitB a T).map D.bl) = some z := hg
  cases e1 : tyName d with
  | none => rw [e1] at hg; cases hg
  | some n =>
    rw [e1] at hg
    have hg : (kitB n T).map D.bl = some z := hg
    cases e2 : kitB n T with
    | none => rw [e2] at hg; cases hg
    | some b =>
      rw [e2] at hg; cases hg
      exact ⟨v, .ty T, .type n, .type T, b, rfl, .ty T, tyx_of s hv e1, kit_ty e2, k F H _ (Grow.refl s) (.bl _)⟩
/-! ### what a slot owns is changed -/
def putC (ρ : Env) (i : Nat) (c : D) : Env := ρ.set i (setKind ((ρ[i]?).getD .no) c)
theorem ER.write {K : PySem.W.Frag} {G : Gd} {F H : Hp} {σ : St} {ρ : Env} {i : Nat} {c c' : D} {a : Addr} {o : HO} (er : ER K cm G F H σ ρ) (h : res ρ (.s i) = some c) (ha : σ[i]? = some (some (.ref a))) (hf : F a = none) (ho : OwnAt K cm F (upd H a o) a c') :
    ER K cm G F (upd H a o) σ (putC ρ i c') := by
  have hsl := res_slot h
  have hi : i < ρ.length := by
    rcases hsl with e | e <;> exact (List.getElem?_eq_some_iff.mp e).1
  have free : Free G a ∨ G.pa a := by
    obtain ⟨b, h1, _, q⟩ := er.own_of h
    rw [ha] at h1
    have : a = b := V.ref.inj (Option.some.inj (Option.some.inj h1))
    subst this
    exact q
  have hne : ∀ b u, G.H0 b = some u → ¬ G.pa b → ¬ G.fr b → b ≠ a := fun b u e n m z => by
    subst z
    rcases free with (q | q) | q
    · rw [q] at e; cases e
    · exact m q
    · exact n q
  have oth : ∀ (j : Nat) (s : Sl) (b : Addr), j ≠ i → ρ[j]? = some s → owns s = true → σ[j]? = some (some (.ref b)) → b ≠ a := fun j s b c e os hb z => by
    subst z
    rcases hsl with e2 | e2 <;> exact c (er.inj j i _ _ e e2 os rfl (hb.trans ha.symm))
  refine ⟨fun b u e => by rw [upd_ne (ne_of_none e hf)]; exact er.sub b u e, er.f0, fun b u e n m => by rw [upd_ne (hne b u e n m)]; exact er.h0 b u e n m, fun b e => ?_, er.nf, fun j s e => ?_, fun j k s t ej ek os ot eq => ?_, ?_, er.tp.upH fun xs z => ho.notup xs (by rw [upd_same, z])⟩
  · by_cases z : b = a
    · subst z; rw [upd_same]; simp
    · rw [upd_ne z]; exact er.live b e
  · unfold putC at e
    by_cases z : j = i
    · subst z
      rw [set_self hi] at e
      have e := (Option.some.inj e).symm
      rcases hsl with e2 | e2
      · rw [e2] at e
        have e : s = .own c' := e
        subst e
        obtain ⟨b, h1, q, _⟩ := er.slot j _ e2
        rw [ha] at h1
        have : a = b := V.ref.inj (Option.some.inj (Option.some.inj h1))
        subst this
        exact ⟨a, ha, q, hf, ho⟩
      · rw [e2] at e
        have e : s = .par c' := e
        subst e
        obtain ⟨b, h1, q, _⟩ := er.slot j _ e2
        rw [ha] at h1
        have : a = b := V.ref.inj (Option.some.inj (Option.some.inj h1))
        subst this
        exact ⟨a, ha, q, hf, ho⟩
    · rw [List.getElem?_set_ne (Ne.symm z)] at e
      have hs := er.slot j s e
      cases s with
      | no => trivial
      | val d => exact hs
      | own d => obtain ⟨b, h1, q, r⟩ := hs; exact ⟨b, h1, q, r.mono (Ext.refl F) (upd_ne (oth j _ b z e rfl h1)) r.1⟩
      | par d => obtain ⟨b, h1, q, r⟩ := hs; exact ⟨b, h1, q, r.mono (Ext.refl F) (upd_ne (oth j _ b z e rfl h1)) r.1⟩
  · have key : ∀ (l : Nat) (u : Sl), (putC ρ i c')[l]? = some u → owns u = true → ∃ u0, ρ[l]? = some u0 ∧ owns u0 = true := fun l u e o => by
      unfold putC at e
      by_cases z : l = i
      · subst z
        rcases hsl with e2 | e2
        · exact ⟨_, e2, rfl⟩
        · exact ⟨_, e2, rfl⟩
      · rw [List.getElem?_set_ne (Ne.symm z)] at e
        exact ⟨u, e, o⟩
    obtain ⟨s0, h0, o0⟩ := key j s ej os
    obtain ⟨t0, h1, o1⟩ := key k t ek ot
    exact er.inj j k s0 t0 h0 h1 o0 o1 eq
  · unfold putC
    rw [List.length_set]; exact er.len
/-- a method of an owned thing: its content and the answer -/
def MtO (K : PySem.W.Frag) (cm : Str → Option Addr) (r : V → List V → Hp → VK → Prop) (g : D → List D → Option (D × D)) : Prop :=
  ∀ (F H : Hp) (a : Addr) (c c' d : D) (ds : List D) (vs : List V), Same F H → F a = none → OwnAt K cm F H a c → Rps K cm F ds vs → g c ds = some (c', d) → ∀ Q : VK, (∀ o v, OwnAt K cm F (upd H a o) a c' → Rp K cm F d v → Q v (upd H a o)) → r (.ref a) vs H Q
def ownT : D → Option String
  | .lst _ => some "list"
  | .dk _ => some "dict"
  | .dt _ => some "dict"
  | _ => none
theorem tyV_own {K : PySem.W.Frag} {F H : Hp} {a : Addr} {c : D} {T : String} (h : OwnAt K cm F H a c) (e : ownT c = some T) : tyV K T (.ref a) H := by
  cases c with
  | lst ds => cases e; obtain ⟨xs, h, _⟩ := h; exact .inl ⟨rfl, xs, SqL.of h⟩
  | dk ds => cases e; obtain ⟨xs, h, _⟩ := h; exact .inr (.inr (.inl ⟨rfl, .inl ⟨xs, h⟩⟩))
  | dt ds => cases e; obtain ⟨xs, h, _⟩ := h; exact .inr (.inr (.inl ⟨rfl, .inr ⟨xs, h⟩⟩))
  | _ => cases e
/-- slot i is an owned T; then the arguments; then the method -/
def ownM (i : Nat) (T : String) (g : D → List D → Option (D × D)) (fds : M (List D)) : M D := fun ρ => match (res ρ (.s i)).bind ownT with
  | none => none
  | some T' => if T' = T then M.bind fds (fun ds ρ => (res ρ (.s i)).bind fun c => (g c ds).bind fun p => some (.ok p.2, putC ρ i p.1)) ρ else none
theorem jd_ownM {T : String} {rm : V → List V → Hp → VK → Prop} {g : D → List D → Option (D × D)} {t : TA} (i : Nat) (hm : MtO X.K cm rm g) (j : Jd X cm W (rVs X.K cm) t fds) :
    Jd X cm W (rV X.K cm) (fun σ H Q => tVar i σ H fun x H1 => tyV X.K T x H1 ∧ t σ H1 fun xs H2 => rm x xs H2 Q) (ownM i T g fds) := by
  intro G F H σ ρ r ρ' er _ hf Q hQ
  unfold ownM at hf
  cases q : (res ρ (.s i)).bind ownT with
  | none => rw [q] at hf; cases hf
  | some T' =>
    rw [q] at hf
    have hf : (if T' = T then M.bind fds (fun ds ρ => (res ρ (.s i)).bind fun c => (g c ds).bind fun p => some (R.ok p.2, putC ρ i p.1)) ρ else none) = some (r, ρ') := hf
    by_cases c : T' = T
    · rw [if_pos c] at hf
      have hf0 := hf
      subst c
      cases q0 : res ρ (.s i) with
      | none => rw [q0] at q; cases q
      | some c0 =>
        rw [q0] at q
        obtain ⟨a, ha, ow, _⟩ := er.own_of q0
        refine ⟨.ref a, ha, tyV_own ow.2 q, ?_⟩
        refine JdP.bindS (P := fun _ _ _ σ _ => σ[i]? = some (some (.ref a))) (rel1 := rVs X.K cm) (rel2 := rV X.K cm) (t1 := t) (t2 := fun xs σ H2 Q => rm (.ref a) xs H2 Q) (fun _ _ _ _ _ _ _ _ h _ => h) (j.weak fun _ _ _ _ _ _ => trivial) (fun ds vs => ?_) G F H σ ρ r ρ' er ha hf0 Q hQ
        intro G F H σ ρ r ρ' er hp hf Q hQ
        obtain ⟨ha, hv⟩ := hp
        have hf : ((res ρ (.s i)).bind fun c => (g c ds).bind fun p => some (R.ok p.2, putC ρ i p.1)) = some (r, ρ') := hf
        cases e1 : res ρ (.s i) with
        | none => rw [e1] at hf; cases hf
        | some c =>
          rw [e1] at hf
          have hf : ((g c ds).bind fun p => some (R.ok p.2, putC ρ i p.1)) = some (r, ρ') := hf
          cases e2 : g c ds with
          | none => rw [e2] at hf; cases hf
          | some p =>
            obtain ⟨c', d⟩ := p
            rw [e2] at hf; cases hf
            obtain ⟨b, hb, ow, _⟩ := er.own_of e1
            rw [ha] at hb
            have : a = b := V.ref.inj (Option.some.inj (Option.some.inj hb))
            subst this
            exact hm F H a c c' d ds vs er.sub ow.1 ow.2 hv e2 Q fun o v ho rv => hQ F (upd H a o) (er.write e1 ha ow.1 ho) (Ext.refl F) v rv
    · rw [if_neg c] at hf; cases hf
theorem pd_ownM {T id : String} {name : Str} {apos cpos xp : Pos} {r : V → List V → Hp → VK → Prop} {g : D → List D → Option (D × D)} {es : List Expr} (i : Nat) (pa : PlainAttrs T) (slot : Slot T name id) (hty : typeOf (.builtin id) = pure (.type "method_descriptor")) (hm : MtR X id r) (hd : MtO X.K cm r g) (ha : PVs X cm W (e :: es) fds)
    (hN : X.N[i]? = some x := by rfl) (hv : Vis X.env.scope x := by first | exact Or.inl rfl | exact Or.inr (Or.inl rfl) | exact Or.inr (Or.inr rfl)) (hdb : (x == ("__debug__" : Str)) = false := by decide) (hcd : (x == ("__classdict__" : Str)) = false := by decide)
    (hbase : attributeBase (.Name x xp) name X.env (eval (.Name x xp) X.env) = eval (.Name x xp) X.env := by rfl)
    (hfew : ((backTo cpos (starEach (e :: es) X.env)).all (fun x => !x.1) && (backToKw cpos (keywordEach [] X.env)).all (fun x => x.1.isSome)
      && decide ((e :: es).length + ([] : List Keyword).length + (if ([] : List Keyword).isEmpty then 0 else 1) < 30)) = true := by rfl)
    (hline : (apos.endLine == cpos.line) = true := by rfl) (hs : starEach (e :: es) X.env = (false, eval e X.env) :: starEach es X.env := by rfl) (hplain : (backTo cpos (starEach es X.env)).any (·.1) = false := by rfl) :
    PD X cm W (.Call (.Attribute (.Name x xp) name apos) (e :: es) [] cpos) (ownM i T g fds) := by
  obtain ⟨t, p, j⟩ := ha
  exact ⟨_, pe_bm pa slot hty hm (pe_var hN hv hdb hcd) p hbase hfew hline hs hplain, jd_ownM i hd j⟩
theorem pd_ownM0 {T id : String} {name : Str} {apos cpos xp : Pos} {r : V → List V → Hp → VK → Prop} {g : D → List D → Option (D × D)} (i : Nat) (pa : PlainAttrs T) (slot : Slot T name id) (hty : typeOf (.builtin id) = pure (.type "method_descriptor")) (hm : MtR X id r) (hd : MtO X.K cm r g)
    (hN : X.N[i]? = some x := by rfl) (hv : Vis X.env.scope x := by first | exact Or.inl rfl | exact Or.inr (Or.inl rfl) | exact Or.inr (Or.inr rfl)) (hdb : (x == ("__debug__" : Str)) = false := by decide) (hcd : (x == ("__classdict__" : Str)) = false := by decide)
    (hbase : attributeBase (.Name x xp) name X.env (eval (.Name x xp) X.env) = eval (.Name x xp) X.env := by rfl) (hline : (apos.endLine == cpos.line) = true := by rfl) :
    PD X cm W (.Call (.Attribute (.Name x xp) name apos) [] [] cpos) (ownM i T g (M.ret [])) := by
  refine ⟨_, pe_bm0 pa slot hty hm (pe_var hN hv hdb hcd) hbase hline, ?_⟩
  have := jd_ownM (X := X) (cm := cm) (W := W) (T := T) (fds := M.ret []) (t := tNil) i hd (fun G F H σ ρ r ρ' er _ hf Q hQ => by
    cases hf
    exact hQ F H er (Ext.refl F) [] .nil)
  exact this
end
/-! ### the methods of lists -/
def appendG : D → List D → Option (D × D)
  | .lst ds, [d] => if ds.length < sizeLine then some (.lst (ds ++ [d]), .non) else none
  | _, _ => none
def popG : D → List D → Option (D × D)
  | .lst ds, [] => (ds[ds.length - 1]?).map fun d => (.lst ds.dropLast, d)
  | _, _ => none
def popAtG : D → List D → Option (D × D)
  | .lst ds, [.int i] => if -(2 ^ 63) ≤ i ∧ i < 2 ^ 63 then (seqIndex? i ds.length).bind fun k => (ds[k]?).map fun d => (.lst (ds.eraseIdx k), d) else none
  | _, _ => none
def extendG : D → List D → Option (D × D)
  | .lst ds, [.lst es] => if ds.length + es.length ≤ sizeLine then some (.lst (ds ++ es), .non) else none
  | _, _ => none
section
variable {K : PySem.W.Frag} {cm : Str → Option Addr}
theorem Rps.dropLast {F : Hp} : ∀ {ds : List D} {vs : List V}, Rps K cm F ds vs → Rps K cm F ds.dropLast vs.dropLast
  | _, _, .nil => .nil
  | _, _, .cons h .nil => .nil
  | _, _, .cons h (.cons h2 r) => .cons h (Rps.dropLast (.cons h2 r))
theorem Rps.eraseIdx {F : Hp} : ∀ {ds : List D} {vs : List V} (k : Nat), Rps K cm F ds vs → Rps K cm F (ds.eraseIdx k) (vs.eraseIdx k)
  | _, _, _, .nil => .nil
  | _, _, 0, .cons h r => r
  | _, _, k + 1, .cons h r => .cons h (Rps.eraseIdx k r)
theorem mo_append : MtO K cm rAppend appendG := by
  intro F H a c c' d ds vs s hf ho hv hg Q k
  match c, ds, hg, ho, hv with
  | .lst es, [x], hg, ⟨xs, h1, r1⟩, .cons hx .nil =>
    have hg : (if es.length < sizeLine then some (D.lst (es ++ [x]), D.non) else none) = some (c', d) := hg
    by_cases c : es.length < sizeLine
    · rw [if_pos c] at hg; cases hg
      exact ⟨a, xs, _, rfl, rfl, h1, by rw [← r1.length]; exact c, k _ _ ⟨_, upd_same, r1.append (.cons hx .nil)⟩ .non⟩
    · rw [if_neg c] at hg; cases hg
theorem mo_pop : MtO K cm rPop popG := by
  intro F H a c c' d ds vs s hf ho hv hg Q k
  match c, ds, hg, ho, hv with
  | .lst es, [], hg, ⟨xs, h1, r1⟩, .nil =>
    have hg : (es[es.length - 1]?).map (fun d => (D.lst es.dropLast, d)) = some (c', d) := hg
    cases q : es[es.length - 1]? with
    | none => rw [q] at hg; cases hg
    | some x =>
      rw [q] at hg; cases hg
      obtain ⟨y, hy, ry⟩ := r1.getD q
      exact ⟨a, xs, y, rfl, rfl, h1, by rw [← r1.length]; exact hy, k _ _ ⟨_, upd_same, r1.dropLast⟩ ry⟩
theorem mo_popAt : MtO K cm rPopAt popAtG := by
  intro F H a c c' d ds vs s hf ho hv hg Q k
  match c, ds, hg, ho, hv with
  | .lst es, [.int i], hg, ⟨xs, h1, r1⟩, .cons hx .nil =>
    have hg : (if -(2 ^ 63) ≤ i ∧ i < 2 ^ 63 then (seqIndex? i es.length).bind fun k => (es[k]?).map fun d => (D.lst (es.eraseIdx k), d) else none) = some (c', d) := hg
    by_cases c : -(2 ^ 63) ≤ i ∧ i < 2 ^ 63
    · rw [if_pos c] at hg
      cases q : seqIndex? i es.length with
      | none => rw [q] at hg; cases hg
      | some n =>
        rw [q] at hg
        have hg : (es[n]?).map (fun d => (D.lst (es.eraseIdx n), d)) = some (c', d) := hg
        cases q2 : es[n]? with
        | none => rw [q2] at hg; cases hg
        | some x =>
          rw [q2] at hg; cases hg
          cases hx
          obtain ⟨y, hy, ry⟩ := r1.getD q2
          exact ⟨a, xs, i, n, y, rfl, rfl, h1, c.1, c.2, by rw [← r1.length]; exact q, hy, k _ _ ⟨_, upd_same, r1.eraseIdx n⟩ ry⟩
    · rw [if_neg c] at hg; cases hg
theorem mo_extend : MtO K cm rExtend extendG := by
  intro F H a c c' d ds vs s hf ho hv hg Q k
  match c, ds, hg, ho, hv with
  | .lst es, [.lst gs], hg, ⟨xs, h1, r1⟩, .cons hx .nil =>
    have hg : (if es.length + gs.length ≤ sizeLine then some (D.lst (es ++ gs), D.non) else none) = some (c', d) := hg
    by_cases c : es.length + gs.length ≤ sizeLine
    · rw [if_pos c] at hg; cases hg
      cases hx with
      | lst h2 r2 => exact ⟨a, _, xs, _, rfl, rfl, h1, s _ _ h2, by rw [← r1.length, ← r2.length]; exact c, k _ _ ⟨_, upd_same, r1.append r2⟩ .non⟩
    · rw [if_neg c] at hg; cases hg
end
/-! ### xs[i] = e -/
section
variable {X : Cx} {cm : Str → Option Addr} {W : WX} {pos : Pos} {e ie : Expr} {fe fi : M D} {x : Str}
def storeS (i : Nat) (g : D → D → D → Option D) (fe fi : M D) : SM := exps fe fun d ρ => match res ρ (.s i) with
  | none => none
  | some _ => exps fi (fun k ρ1 => (res ρ1 (.s i)).bind fun c => (g c k d).bind fun c' => some (.nx, putC ρ1 i c')) ρ
/-- the content behind a store -/
def StO (K : PySem.W.Frag) (cm : Str → Option Addr) (rset : TSet) (g : D → D → D → Option D) : Prop :=
  ∀ (F H : Hp) (a : Addr) (c c' k d : D) (kv v : V), Same F H → F a = none → OwnAt K cm F H a c → Rp K cm F k kv → Rp K cm F d v → g c k d = some c' → ∀ Q : Hp → Prop, (∀ o, OwnAt K cm F (upd H a o) a c' → Q (upd H a o)) → rset (.ref a) kv v H Q
def setLG : D → D → D → Option D
  | .lst ds, .int j, d => (ixN ds.length j).map fun n => .lst (ds.set n d)
  | _, _, _ => none
theorem so_list {K : PySem.W.Frag} : StO K cm rSetL setLG := by
  intro F H a c c' k d kv v s hf ho hk hd hg Q kk
  match c, k, hg, ho, hk with
  | .lst es, .int j, hg, ⟨xs, h1, r1⟩, .int _ =>
    have hg : (ixN es.length j).map (fun n => D.lst (es.set n d)) = some c' := hg
    cases q : ixN es.length j with
    | none => rw [q] at hg; cases hg
    | some n =>
      rw [q] at hg; cases hg
      exact ⟨a, xs, j, n, rfl, rfl, h1, by rw [← r1.length]; exact q, kk _ ⟨_, upd_same, Rps.set hd n r1⟩⟩
theorem jst_store {te ti : TE} {rset : TSet} {g : D → D → D → Option D} (i : Nat) (je : Jd X cm W (rV X.K cm) te fe) (ji : Jd X cm W (rV X.K cm) ti fi) (hg : StO X.K cm rset g) :
    Jst X cm W (fun D σ H => te σ H fun v H1 => tVar i σ H1 fun ov H2 => ti σ H2 fun k H3 => rset ov k v H3 fun H4 => D.nx σ H4) (storeS i g fe fi) := by
  unfold storeS
  refine jst_exp (t2 := fun v D σ H1 => tVar i σ H1 fun ov H2 => ti σ H2 fun k H3 => rset ov k v H3 fun H4 => D.nx σ H4) je fun d v G F H σ ρ r ρ' er hv hk D hD => ?_
  have hv : Rp X.K cm F d v := hv
  cases q0 : res ρ (.s i) with
  | none => rw [q0] at hk; cases hk
  | some c0 =>
    rw [q0] at hk
    have hk : exps fi (fun k ρ1 => (res ρ1 (.s i)).bind fun c => (g c k d).bind fun c' => some (SR.nx, putC ρ1 i c')) ρ = some (r, ρ') := hk
    obtain ⟨a, ha, _, _⟩ := er.own_of q0
    refine ⟨.ref a, ha, ?_⟩
    unfold exps at hk
    cases q : fi ρ with
    | none => rw [q] at hk; cases hk
    | some pr =>
      obtain ⟨ri, ρ1⟩ := pr
      rw [q] at hk
      refine ji G F H σ ρ ri ρ1 er trivial q _ fun F1 H1 er1 x1 => ?_
      cases ri with
      | exc z => cases hk; exact hD F1 H1 σ er1 x1
      | ok k =>
        intro kv hkv
        have hkv : Rp X.K cm F1 k kv := hkv
        have hk : ((res ρ1 (.s i)).bind fun c => (g c k d).bind fun c' => some (SR.nx, putC ρ1 i c')) = some (r, ρ') := hk
        cases e1 : res ρ1 (.s i) with
        | none => rw [e1] at hk; cases hk
        | some c =>
          rw [e1] at hk
          have hk : ((g c k d).bind fun c' => some (SR.nx, putC ρ1 i c')) = some (r, ρ') := hk
          cases e2 : g c k d with
          | none => rw [e2] at hk; cases hk
          | some c' =>
            rw [e2] at hk; cases hk
            obtain ⟨b, hb, ow, _⟩ := er1.own_of e1
            rw [ha] at hb
            have : a = b := V.ref.inj (Option.some.inj (Option.some.inj hb))
            subst this
            exact hg F1 H1 a c c' k d kv v er1.sub ow.1 ow.2 hkv (hv.ext x1) e2 _ fun o ho => hD F1 (upd H1 a o) σ (er1.write e1 ha ow.1 ho) x1
theorem psd_setIx {pos' xp : Pos} (i : Nat) (he : PD X cm W e fe) (hi : PD X cm W ie fi) (hN : X.N[i]? = some x := by rfl) (hv : Vis X.env.scope x := by first | exact Or.inl rfl | exact Or.inr (Or.inl rfl) | exact Or.inr (Or.inr rfl)) (hdb : (x == ("__debug__" : Str)) = false := by decide) (hcd : (x == ("__classdict__" : Str)) = false := by decide)
    (hp : ∀ {to ti : TE}, PE X (.Name x xp) to → PE X ie ti → PG X (.Subscript (.Name x xp) ie pos') (gSub to ti rSetL) := by intro _ _ ho hi; exact pg_sub ho hi set_list)
    (hs : swapsWithSole [.Subscript (.Name x xp) ie pos'] e pos.line X.env = pure false := by rfl) (hw : swappedStores [.Subscript (.Name x xp) ie pos'] e X.env = pure none := by rfl)
    (h1 : (assignEach [.Subscript (.Name x xp) ie pos'] X.env).map (·.2) = [assign (.Subscript (.Name x xp) ie pos') X.env] := by rfl) :
    PSd X cm W (.Assign [.Subscript (.Name x xp) ie pos'] e pos) (storeS i setLG fe fi) := by
  obtain ⟨te, pe, je⟩ := he
  obtain ⟨ti, pi, ji⟩ := hi
  exact ⟨_, ps_asg pe (hp (pe_var hN hv hdb hcd) pi) hs hw h1, jst_store i je ji so_list⟩
/-! ### sep.join(list of texts) -/
def strsOf : List D → Option (List Str)
  | [] => some []
  | .str b :: ds => (strsOf ds).map fun bs => b :: bs
  | _ => none
theorem strsOf_rps {K : PySem.W.Frag} {F : Hp} : ∀ {ds : List D} {vs : List V} {bs : List Str}, Rps K cm F ds vs → strsOf ds = some bs → vs = bs.map V.str
  | _, _, _, .nil, e => by cases e; rfl
  | .str b :: ds, _, bs, .cons h r, e => by
    have e : ((strsOf ds).map fun bs => b :: bs) = some bs := e
    cases q : strsOf ds with
    | none => rw [q] at e; cases e
    | some cs => rw [q] at e; cases e; cases h; rw [strsOf_rps r q]; rfl
def joinG : D → D → Option D
  | .str a, d => (seqOf d).bind fun ds => (strsOf ds).bind fun ys => if (ys.map (·.length)).sum + ys.length * a.length ≤ 16777216 then some (.str (Txt.join a ys)) else none
  | _, _ => none
def joinD (f : M D) (g : M Op) : M D := M.bind f fun s => match s with
  | .str a => M.bind g fun o ρ => (res ρ o).bind fun d => (joinG (.str a) d).bind fun z => some (.ok z, ρ)
  | _ => M.fail
theorem pd_join {apos : Pos} {o : Expr} {fs : M D} {fo : M Op} (ho : PD X cm W o fs) (he : PO X cm W e fo) (hs : starEach [e] X.env = [(false, eval e X.env)] := by rfl) (hbase : attributeBase o "join" X.env (eval o X.env) = eval o X.env := by rfl) (hline : (apos.endLine == pos.line) = true := by rfl) :
    PD X cm W (.Call (.Attribute o "join" apos) [e] [] pos) (joinD fs fo) := by
  obtain ⟨t, p, j⟩ := ho
  obtain ⟨u, p2, j2⟩ := he
  refine ⟨_, pe_join p p2 hs hbase hline, ?_⟩
  unfold joinD
  refine JdP.bindS (rel1 := rV X.K cm) (t1 := t) (t2 := fun x σ H Q => (∃ z, x = V.str z) ∧ u σ H fun y H2 => ∃ a p, ∃ ys : List Str, x = .str a ∧ [y] = [V.ref p] ∧ (SqL X.K H2 p (ys.map V.str) ∨ SqT X.K H2 p (ys.map V.str)) ∧
      (ys.map (·.length)).sum + ys.length * a.length ≤ 16777216 ∧ Q (V.str (Txt.join a ys)) H2) stable_true j fun s x => ?_
  intro G F H σ ρ r ρ' er hp hf Q hQ
  obtain ⟨_, hr⟩ := hp
  cases s with
  | str a =>
    cases hr
    refine ⟨⟨a, rfl⟩, ?_⟩
    refine JdP.bindS (P := fun _ _ _ _ _ => True) (rel1 := rO X.K cm) (rel2 := rV X.K cm) (t1 := u) (t2 := fun y σ H2 Q => ∃ a' p, ∃ ys : List Str, V.str a = .str a' ∧ [y] = [V.ref p] ∧ (SqL X.K H2 p (ys.map V.str) ∨ SqT X.K H2 p (ys.map V.str)) ∧
      (ys.map (·.length)).sum + ys.length * a'.length ≤ 16777216 ∧ Q (V.str (Txt.join a' ys)) H2) stable_true j2 (fun o y => ?_) G F H σ ρ r ρ' er trivial hf Q hQ
    refine jd_fin fun G F H σ ρ r ρ' er hp hf => ?_
    obtain ⟨_, ho⟩ := hp
    have hf : ((res ρ o).bind fun d => (joinG (.str a) d).bind fun z => some (R.ok z, ρ)) = some (r, ρ') := hf
    cases e1 : res ρ o with
    | none => rw [e1] at hf; cases hf
    | some d =>
      rw [e1] at hf
      have hf : ((joinG (.str a) d).bind fun z => some (R.ok z, ρ)) = some (r, ρ') := hf
      cases e2 : joinG (.str a) d with
      | none => rw [e2] at hf; cases hf
      | some z =>
        rw [e2] at hf; cases hf
        have e2 : ((seqOf d).bind fun ds => (strsOf ds).bind fun ys => if (ys.map (·.length)).sum + ys.length * a.length ≤ 16777216 then some (D.str (Txt.join a ys)) else none) = some z := e2
        cases e3 : seqOf d with
        | none => rw [e3] at e2; cases e2
        | some ds =>
          rw [e3] at e2
          have e2 : ((strsOf ds).bind fun ys => if (ys.map (·.length)).sum + ys.length * a.length ≤ 16777216 then some (D.str (Txt.join a ys)) else none) = some z := e2
          cases e4 : strsOf ds with
          | none => rw [e4] at e2; cases e2
          | some ys =>
            rw [e4] at e2
            have e2 : (if (ys.map (·.length)).sum + ys.length * a.length ≤ 16777216 then some (D.str (Txt.join a ys)) else none) = some z := e2
            by_cases c : (ys.map (·.length)).sum + ys.length * a.length ≤ 16777216
            · rw [if_pos c] at e2; cases e2
              obtain ⟨b, xs, rfl, h1, r⟩ := (rO_res ho (Ext.refl F) er e1).seq er.sub e3
              rw [strsOf_rps r e4] at h1
              exact ⟨_, rfl, rfl, fun Q k => ⟨a, b, ys, rfl, rfl, h1, c, k F H _ (Grow.refl er.sub) (.str _)⟩⟩
            · rw [if_neg c] at e2; cases e2
  | _ => cases hf
end
end Pd

/-! Pd10: is of bools, in among nested data, list(range(..)), defs with a star. -/
namespace Pd
open PySem PySem.Spec L2
open PyProof.Rows (envOfC)

section
variable {K : PySem.W.Frag} {cm : Str → Option Addr}
def isBG : D → D → Option D
  | .bl a, .bl b => some (.bl (decide (a = b)))
  | _, _ => none
theorem od_isB : OpD K cm rIsB isBG := by
  intro F H x y dx dy d s hx hy hg Q k
  cases dx with
  | bl i => cases dy with
    | bl j => cases hg; exact ⟨i, j, hx.bl, hy.bl, k F H _ (Grow.refl s) (.bl _)⟩
    | _ => cases hg
  | _ => cases dy <;> cases hg
/-- x in a list of nested data -/
def inDB (x y : D) : Option Bool := match lisOf y with
  | none => none
  | some l => (toPy x).bind fun p => (toPys l).bind fun ps => if SeqAt.shaped p = true ∧ SeqAt.shaped (.list ps) = true then some (ps.any fun z => PyData.eqv z p) else none
def inDG (x y : D) : Option D := (inDB x y).map .bl
def notInDG (x y : D) : Option D := (inDB x y).map fun k => .bl (!k)
theorem inDB_case {F H : Hp} {x y : V} {dx dy : D} {b : Bool} (s : Same F H) (hx : Rv K cm F H dx x) (hy : Rv K cm F H dy y) (h : inDB dx dy = some b) :
    ∃ d ds, Dp K H x d ∧ Dp K H y (.list ds) ∧ SeqAt.shaped d = true ∧ SeqAt.shaped (.list ds) = true ∧ b = ds.any fun z => PyData.eqv z d := by
  unfold inDB at h
  cases q : lisOf dy with
  | none => rw [q] at h; cases h
  | some l =>
    rw [q] at h
    have h : ((toPy dx).bind fun p => (toPys l).bind fun ps => if SeqAt.shaped p = true ∧ SeqAt.shaped (.list ps) = true then some (ps.any fun z => PyData.eqv z p) else none) = some b := h
    cases q1 : toPy dx with
    | none => rw [q1] at h; cases h
    | some p =>
      rw [q1] at h
      have h : ((toPys l).bind fun ps => if SeqAt.shaped p = true ∧ SeqAt.shaped (.list ps) = true then some (ps.any fun z => PyData.eqv z p) else none) = some b := h
      cases q2 : toPys l with
      | none => rw [q2] at h; cases h
      | some ps =>
        rw [q2] at h
        have h : (if SeqAt.shaped p = true ∧ SeqAt.shaped (.list ps) = true then some (ps.any fun z => PyData.eqv z p) else none) = some b := h
        by_cases c : SeqAt.shaped p = true ∧ SeqAt.shaped (.list ps) = true
        · rw [if_pos c] at h; cases h
          refine ⟨p, ps, hx.dp s q1, hy.dp s ?_, c.1, c.2, rfl⟩
          cases dy with
          | lst es => cases q; show (toPys l).map PyData.list = _; rw [q2]; rfl
          | frl es => cases q; show (toPys l).map PyData.list = _; rw [q2]; rfl
          | _ => cases q
        · rw [if_neg c] at h; cases h
theorem od_inD : OpD K cm (L2.rInD K) inDG := by
  intro F H x y dx dy d s hx hy hg Q k
  unfold inDG at hg
  cases e : inDB dx dy with
  | none => rw [e] at hg; cases hg
  | some b =>
    rw [e] at hg; cases hg
    have k' := k F H _ (Grow.refl s) (.bl b)
    obtain ⟨p, ps, h1, h2, h3, h4, rfl⟩ := inDB_case s hx hy e
    exact ⟨p, ps, h1, h2, h3, h4, k'⟩
theorem od_notInD : OpD K cm (L2.rNotInD K) notInDG := by
  intro F H x y dx dy d s hx hy hg Q k
  unfold notInDG at hg
  cases e : inDB dx dy with
  | none => rw [e] at hg; cases hg
  | some b =>
    rw [e] at hg; cases hg
    have k' := k F H _ (Grow.refl s) (.bl (!b))
    obtain ⟨p, ps, h1, h2, h3, h4, rfl⟩ := inDB_case s hx hy e
    exact ⟨p, ps, h1, h2, h3, h4, k'⟩
end
theorem room65 {k : Nat} {A : Around} (r : Room k A) : A.units + 65 < cLine := by have := r.un; omega
/-! ### list(range(a, b)) -/
section
variable {X : Cx} {cm : Str → Option Addr} {W : WX} {pos p q pos2 : Pos} {a b e : Expr} {fa fb : M D} {es : List Expr}
def rangeL (fa fb : M D) : M D := M.bind fa fun x => M.bind fb fun y => match x, y with
  | .int i, .int j => if -(2 ^ 62) ≤ i ∧ i < 2 ^ 62 ∧ -(2 ^ 62) ≤ j ∧ j < 2 ^ 62 ∧ (j - i).toNat ≤ 2 ^ 24 then M.ret (.lst (rngI i (j - i).toNat)) else M.fail
  | _, _ => M.fail
theorem rngI_rps {K : PySem.W.Frag} {F : Hp} (i j : Int) : Rps K cm F (rngI i (j - i).toNat) (rgV i j) := by
  unfold rngI rgV
  generalize List.range (j - i).toNat = l
  induction l with
  | nil => exact .nil
  | cons x r ih => exact .cons (.int _) ih
theorem pf_listRange (hc : X.calm = true) (hg : Gl X "list") (hm : X.mg "list" = none) (hg2 : Gl X "range") (hm2 : X.mg "range" = none) (ha : PD X cm W a fa) (hb : PD X cm W b fb)
    (na : starEach [a, b] X.env = (false, eval a X.env) :: starEach [b] X.env := by rfl) (nb : starEach [b] X.env = (false, eval b X.env) :: starEach [] X.env := by rfl) (hp : (backTo pos2 (starEach [b] X.env)).any (·.1) = false := by rfl)
    (nl : starEach [.Call (.Name "range" q) [a, b] [] pos2] X.env = (false, eval (.Call (.Name "range" q) [a, b] [] pos2) X.env) :: starEach [] X.env := by rfl) :
    PF X cm W (.Call (.Name "list" p) [.Call (.Name "range" q) [a, b] [] pos2] [] pos) (rangeL fa fb) := by
  obtain ⟨ta, pa, ja⟩ := ha
  obtain ⟨tb, pb, jb⟩ := hb
  refine ⟨_, pe_listRg hc hg hm (prg_2 hg2 hm2 pa pb na nb hp) nl, ?_⟩
  unfold rangeL
  refine JdP.bindS (rel1 := rV X.K cm) (t1 := ta) (t2 := fun x σ H1 Q => tb σ H1 fun y H2 => ∃ i j, x = V.int i ∧ y = V.int j ∧ (RgOk i j ∧ ∀ q, H2 q = none → Q (V.ref q) (upd H2 q (.lst (rgV i j))))) stable_true ja fun dx x => ?_
  refine JdP.bindS (rel1 := rV X.K cm) (t1 := tb) (t2 := fun y σ H2 Q => ∃ i j, x = V.int i ∧ y = V.int j ∧ (RgOk i j ∧ ∀ q, H2 q = none → Q (V.ref q) (upd H2 q (.lst (rgV i j))))) (stable_and stable_true stable_rV) (jb.weak fun _ _ _ _ _ _ => trivial) fun dy y => ?_
  refine jd_finF fun G F H σ ρ r ρ' er hp hf => ?_
  obtain ⟨⟨_, hx⟩, hy⟩ := hp
  have hx : Rp X.K cm F dx x := hx
  have hy : Rp X.K cm F dy y := hy
  match dx, dy, hx, hy, hf with
  | .int i, .int j, .int _, .int _, hf =>
    have hf : (if -(2 ^ 62) ≤ i ∧ i < 2 ^ 62 ∧ -(2 ^ 62) ≤ j ∧ j < 2 ^ 62 ∧ (j - i).toNat ≤ 2 ^ 24 then M.ret (D.lst (rngI i (j - i).toNat)) else M.fail) ρ = some (r, ρ') := hf
    by_cases c : -(2 ^ 62) ≤ i ∧ i < 2 ^ 62 ∧ -(2 ^ 62) ≤ j ∧ j < 2 ^ 62 ∧ (j - i).toNat ≤ 2 ^ 24
    · rw [if_pos c] at hf; cases hf
      exact ⟨_, rfl, rfl, fun Q k => ⟨i, j, rfl, rfl, c, fun q hq => k _ _ _ (Grow.newH er.sub hq) hq (er.sub.free hq) ⟨_, upd_same, rngI_rps i j⟩⟩⟩
    · rw [if_neg c] at hf; cases hf
end
end Pd

/-! Pd11: one promise for all defs; defs with a star. -/
namespace Pd
open PySem PySem.Spec L2
open PyProof.Rows (envOfC)

def spA (K : PySem.W.Frag) (cm : Str → Option Addr) (m : FD) : Sp := fun vs H Q E => spD K cm vs.length m vs H Q E
structure Good (m : FD) : Prop where
  tame : Tame m
theorem fnD_good (np n : Nat) (g : SM) : Good (fnD np n g) := ⟨fnD_tame np n g⟩
abbrev Okf (P : Program) (w : World) (K : PySem.W.Frag) (mg : Str → Option Value) (base : Heap) (cm : Str → Option Addr) (k : Nat) (f : Addr) (m : FD) : Prop := FnR P w K mg base (L2.CX P w) k f (spA K cm m)
section
variable {P : Program} {w : World} {K : PySem.W.Frag} {mg : Str → Option Value} {base : Heap} {cm : Str → Option Addr}
theorem okf_of {f : Addr} {fd : FuncData} {ps : List Str} {k n : Nat} {g : SM} (F : FnOk P w K mg base (L2.CX P w) k f fd ps (spD K cm ps.length (fnD ps.length n g))) (hb : Binds K fd ps []) : Okf P w K mg base cm k f (fnD ps.length n g) := by
  refine (F.raw hb .nil).imp fun vs H Q E h => ?_
  obtain ⟨F0, ss, ss', r, pa, _, er, hm, hp⟩ := h
  have hl := fnD_len hm
  have h2 := er.len
  rw [List.length_map] at h2
  rw [List.append_nil]
  exact ⟨F0, ss, ss', r, pa, by rw [← h2]; exact hl, er, hm, hp⟩
theorem Okf.mono {j k : Nat} {f : Addr} {m : FD} (F : Okf P w K mg base cm j f m) (h : j ≤ k) : Okf P w K mg base cm k f m := FnR.mono F h
end
section
variable {X : Cx} {cm : Str → Option Addr} {W : WX} {pos p : Pos} {e : Expr} {es : List Expr} {fs : M (List Op)} {k : Nat} {f : Addr} {m : FD} {x : Str}
theorem run_fnRS {CX : CXT} {sp : Sp} {E : XK} {pins : List (Addr × Obj)} {s : Shared} {σ : St} {H : Hp} {Q : VK} {us : List Value} {vs : List V} (F : FnR X.prog X.w X.K X.mg X.base CX k f sp) (hr : Room k X.A) (hx : PassesAt CX X σ E) (I : Inv X pins σ H s) (r : Vals vs us) (h : sp vs H Q E) :
    wpAny (model X.prog X.w) X.A (call (.ref f) us) (EP X pins σ Q) X.xe s := by
  refine wpAny_call (codeAny_mono (F X.A X.stack s H us vs Q E hr I.env0 r h) fun r s' hq => ?_)
  cases r with
  | error e => exact hx pins H s e s' I hq
  | ok fl =>
    cases fl with
    | ret u => exact I.after hq
    | next => exact False.elim hq
    | brk => exact False.elim hq
    | cont => exact False.elim hq
theorem pe_callRS {CX : CXT} {sp : Sp} {E : St → XK} {t : TA} (F : FnR X.prog X.w X.K X.mg X.base CX k f sp) (hr : Room k X.A) (hg : Gl X x) (hm : X.mg x = some (.ref f)) (hk : PySem.W.keepIn X.K (.ref f) = true) (hx : ∀ σ, PassesAt CX X σ (E σ))
    (ha : PA X (e :: es) t) (hdb : (x == ("__debug__" : Str)) = false := by decide) (he : starEach (e :: es) X.env = (false, eval e X.env) :: starEach es X.env := by rfl) (hpl : (backTo pos (starEach es X.env)).any (·.1) = false := by rfl) :
    PE X (.Call (.Name x p) (e :: es) [] pos) (tCallS sp E t) := by
  refine ⟨fun pins s σ H Q I h => ?_⟩
  refine wpAny_Call_Name_kw (ld_glob I hg hm ?_ hdb)
  refine PySem.W.callWith_K (h₀ := X.base) I.ok.mod.kin hk (thn (ha.run pos pins s σ H _ I h) fun us s1 ⟨vs, H1, I1, r, q⟩ => ⟨I1.kIn, ?_⟩) he hpl
  exact run_fnRS F hr (hx σ) I1 r q
/-- a call of a def -/
theorem psl_callR (F : Okf X.prog X.w X.K X.mg X.base cm k f m) (hm : Good m) (tk : Takes X W) (hr : Room k X.A) (hg : Gl X x) (hmg : X.mg x = some (.ref f)) (hk : PySem.W.keepIn X.K (.ref f) = true)
    (ha : PAs X cm W (e :: es) fs) (hdb : (x == ("__debug__" : Str)) = false := by decide) (he : starEach (e :: es) X.env = (false, eval e X.env) :: starEach es X.env := by rfl) (hpl : (backTo pos (starEach es X.env)).any (·.1) = false := by rfl) :
    PSl X cm W (.Call (.Name x p) (e :: es) [] pos) (callS m fs) := by
  obtain ⟨t, pa, j⟩ := ha
  refine ⟨_, pe_callRS F hr hg hmg hk (fun σ => passAt tk σ) pa hdb he hpl, ?_⟩
  unfold callS
  refine JdP.bindS (rel1 := rOs X.K cm) (t1 := t) (t2 := fun vs σ H Q => spA X.K cm m vs H Q (WE W σ)) stable_true j fun os vs => ?_
  intro G F0 H σ ρ r ρ' er hp hf Q hQ
  have hv : Paired (rO X.K cm G F0 H σ ρ) os vs := hp.2
  by_cases c : ∃ ss p, argS ρ os = some ss ∧ m ss = some p
  · obtain ⟨ss, pr, qa, qm⟩ := c
    have hl : ss.length = vs.length := by rw [(argS_at qa).1]; exact paired_len hv
    -- the same run, of a def that takes so many
    let m' : FD := fun s => if s.length = vs.length then m s else none
    have hm' : Tame m' := fun s r s' h => by
      by_cases c : s.length = vs.length
      · exact hm.tame s r s' (by rw [← h]; exact (if_pos c).symm)
      · rw [show m' s = none from if_neg c] at h; cases h
    have hf' : callR m' os ρ = some (r, ρ') := by
      rw [← hf]
      show (callM m' os ρ).bind _ = (callM m os ρ).bind _
      have : callM m' os ρ = callM m os ρ := by
        unfold callM
        rw [qa]
        show (if (slotsOf os).Nodup then (m' ss).bind _ else none) = (if (slotsOf os).Nodup then (m ss).bind _ else none)
        rw [show m' ss = m ss from if_pos hl]
      rw [this]
    have z := jd_sp (X := X) (cm := cm) (W := W) (np := vs.length) (vs := vs) hm' (fun s pp h => by
      by_cases c : s.length = vs.length
      · exact c
      · rw [show m' s = none from if_neg c] at h; cases h) G F0 H σ ρ r ρ' er hv hf' Q hQ
    obtain ⟨F1, s1, s2, r1, pa1, h1, h2, h3, h4⟩ := z
    refine ⟨F1, s1, s2, r1, pa1, h1, h2, ?_, h4⟩
    by_cases c : s1.length = vs.length
    · rw [← h3]; exact (if_pos c).symm
    · rw [show m' s1 = none from if_neg c] at h3; cases h3
  · exfalso
    have hf : (callM m os ρ).bind (fun p => (toR p.1).map fun r => (r, p.2)) = some (r, ρ') := hf
    have q : callM m os ρ = none := by
      unfold callM
      cases qa : argS ρ os with
      | none => rfl
      | some ss =>
        show (if (slotsOf os).Nodup then (m ss).bind _ else none) = none
        cases qm : m ss with
        | none => by_cases c : (slotsOf os).Nodup <;> simp [c]
        | some pr => exact absurd ⟨ss, pr, qa, qm⟩ c
    rw [q] at hf; cases hf
end
/-! ### def f(a, .., *v) -/
def valsOf : List Sl → Option (List D)
  | [] => some []
  | .val d :: ss => (valsOf ss).map fun ds => d :: ds
  | _ => none
def starD (j : Nat) (m : FD) : FD := fun ss => (valsOf ss).bind fun ds => if j ≤ ds.length ∧ ds.length ≤ sizeLine then (m ((ds.take j).map .val ++ [.val (.tup (ds.drop j))])).bind fun p => some (p.1, ss) else none
theorem valsOf_at : ∀ {ss : List Sl} {ds : List D}, valsOf ss = some ds → ss = ds.map .val
  | [], ds, h => by cases h; rfl
  | .val d :: ss, ds, h => by
    have h : (valsOf ss).map (fun ds => d :: ds) = some ds := h
    cases q : valsOf ss with
    | none => rw [q] at h; cases h
    | some es => rw [q] at h; cases h; rw [valsOf_at q]; rfl
theorem starD_good {j : Nat} {m : FD} : Good (starD j m) := ⟨fun ss r ss' h => by
  have h : ((valsOf ss).bind fun ds => if j ≤ ds.length ∧ ds.length ≤ sizeLine then (m ((ds.take j).map .val ++ [.val (.tup (ds.drop j))])).bind fun p => some (p.1, ss) else none) = some (r, ss') := h
  cases q : valsOf ss with
  | none => rw [q] at h; cases h
  | some ds =>
    rw [q] at h
    have h : (if j ≤ ds.length ∧ ds.length ≤ sizeLine then (m ((ds.take j).map .val ++ [.val (.tup (ds.drop j))])).bind fun p => some (p.1, ss) else none) = some (r, ss') := h
    by_cases c : j ≤ ds.length ∧ ds.length ≤ sizeLine
    · rw [if_pos c] at h
      cases q2 : m ((ds.take j).map .val ++ [.val (.tup (ds.drop j))]) with
      | none => rw [q2] at h; cases h
      | some p =>
        rw [q2] at h; cases h
        refine ⟨rfl, fun k s e => .inl ?_⟩
        have := valsOf_at q
        rw [this, List.getElem?_map] at e
        cases q3 : ds[k]? with
        | none => rw [q3] at e; cases e
        | some d => rw [q3] at e; cases e; exact ⟨d, rfl, by rw [this, List.getElem?_map, q3]; rfl⟩
    · rw [if_neg c] at h; cases h⟩
section
variable {P : Program} {w : World} {K : PySem.W.Frag} {mg : Str → Option Value} {base : Heap} {cm : Str → Option Addr}
theorem er_vals {vs : List V} {ds : List D} {pa : Addr → Prop} {F H F' H' : Hp} (er : ER K cm (entry vs pa F H) F' H' (vs.map some) (ds.map .val)) : Rps K cm F' ds vs := by
  have hl := er.len
  rw [List.length_map, List.length_map] at hl
  have at_ : ∀ k d, ds[k]? = some d → ∃ v, vs[k]? = some v ∧ Rp K cm F' d v := fun k d e => by
    obtain ⟨v, h1, r⟩ := er.slot k (.val d) (by rw [List.getElem?_map, e]; rfl)
    rw [List.getElem?_map] at h1
    cases q : vs[k]? with
    | none => rw [q] at h1; cases h1
    | some u => rw [q] at h1; cases h1; first | exact ⟨_, rfl, r⟩ | exact ⟨_, q, r⟩
  clear er
  induction ds generalizing vs with
  | nil => cases vs with
    | nil => exact .nil
    | cons _ _ => cases hl
  | cons d ds ih => cases vs with
    | nil => cases hl
    | cons v vs =>
      obtain ⟨u, h1, r⟩ := at_ 0 d rfl
      cases h1
      exact .cons r (ih (by simpa using hl) fun k d e => by simpa using at_ (k + 1) d (by simpa using e))
theorem rps_at {F : Hp} : ∀ {ds : List D} {vs : List V} {k : Nat} {d : D}, Rps K cm F ds vs → ds[k]? = some d → ∃ v, vs[k]? = some v ∧ Rp K cm F d v := fun r h => r.getD h
theorem vals_er {vs : List V} {ds : List D} {pa : Addr → Prop} {F H F' H' : Hp} (r : Rps K cm F' ds vs) (sub : Same F' H') (f0 : Ext F F') (h0 : ∀ b o, H b = some o → ¬ pa b → H' b = some o) (live : ∀ b, H b ≠ none → H' b ≠ none) (nf : ∀ b, H b ≠ none → F b = none → F' b = none) (tp : TF F' H') :
    ER K cm (entry vs pa F H) F' H' (vs.map some) (ds.map .val) where
  sub := sub
  f0 := f0
  h0 := fun b o h n _ => h0 b o h n
  live := live
  nf := fun b h n _ => nf b h n
  slot := fun i s e => by
    rw [List.getElem?_map] at e
    cases q : ds[i]? with
    | none => rw [q] at e; cases e
    | some d =>
      rw [q] at e; cases e
      obtain ⟨v, h1, rv⟩ := r.getD q
      exact ⟨v, by rw [List.getElem?_map, h1]; rfl, rv⟩
  inj := fun i j s t e _ os _ _ => by
    rw [List.getElem?_map] at e
    cases q : ds[i]? with
    | none => rw [q] at e; cases e
    | some d => rw [q] at e; cases e; cases os
  len := by rw [List.length_map, List.length_map]; exact r.length
  tp := tp
theorem live_up {F H : Hp} {p b : Addr} {o : HO} (gr : Grow F H (upd F p o) (upd H p o)) (h : H b ≠ none) : upd H p o b ≠ none := fun e => by
  cases z : H b with
  | none => exact h z
  | some q => rw [gr.h b q z] at e; cases e
theorem okf_star {x qual pv : Str} {st : Stmt} {f : Addr} {fd : FuncData} {N ps : List Str} {k : Nat} {g : SM} (F : Fun K x qual st f fd) (S : FnScope N (ps ++ [pv]) (defScope st))
    (hbd : ∀ (kV doc pm : Value) (an : Option Addr) (cdv ct : Value) (us rest : List Value), us.length = ps.length → bindArgs (PySem.W.fnOf x qual (defArgs st) (defBody st) (defScope st) .none kV doc pm an cdv ct) ⟨us ++ rest, []⟩ = (newTuple rest >>= fun t => pure (ps.zip us ++ [(pv, t)])))
    (hb : ∀ (cdv : Value) (A : Around) (outer : List PySem.Env) (s : Shared) (H : Hp) (E : XK), Room k (A.deeper (envOfC qual (defScope st) s.heap.objs.size f cdv)) →
      PSsd (cxOf (L2.CX P w) P w K mg base N qual (defScope st) f cdv A outer s H E) cm (fun cls d _ H => E cls d H) (defBody st) g) :
    Okf P w K mg base cm (k + 1) f (starD ps.length (fnD (ps.length + 1) N.length g)) := by
  obtain ⟨oc, od, kV, doc, pm, an, cdv, ct, osl, rfl, lk, hcd⟩ := F.ex
  have G := ok_def (P := P) (w := w) (mg := mg) (base := base) (cm := cm) F S hb
  have base1 := StX.fn_star (P := P) (w := w) (mg := mg) (base := base) (k := k) (pv := pv) (ps := ps) (sp := spD K cm (ps ++ [pv]).length (fnD (ps ++ [pv]).length N.length g)) (CX := L2.CX P w) lk hcd S StX.cxUp (fun us rest hl => hbd kV doc pm an cdv ct us rest hl) (fun A outer s H vs Q E hr h => by
    obtain ⟨F0, ss, ss', r, pa, hl, er, hm, hp⟩ := h
    obtain ⟨t, p, j⟩ := hb cdv A outer s H E hr
    refine ⟨t, p, ?_⟩
    have hm2 := hm
    unfold fnD at hm
    rw [if_pos (fnD_len hm2)] at hm
    cases q : g (ss ++ List.replicate (N.length - ss.length) .no) with
    | none => rw [q] at hm; cases hm
    | some pr =>
      obtain ⟨r1, ρ1⟩ := pr
      rw [q] at hm
      refine j (entry vs pa F0 H) F0 H (start N vs) _ r1 ρ1 er.enter q _ fun F' H' σ' er' x' => ?_
      cases r1 with
      | nx =>
        have hm : (backA ss ρ1).map (fun t => (SR.ret (.val .non), t)) = some (r, ss') := hm
        cases qb : backA ss ρ1 with
        | none => rw [qb] at hm; cases hm
        | some t => rw [qb] at hm; cases hm; exact hp F' H' (er.leave er' qb) .non .non
      | ret s =>
        have hm : (backA ss ρ1).map (fun t => (SR.ret s, t)) = some (r, ss') := hm
        cases qb : backA ss ρ1 with
        | none => rw [qb] at hm; cases hm
        | some t =>
          rw [qb] at hm; cases hm
          have hz := hp F' H' (er.leave er' qb)
          cases s with
          | no => exact hz
          | par d => exact hz
          | val d => exact hz
          | own d =>
            refine fun a ha => hz a ⟨ha.1, ha.2.1, fun i s e os z => ?_⟩
            obtain ⟨_, hat⟩ := backA_at qb
            rcases hat i s e with ⟨d, rfl, _⟩ | ⟨d, rfl, e1⟩
            · cases os
            · obtain ⟨b, h1, q, _⟩ := er'.slot i _ e1
              have q1 : vs[i]? = some (.ref b) := q.1
              rw [List.getElem?_map, q1] at z
              have : b = a := V.ref.inj (Option.some.inj (Option.some.inj z))
              subst this
              exact ha.2.2 i _ e1 rfl h1
      | exc x =>
        have hm : (backA ss ρ1).map (fun t => (SR.exc x, t)) = some (r, ss') := hm
        cases qb : backA ss ρ1 with
        | none => rw [qb] at hm; cases hm
        | some t => rw [qb] at hm; cases hm; exact hp F' H' (er.leave er' qb)
      | brk => cases hm
      | cnt => cases hm)
  refine FnR.imp base1 fun vs H Q E h => ?_
  obtain ⟨F0, ss, ss', r, pa, hl, er, hm, hp⟩ := h
  have hm : ((valsOf ss).bind fun ds => if ps.length ≤ ds.length ∧ ds.length ≤ sizeLine then (fnD (ps.length + 1) N.length g ((ds.take ps.length).map .val ++ [.val (.tup (ds.drop ps.length))])).bind fun p => some (p.1, ss) else none) = some (r, ss') := hm
  cases q : valsOf ss with
  | none => rw [q] at hm; cases hm
  | some ds =>
    rw [q] at hm
    have hm : (if ps.length ≤ ds.length ∧ ds.length ≤ sizeLine then (fnD (ps.length + 1) N.length g ((ds.take ps.length).map .val ++ [.val (.tup (ds.drop ps.length))])).bind fun p => some (p.1, ss) else none) = some (r, ss') := hm
    by_cases c : ps.length ≤ ds.length ∧ ds.length ≤ sizeLine
    · rw [if_pos c] at hm
      cases q2 : fnD (ps.length + 1) N.length g ((ds.take ps.length).map .val ++ [.val (.tup (ds.drop ps.length))]) with
      | none => rw [q2] at hm; cases hm
      | some pr =>
        obtain ⟨r2, s2⟩ := pr
        rw [q2] at hm; cases hm
        have es := valsOf_at q
        rw [es] at er hp
        have rr := er_vals er
        have hlen := rr.length
        refine ⟨vs.take ps.length, vs.drop ps.length, (List.take_append_drop _ _).symm, by rw [List.length_take]; omega, by rw [List.length_drop]; omega, fun p hp0 => ?_⟩
        have hfp : F0 p = none := er.sub.free hp0
        have gr := Grow.new (o := .tup (vs.drop ps.length)) er.sub hp0
        have r2s : Rps K cm (upd F0 p (HO.tup (vs.drop ps.length))) (ds.take ps.length ++ [.tup (ds.drop ps.length)]) (vs.take ps.length ++ [V.ref p]) :=
          ((rr.take _).ext (Ext.of gr.f)).append (.cons (.tup upd_same ((rr.drop _).ext (Ext.of gr.f))) .nil)
        have q3 : fnD (ps ++ [pv]).length N.length g ((ds.take ps.length ++ [D.tup (ds.drop ps.length)]).map Sl.val) = some (r2, s2) := by
          rw [List.map_append, List.length_append]; exact q2
        refine ⟨upd F0 p (.tup (vs.drop ps.length)), (ds.take ps.length ++ [D.tup (ds.drop ps.length)]).map Sl.val, s2, r2, fun _ => False, by rw [List.length_append, List.length_append, List.length_take]; simp; omega,
          vals_er r2s gr.sub (Ext.refl _) (fun _ _ h _ => h) (fun _ h => h) (fun _ _ h => h) (gr.tp er.tp), q3, fun F' H' er' => ?_⟩
        have hz := hp F' H' (vals_er (rr.ext ((Ext.of gr.f).trans er'.f0)) er'.sub ((Ext.of gr.f).trans er'.f0) (fun b o h _ => er'.h0 b o (gr.h b o h) (fun z => z) (fun z => z)) (fun b h => er'.live b (live_up gr h)) (fun b h n => er'.nf b (live_up gr h) (gr.nf b h n) (fun z => z)) er'.tp)
        cases r2 with
        | nx => exact hz
        | brk => exact hz
        | cnt => exact hz
        | exc x => exact hz
        | ret s =>
          cases s with
          | no => exact hz
          | par d => exact hz
          | val d => exact hz
          | own d =>
            refine fun a ha => hz a ⟨.inl ?_, ha.2.1, fun i s e os z => ?_⟩
            · have h1 : upd H p (HO.tup (vs.drop ps.length)) a = none := ha.1.resolve_right (fun z => z)
              show H a = none
              cases z : H a with
              | none => rfl
              | some o => rw [gr.h a o z] at h1; cases h1
            · rw [List.getElem?_map] at e
              cases q4 : ds[i]? with
              | none => rw [q4] at e; cases e
              | some d => rw [q4] at e; cases e; cases os
    · rw [if_neg c] at hm; cases hm
end
end Pd

/-! Pd12: the law's own promise. -/
namespace Pd
open PySem PySem.Spec L2
open PyProof.Rows (envOfC)
def muI (i : Nat) : Env → Nat := fun ρ => match ρ[i]? with
  | some (.val (.int k)) => k.toNat + 2
  | _ => 0
def spLaw (K : PySem.W.Frag) : Sp := fun vs H Q _ => ∃ (a : Addr) (ns : List Int), vs = [.ref a] ∧ ns.length ≤ 63 ∧ SqL K H a (ns.map V.int) ∧ ∀ H', Q (.bl true) H'
theorem ints_rps {K : PySem.W.Frag} {cm : Str → Option Addr} {H : Hp} : ∀ ns : List Int, Rps K cm H (ns.map .int) (ns.map V.int)
  | [] => .nil
  | n :: ns => .cons (.int n) (ints_rps ns)
section
variable {P : Program} {w : World} {K : PySem.W.Frag} {mg : Str → Option Value} {base : Heap} {cm : Str → Option Addr}
theorem law_end {k : Nat} {f : Addr} {fd : FuncData} {ps : List Str} {m : FD} (F : FnOk P w K mg base (L2.CX P w) k f fd ps (spD K cm 1 m)) (hm : ∀ ns : List Int, ns.length ≤ 63 → ∃ ss', m [.val (.frl (ns.map .int))] = some (.ret (.val (.bl true)), ss')) :
    FnOk P w K mg base (L2.CX P w) k f fd ps (spLaw K) := by
  refine F.imp fun vs H Q E h => ?_
  obtain ⟨a, ns, rfl, hl, hS, q⟩ := h
  obtain ⟨ss', e⟩ := hm ns hl
  refine ⟨H, [.val (.frl (ns.map .int))], ss', _, fun _ => False, rfl, ?_, e, fun F' H' er' v hv => ?_⟩
  · have r : Rps K cm H [.frl (ns.map .int)] [.ref a] := .cons (.frl hS (ints_rps ns)) .nil
    exact vals_er r (Same.refl H) (Ext.refl H) (fun _ _ h _ => h) (fun _ h => h) (fun _ _ h => h) (fun _ _ h => h)
  · cases hv; exact q H'
theorem cx_never {H : Hp} {s : Shared} {e : Value} {s' : Shared} (h : L2.CX P w [] H s (fun _ _ _ => False) e s') : False := by
  unfold L2.CX at h
  obtain ⟨_, _, _, _, _, _, _, _, _, _, _, _, z⟩ := h
  exact z
end
end Pd

/-! Pd13: reckoning with the shallow terms. -/
namespace Pd
open PySem PySem.Spec L2
section
variable {α β : Type} {ρ ρ1 ρ2 ρ3 : Env}
theorem bind_ev {m : M α} {k : α → M β} {a : α} (h : m ρ = some (.ok a, ρ1)) : M.bind m k ρ = k a ρ1 := by unfold M.bind; rw [h]
theorem exps_ev {m : M α} {k : α → SM} {a : α} (h : m ρ = some (.ok a, ρ1)) : exps m k ρ = k a ρ1 := by unfold exps; rw [h]
theorem seqS_nx {g h : SM} (e : g ρ = some (.nx, ρ1)) : seqS g h ρ = h ρ1 := by unfold seqS; rw [e]
theorem seqS_ret {g h : SM} {s : Sl} (e : g ρ = some (.ret s, ρ1)) : seqS g h ρ = some (.ret s, ρ1) := by unfold seqS; rw [e]
theorem fnD_ret {np n : Nat} {g : SM} {ss ss' : List Sl} {s : Sl} (hl : ss.length = np) (h : g (ss ++ List.replicate (n - ss.length) .no) = some (.ret s, ρ)) (hb : backA ss ρ = some ss') : fnD np n g ss = some (.ret s, ss') := by
  unfold fnD; rw [if_pos hl, h]; simp only []; rw [hb]; rfl
theorem fnD_nx {np n : Nat} {g : SM} {ss ss' : List Sl} (hl : ss.length = np) (h : g (ss ++ List.replicate (n - ss.length) .no) = some (.nx, ρ)) (hb : backA ss ρ = some ss') : fnD np n g ss = some (.ret (.val .non), ss') := by
  unfold fnD; rw [if_pos hl, h]; simp only []; rw [hb]; rfl
theorem loopW_step {c : M Bool} {b : SM} {n : Nat} (hc : c ρ = some (.ok true, ρ1)) (hb : b ρ1 = some (.nx, ρ2)) : loopW c b (n + 1) ρ = loopW c b n ρ2 := by
  unfold loopW; rw [hc]; simp only []; rw [hb]; cases n <;> rfl
theorem loopW_end {c : M Bool} {b : SM} {n : Nat} (hc : c ρ = some (.ok false, ρ1)) : loopW c b (n + 1) ρ = some (.nx, ρ1) := by
  unfold loopW; rw [hc]
theorem loopF_nx {gs : GS} {b : SM} {d : D} {ds : List D} (hg : gs d ρ = some ρ1) (hb : b ρ1 = some (.nx, ρ2)) : loopF gs b (d :: ds) ρ = loopF gs b ds ρ2 := by
  show ((gs d ρ).bind fun ρ1 => match b ρ1 with
    | some (SR.nx, ρ2) => loopF gs b ds ρ2
    | some (SR.cnt, ρ2) => loopF gs b ds ρ2
    | some (SR.brk, ρ2) => some (SR.nx, ρ2)
    | x => x) = _
  rw [hg]
  show (match b ρ1 with
    | some (SR.nx, ρ2) => loopF gs b ds ρ2
    | some (SR.cnt, ρ2) => loopF gs b ds ρ2
    | some (SR.brk, ρ2) => some (SR.nx, ρ2)
    | x => x) = _
  rw [hb]
theorem loopF_ret {gs : GS} {b : SM} {d : D} {ds : List D} {s : Sl} (hg : gs d ρ = some ρ1) (hb : b ρ1 = some (.ret s, ρ2)) : loopF gs b (d :: ds) ρ = some (.ret s, ρ2) := by
  show ((gs d ρ).bind fun ρ1 => match b ρ1 with
    | some (SR.nx, ρ2) => loopF gs b ds ρ2
    | some (SR.cnt, ρ2) => loopF gs b ds ρ2
    | some (SR.brk, ρ2) => some (SR.nx, ρ2)
    | x => x) = _
  rw [hg]
  show (match b ρ1 with
    | some (SR.nx, ρ2) => loopF gs b ds ρ2
    | some (SR.cnt, ρ2) => loopF gs b ds ρ2
    | some (SR.brk, ρ2) => some (SR.nx, ρ2)
    | x => x) = _
  rw [hb]
/-- a loop whose body keeps I -/
theorem loopF_inv {gs : GS} {b : SM} (I : Env → Prop) : ∀ (ds : List D) (ρ : Env), I ρ → (∀ d ∈ ds, ∀ ρ, I ρ → ∃ ρ1 ρ2, gs d ρ = some ρ1 ∧ b ρ1 = some (.nx, ρ2) ∧ I ρ2) → ∃ ρ', loopF gs b ds ρ = some (.nx, ρ') ∧ I ρ'
  | [], ρ, hi, _ => ⟨ρ, rfl, hi⟩
  | d :: ds, ρ, hi, h => by
    obtain ⟨ρ1, ρ2, h1, h2, h3⟩ := h d (List.mem_cons_self ..) ρ hi
    obtain ⟨ρ', h4, h5⟩ := loopF_inv I ds ρ2 h3 fun d' m => h d' (List.mem_cons_of_mem _ m)
    exact ⟨ρ', by rw [loopF_nx h1 h2]; exact h4, h5⟩
/-- a comprehension that keeps I and gives what R says -/
theorem compF_rel {gs : GS} {ft : M Bool} {fe : M D} {vs : List Nat} (I : Nat → Env → Prop) (R : D → List D → Prop) : ∀ (ds acc : List D) (ρ : Env), I ds.length ρ → acc.length + ds.length ≤ sizeLine →
    (∀ d ∈ ds, ∀ n ρ, I (n + 1) ρ → ∃ ρ1, gs d (wipeE ρ vs) = some ρ1 ∧ ((∃ ρ2 x ρ3, ft ρ1 = some (.ok true, ρ2) ∧ fe ρ2 = some (.ok x, ρ3) ∧ R d [x] ∧ I n ρ3) ∨ (∃ ρ2, ft ρ1 = some (.ok false, ρ2) ∧ R d [] ∧ I n ρ2))) →
    ∃ xs ρ', compF gs ft fe vs ds acc ρ = some (.ok (acc ++ xs.flatten), ρ') ∧ Paired R ds xs ∧ I 0 ρ'
  | [], acc, ρ, hi, _, _ => ⟨[], ρ, by simp [compF, M.ret], .nil, hi⟩
  | d :: ds, acc, ρ, hi, hl, h => by
    obtain ⟨ρ1, h1, h2⟩ := h d (List.mem_cons_self ..) ds.length ρ hi
    have hl' : acc.length + (ds.length + 1) ≤ sizeLine := hl
    rcases h2 with ⟨ρ2, x, ρ3, h2, h3, h4, h5⟩ | ⟨ρ2, h2, h4, h5⟩
    · obtain ⟨xs, ρ', e1, e2, e3⟩ := compF_rel I R ds (acc ++ [x]) ρ3 h5 (by rw [List.length_append, List.length_singleton]; omega) fun d' m => h d' (List.mem_cons_of_mem _ m)
      refine ⟨[x] :: xs, ρ', ?_, .cons h4 e2, e3⟩
      unfold compF
      rw [h1]
      show (match ft ρ1 with
        | some (.ok true, ρ2) => match fe ρ2 with
          | some (.ok x, ρ3) => if acc.length < sizeLine then compF gs ft fe vs ds (acc ++ [x]) ρ3 else none
          | _ => none
        | some (.ok false, ρ2) => compF gs ft fe vs ds acc ρ2
        | _ => none) = _
      rw [h2]
      simp only []
      rw [h3]
      simp only []
      rw [if_pos (by omega), e1]
      simp
    · obtain ⟨xs, ρ', e1, e2, e3⟩ := compF_rel I R ds acc ρ2 h5 (by omega) fun d' m => h d' (List.mem_cons_of_mem _ m)
      refine ⟨[] :: xs, ρ', ?_, .cons h4 e2, e3⟩
      unfold compF
      rw [h1]
      show (match ft ρ1 with
        | some (.ok true, ρ2) => match fe ρ2 with
          | some (.ok x, ρ3) => if acc.length < sizeLine then compF gs ft fe vs ds (acc ++ [x]) ρ3 else none
          | _ => none
        | some (.ok false, ρ2) => compF gs ft fe vs ds acc ρ2
        | _ => none) = _
      rw [h2]
      simp only []
      rw [e1]
      simp
/-- a comprehension of pure steps: what p keeps, by h -/
theorem compF_pure {gs : GS} {ft : M Bool} {fe : M D} {vs : List Nat} (ρ0 : Env) (p : D → Bool) (h : D → D) : ∀ (ds acc : List D) (ρ : Env), wipeE ρ vs = ρ0 → acc.length + ds.length ≤ sizeLine →
    (∀ d ∈ ds, ∃ ρ1, gs d ρ0 = some ρ1 ∧ (∃ ρ2, ft ρ1 = some (.ok (p d), ρ2) ∧ (p d = true → ∃ ρ3, fe ρ2 = some (.ok (h d), ρ3) ∧ wipeE ρ3 vs = ρ0) ∧ (p d = false → wipeE ρ2 vs = ρ0))) →
    ∃ ρ', compF gs ft fe vs ds acc ρ = some (.ok (acc ++ (ds.filter p).map h), ρ') ∧ wipeE ρ' vs = ρ0 := by
  intro ds acc ρ hw hl hh
  obtain ⟨xs, ρ', e1, e2, e3⟩ := compF_rel (gs := gs) (ft := ft) (fe := fe) (vs := vs) (fun _ ρ => wipeE ρ vs = ρ0) (fun d x => x = if p d = true then [h d] else []) ds acc ρ hw hl fun d m _ ρ hi => by
    obtain ⟨ρ1, h1, ρ2, h2, h3, h4⟩ := hh d m
    refine ⟨ρ1, by rw [hi]; exact h1, ?_⟩
    by_cases c : p d = true
    · obtain ⟨ρ3, h5, h6⟩ := h3 c
      exact .inl ⟨ρ2, h d, ρ3, by rw [h2, c], h5, by rw [if_pos c], h6⟩
    · have c' : p d = false := by simpa using c
      exact .inr ⟨ρ2, by rw [h2, c'], by rw [if_neg c], h4 c'⟩
  refine ⟨ρ', ?_, e3⟩
  rw [e1]
  have : xs.flatten = (ds.filter p).map h := by
    clear e1 hl hh
    induction e2 with
    | nil => rfl
    | @cons d x ds xs h1 _ ih =>
      rw [List.flatten_cons, ih, h1, List.filter_cons]
      by_cases c : p d = true <;> simp [c]
  rw [this]
theorem compK_ev {gs : GS} {ft : M Bool} {fe : M D} {vs : List Nat} {ds xs : List D} (hv : valsAt ρ vs = true) (h : compF gs ft fe vs ds [] ρ = some (.ok xs, ρ1)) : compK gs ft fe vs ds ρ = some (.ok (.lst xs), restE ρ ρ1 vs) := by
  unfold compK; rw [if_pos hv, h]
theorem compD_ev {fi : M (List D)} {gs : GS} {ft : M Bool} {fe : M D} {vs : List Nat} {ds xs : List D} (hi : fi ρ = some (.ok ds, ρ1)) (hv : valsAt ρ1 vs = true) (h : compF gs ft fe vs ds [] ρ1 = some (.ok xs, ρ2)) : compD fi gs ft fe vs ρ = some (.ok (.lst xs), restE ρ1 ρ2 vs) := by
  unfold compD; rw [bind_ev hi, compK_ev hv h]
theorem restE_back {vs : List Nat} (h : wipeE ρ1 vs = wipeE ρ vs) : restE ρ ρ1 vs = ρ := by
  have hl : ρ1.length = ρ.length := by rw [← wipeE_length ρ1 vs, h, wipeE_length]
  refine List.ext_getElem? fun i => ?_
  by_cases c : i ∈ vs
  · cases q : (restE ρ ρ1 vs)[i]? with
    | none =>
      have := List.getElem?_eq_none_iff.mp q
      rw [restE_length, hl] at this
      rw [List.getElem?_eq_none_iff.mpr this]
    | some s =>
      have e := restE_in c q
      have : i < ρ.length := by
        have := (List.getElem?_eq_some_iff.mp q).1
        rw [restE_length, hl] at this; exact this
      rw [e, List.getElem?_eq_getElem this]; rfl
  · rw [restE_out c, ← wipeE_out (ρ := ρ1) c, h, wipeE_out c]
theorem compD_pure {fi : M (List D)} {gs : GS} {ft : M Bool} {fe : M D} {vs : List Nat} {ds : List D} (p : D → Bool) (h : D → D) (hi : fi ρ = some (.ok ds, ρ1)) (hv : valsAt ρ1 vs = true) (hl : ds.length ≤ sizeLine)
    (hh : ∀ d ∈ ds, ∃ ρ2, gs d (wipeE ρ1 vs) = some ρ2 ∧ (∃ ρ3, ft ρ2 = some (.ok (p d), ρ3) ∧ (p d = true → ∃ ρ4, fe ρ3 = some (.ok (h d), ρ4) ∧ wipeE ρ4 vs = wipeE ρ1 vs) ∧ (p d = false → wipeE ρ3 vs = wipeE ρ1 vs))) :
    compD fi gs ft fe vs ρ = some (.ok (.lst ((ds.filter p).map h)), ρ1) := by
  obtain ⟨ρ', e1, e2⟩ := compF_pure (wipeE ρ1 vs) p h ds [] ρ1 rfl (by simpa using hl) hh
  rw [List.nil_append] at e1
  rw [compD_ev hi hv e1, restE_back e2]
theorem blsOf_map {α : Type} {f : α → Bool} : ∀ ds : List α, blsOf (ds.map fun d => D.bl (f d)) = some (ds.map f)
  | [] => rfl
  | d :: ds => by
    show (blsOf (ds.map fun d => D.bl (f d))).map (fun bs => f d :: bs) = _
    rw [blsOf_map ds]; rfl
theorem mul_small {i j : Int} (hi : i.natAbs < 2 ^ 64) (hj : j.natAbs < 2 ^ 64) : mulG (.int i) (.int j) = some (.int (i * j)) := by
  have h : ∀ x : Int, x.natAbs < 2 ^ 64 → x.natAbs.log2 < 64 := fun x h => by
    by_cases z : x.natAbs = 0
    · rw [z]; decide
    · exact (Nat.log2_lt z).mpr h
  have h1 := h i hi
  have h2 := h j hj
  show (if i.natAbs.log2 + j.natAbs.log2 < 1000000 then some (D.int (i * j)) else none) = _
  rw [if_pos (by omega)]
theorem fdiv_small {i j : Int} (h0 : 0 < j) (h : j < 2 ^ 64) : fdivG (.int i) (.int j) = some (.int (i / j)) := by
  have h1 : j.natAbs < 2 ^ 64 := by omega
  have h2 : j.natAbs.log2 < 64 := (Nat.log2_lt (by omega)).mpr h1
  have h3 : j.natAbs.log2 < 9000 := by omega
  show (if (decide (0 < j) && decide (j.natAbs.log2 < 9000)) = true then some (D.int (i / j)) else none) = _
  rw [if_pos (by simp [h0, h3])]
theorem mod_pos {i j : Int} (h0 : 0 < j) : modG (.int i) (.int j) = some (.int (i % j)) := by
  show (if decide (0 < j) = true then some (D.int (i % j)) else none) = _
  rw [if_pos (by simp [h0])]
theorem rangeL_ev {fa fb : M D} {i j : Int} (ha : fa ρ = some (.ok (.int i), ρ1)) (hb : fb ρ1 = some (.ok (.int j), ρ2)) (h1 : -(2 ^ 62) ≤ i) (h2 : i < 2 ^ 62) (h3 : -(2 ^ 62) ≤ j) (h4 : j < 2 ^ 62) (h5 : (j - i).toNat ≤ 2 ^ 24) : rangeL fa fb ρ = some (.ok (.lst (rngI i (j - i).toNat)), ρ2) := by
  unfold rangeL
  rw [bind_ev ha, bind_ev hb]
  show (if -(2 ^ 62) ≤ i ∧ i < 2 ^ 62 ∧ -(2 ^ 62) ≤ j ∧ j < 2 ^ 62 ∧ (j - i).toNat ≤ 2 ^ 24 then M.ret (D.lst (rngI i (j - i).toNat)) else M.fail) ρ2 = _
  rw [if_pos ⟨h1, h2, h3, h4, h5⟩]; rfl
theorem lgb {j : Int} (h0 : 0 < j) (h : j < 2 ^ 64) : j.natAbs.log2 < 9000 := by
  have h1 : j.natAbs < 2 ^ 64 := by omega
  have h2 : j.natAbs.log2 < 64 := (Nat.log2_lt (by omega)).mpr h1
  omega
theorem kb_int_int : kitB "int" "int" = some true := by decide +kernel
theorem kb_int_bool : kitB "int" "bool" = some false := by decide +kernel
theorem kb_int_tuple : kitB "int" "tuple" = some false := by decide +kernel
theorem kb_int_str : kitB "int" "str" = some false := by decide +kernel
theorem kb_bool_int : kitB "bool" "int" = some true := by decide +kernel
theorem kb_bool_bool : kitB "bool" "bool" = some true := by decide +kernel
theorem kb_bool_tuple : kitB "bool" "tuple" = some false := by decide +kernel
theorem kb_bool_str : kitB "bool" "str" = some false := by decide +kernel
theorem kb_NoneType_int : kitB "NoneType" "int" = some false := by decide +kernel
theorem kb_NoneType_bool : kitB "NoneType" "bool" = some false := by decide +kernel
theorem kb_NoneType_tuple : kitB "NoneType" "tuple" = some false := by decide +kernel
theorem kb_NoneType_str : kitB "NoneType" "str" = some false := by decide +kernel
theorem kb_str_int : kitB "str" "int" = some false := by decide +kernel
theorem kb_str_bool : kitB "str" "bool" = some false := by decide +kernel
theorem kb_str_tuple : kitB "str" "tuple" = some false := by decide +kernel
theorem kb_str_str : kitB "str" "str" = some true := by decide +kernel
theorem kb_tuple_int : kitB "tuple" "int" = some false := by decide +kernel
theorem kb_tuple_bool : kitB "tuple" "bool" = some false := by decide +kernel
theorem kb_tuple_tuple : kitB "tuple" "tuple" = some true := by decide +kernel
theorem kb_tuple_str : kitB "tuple" "str" = some false := by decide +kernel
theorem kb_list_int : kitB "list" "int" = some false := by decide +kernel
theorem kb_list_bool : kitB "list" "bool" = some false := by decide +kernel
theorem kb_list_tuple : kitB "list" "tuple" = some false := by decide +kernel
theorem kb_list_str : kitB "list" "str" = some false := by decide +kernel
theorem kb_dict_int : kitB "dict" "int" = some false := by decide +kernel
theorem kb_dict_bool : kitB "dict" "bool" = some false := by decide +kernel
theorem kb_dict_tuple : kitB "dict" "tuple" = some false := by decide +kernel
theorem kb_dict_str : kitB "dict" "str" = some false := by decide +kernel
theorem gcd_step {l r : Int} (h1 : 0 ≤ l) (h2 : 0 ≤ r) : Int.gcd (r % l) l = Int.gcd l r := by
  obtain ⟨L, rfl⟩ := Int.eq_ofNat_of_zero_le h1
  obtain ⟨R, rfl⟩ := Int.eq_ofNat_of_zero_le h2
  show Nat.gcd (R % L) L = Nat.gcd L R
  exact (Nat.gcd_rec L R).symm
end
end Pd

/-! Pd14: instances: fields read and stored; an own class called. -/
namespace Pd
open PySem PySem.Spec L2
open PyProof.Rows (envOfC)
theorem lookup_rps {K : PySem.W.Frag} {cm : Str → Option Addr} {F : Hp} {f : Str} : ∀ {fs : List (Str × D)} {vs : List (Str × V)} {d : D}, vs.map (·.1) = fs.map (·.1) → Rps K cm F (fs.map (·.2)) (vs.map (·.2)) → fs.lookup f = some d → ∃ v, vs.lookup f = some v ∧ Rp K cm F d v
  | [], _, _, _, _, h => by cases h
  | (g, e) :: fs, [], _, hn, _, _ => by cases hn
  | (g, e) :: fs, (g2, u) :: vs, d, hn, r, h => by
    have hg : g2 = g := (List.cons.inj hn).1
    subst hg
    cases r with
    | cons r1 r2 =>
      by_cases c : (f == g2) = true
      · rw [List.lookup, c] at h ⊢; cases h; exact ⟨u, rfl, r1⟩
      · have c : (f == g2) = false := by simpa using c
        rw [List.lookup, c] at h ⊢
        exact lookup_rps (List.cons.inj hn).2 r2 h
theorem Rv.ins {K : PySem.W.Frag} {cm : Str → Option Addr} {F H : Hp} {c : Str} {fs : List (Str × D)} {v : V} (h : Rv K cm F H (.ins c fs) v) (s : Same F H) :
    ∃ a C dx vs, v = .ref a ∧ cm c = some C ∧ H a = some (.ins C dx vs) ∧ vs.map (·.1) = fs.map (·.1) ∧ Rps K cm F (fs.map (·.2)) (vs.map (·.2)) := by
  rcases h with h | ⟨a, rfl, _, C, dx, vs, h1, h2, h3, h4⟩
  · cases h with
    | ins h1 h2 h3 h4 => exact ⟨_, _, _, _, rfl, h1, s _ _ h2, h3, h4⟩
  · exact ⟨a, C, dx, vs, rfl, h1, h2, h3, h4⟩
/-! ### e.f -/
def fldG (c f : Str) : D → Option D
  | .ins c' fs => if c' = c then fs.lookup f else none
  | _ => none
def putD (f : Str) (d : D) : List (Str × D) → List (Str × D)
  | [] => [(f, d)]
  | (g, x) :: r => if g = f then (g, d) :: r else (g, x) :: putD f d r
theorem put_rps {K : PySem.W.Frag} {cm : Str → Option Addr} {F : Hp} {f : Str} {d : D} {u : V} (hu : Rp K cm F d u) : ∀ {fs : List (Str × D)} {vs : List (Str × V)}, vs.map (·.1) = fs.map (·.1) → Rps K cm F (fs.map (·.2)) (vs.map (·.2)) → (putF f u vs).map (·.1) = (putD f d fs).map (·.1) ∧ Rps K cm F ((putD f d fs).map (·.2)) ((putF f u vs).map (·.2))
  | [], [], _, _ => ⟨rfl, .cons hu .nil⟩
  | [], _ :: _, hn, _ => by cases hn
  | _ :: _, [], hn, _ => by cases hn
  | (g, e) :: fs, (g2, w) :: vs, hn, r => by
    have hg : g2 = g := (List.cons.inj hn).1
    subst hg
    cases r with
    | cons r1 r2 =>
      unfold putF putD
      by_cases c : g2 = f
      · rw [if_pos c, if_pos c]
        exact ⟨by rw [List.map_cons, List.map_cons, (List.cons.inj hn).2], .cons hu r2⟩
      · rw [if_neg c, if_neg c]
        obtain ⟨q1, q2⟩ := put_rps hu (List.cons.inj hn).2 r2
        exact ⟨by rw [List.map_cons, List.map_cons, q1], .cons r1 q2⟩
section
variable {X : Cx} {cm : Str → Option Addr} {W : WX} {pos p : Pos} {e : Expr} {es : List Expr} {fo : M Op} {fe : M D} {x f : Str}
theorem pd_fld (c : Str) (hc : ∀ C, cm c = some C → Cls X.K C ∧ NoAttr X.K C f) (ha : PO X cm W e fo) (hb : attributeBase e f X.env (eval e X.env) = eval e X.env := by rfl) : PD X cm W (.Attribute e f pos) (app1 (fldG c f) fo) := by
  obtain ⟨t, pe, j⟩ := ha
  refine ⟨_, pe_fld pe hb, jd_app1 (t2 := fun v σ H Q => ∃ a C dx fs u, v = V.ref a ∧ H a = some (.ins C dx fs) ∧ Cls X.K C ∧ NoAttr X.K C f ∧ fs.lookup f = some u ∧ Q u H) j fun F H σ v d z s hv hg Q k => ?_⟩
  cases d with
  | ins c' fs =>
    have hg : (if c' = c then fs.lookup f else none) = some z := hg
    by_cases e1 : c' = c
    · have hg2 : fs.lookup f = some z := by rw [if_pos e1] at hg; exact hg
      subst e1
      obtain ⟨a, C, dx, vs, rfl, h1, h2, h3, h4⟩ := hv.ins s
      obtain ⟨u, h5, h6⟩ := lookup_rps h3 h4 hg2
      exact ⟨a, C, dx, vs, u, rfl, h2, (hc C h1).1, (hc C h1).2, h5, k F H u (Grow.refl s) h6⟩
    · rw [if_neg e1] at hg; cases hg
  | _ => cases hg
/-- x.f = e, x owned -/
def fldS (i : Nat) (c f : Str) (fe : M D) : SM := exps fe fun d ρ => match res ρ (.s i) with
  | some (.ins c' fs) => if c' = c ∧ fs.length < 1000 then some (.nx, putC ρ i (.ins c (putD f d fs))) else none
  | _ => none
theorem psd_fld {pos' xp : Pos} (i : Nat) (c : Str) (hc : ∀ C, cm c = some C → Cls X.K C ∧ NoAttr X.K C f) (he : PD X cm W e fe) (hN : X.N[i]? = some x := by rfl) (hv : Vis X.env.scope x := by first | exact Or.inl rfl | exact Or.inr (Or.inl rfl) | exact Or.inr (Or.inr rfl)) (hdb : (x == ("__debug__" : Str)) = false := by decide) (hcd : (x == ("__classdict__" : Str)) = false := by decide)
    (hs : swapsWith e (some (.Attribute (.Name x xp) f pos')) pos.line X.env = pure false := by rfl) : PSd X cm W (.Assign [.Attribute (.Name x xp) f pos'] e pos) (fldS i c f fe) := by
  obtain ⟨te, pe, je⟩ := he
  refine ⟨_, ps_fld (pe_var hN hv hdb hcd) pe hs, ?_⟩
  unfold fldS
  refine jst_exp (t2 := fun y D σ H1 => tVar i σ H1 fun x H2 => ∃ a C dx fs, x = .ref a ∧ H2 a = some (.ins C dx fs) ∧ Cls X.K C ∧ NoAttr X.K C f ∧ fs.length < 1000 ∧ D.nx σ (upd H2 a (.ins C dx (putF f y fs)))) je fun d v G F H σ ρ r ρ' er hv hk D hD => ?_
  have hv : Rp X.K cm F d v := hv
  cases q0 : res ρ (.s i) with
  | none => rw [q0] at hk; cases hk
  | some c0 =>
    rw [q0] at hk
    obtain ⟨a, ha, ow, _⟩ := er.own_of q0
    cases c0 with
    | ins c' fs =>
      have hk : (if c' = c ∧ fs.length < 1000 then some (SR.nx, putC ρ i (.ins c (putD f d fs))) else none) = some (r, ρ') := hk
      by_cases e1 : c' = c ∧ fs.length < 1000
      · rw [if_pos e1] at hk; cases hk
        obtain ⟨e1, e2⟩ := e1
        subst e1
        obtain ⟨hf, C, dx, vs, h1, h2, h3, h4⟩ := ow
        have hl : vs.length = fs.length := by have := congrArg List.length h3; simpa using this
        obtain ⟨q1, q2⟩ := put_rps hv h3 h4
        refine ⟨.ref a, ha, a, C, dx, vs, rfl, h2, (hc C h1).1, (hc C h1).2, by omega, ?_⟩
        exact hD F _ σ (er.write q0 ha hf ⟨C, dx, _, h1, upd_same, q1, q2⟩) (Ext.refl F)
      · rw [if_neg e1] at hk; cases hk
    | _ => cases hk
/-! ### C(e, ..) -/
theorem ER.make {K : PySem.W.Frag} {G : Gd} {F H H1 F' H' : Hp} {σ σ' : St} {ρ ss' : Env} {a : Addr} {vs : List V} (er : ER K cm G F H σ ρ) (ha : H a = none) (hh : Same H H1) (er' : ER K cm (entry vs (fun b => b = a) F H1) F' H' σ' ss') : ER K cm G F' H' σ ρ where
  sub := er'.sub
  f0 := er.f0.trans er'.f0
  h0 := fun b o h n m => er'.h0 b o (hh b o (er.h0 b o h n m)) (fun z => by
    have : H b ≠ none := er.live b (by rw [h]; simp)
    rw [show b = a from z] at this
    exact this ha) (fun z => z)
  live := fun b h => er'.live b (by
    show H1 b ≠ none
    have := er.live b h
    cases q : H b with
    | none => exact absurd q this
    | some o => rw [hh b o q]; simp)
  nf := fun b h n m => er'.nf b (by
    show H1 b ≠ none
    have := er.live b h
    cases q : H b with
    | none => exact absurd q this
    | some o => rw [hh b o q]; simp) (er.nf b h n m) (fun z => z)
  slot := fun i s e => by
    have hs := er.slot i s e
    have keep : ∀ (b : Addr) (d : D), OwnR K cm F H b d → OwnR K cm F' H' b d := fun b d r => by
      obtain ⟨o, ho⟩ := r.some
      have nb : b ≠ a := fun z => by rw [z, ha] at ho; cases ho
      exact r.mono er'.f0 ((er'.h0 b o (hh b o ho) nb (fun z => z)).trans ho.symm) (er'.nf b (by show H1 b ≠ none; rw [hh b o ho]; simp) r.1 (fun z => z))
    cases s with
    | no => trivial
    | val d => obtain ⟨v, g1, r⟩ := hs; exact ⟨v, g1, r.ext er'.f0⟩
    | own d => obtain ⟨b, g1, q, r⟩ := hs; exact ⟨b, g1, q, keep b d r⟩
    | par d => obtain ⟨b, g1, q, r⟩ := hs; exact ⟨b, g1, q, keep b d r⟩
  inj := er.inj
  len := er.len
  tp := er'.tp
def makeM (c : Str) (m : FD) (ds : List D) : M D := fun ρ => (m (.par (.ins c []) :: ds.map .val)).bind fun p => match p with
  | (.ret (.val .non), .par (.ins c' fs) :: _) => if c' = c then some (.ok (.ins c fs), ρ) else none
  | (.exc x, _) => some (.exc x, ρ)
  | _ => none
def makeS (c : Str) (m : FD) (fds : M (List D)) : M D := M.bind fds fun ds => makeM c m ds
def tMakeS (C : Addr) (sp : Sp) (E : St → XK) (t : TA) : TE := fun σ H Q => t σ H fun vs H1 => ∀ x dx, H1 x = none → H1 dx = none → dx ≠ x → sp (.ref x :: vs) (upd (upd H1 dx (.own x)) x (.ins C dx [])) (fun v H2 => v = .non ∧ Q (.ref x) H2) (E σ)
variable {f : Addr} {fd : FuncData} {ps : List Str} {k : Nat} {m : FD} {fds : M (List D)} {C : Addr} {sp : Sp} {E : St → XK} {t : TA} {CX : CXT}
theorem run_makeS {pins : List (Addr × Obj)} {σ : St} {H : Hp} {s : Shared} {Q : VK} {us : List Value} {vs : List V} {E : XK} (M0 : Mk X.K C f) (F : FnOk X.prog X.w X.K X.mg X.base CX k f fd ps sp) (hr : Room (k + 1) X.A) (hb : Binds X.K fd ps []) (hx : PassesAt CX X σ E) (I : Inv X pins σ H s) (r : Vals vs us)
    (h : ∀ x dx, H x = none → H dx = none → dx ≠ x → sp (.ref x :: vs) (upd (upd H dx (.own x)) x (.ins C dx [])) (fun v H2 => v = .non ∧ Q (.ref x) H2) E) :
    wpAny (model X.prog X.w) X.A (call (.ref C) us) (EP X pins σ Q) X.xe s := by
  let N := s.heap.objs.size
  have hq := h (N + 1) N (I.hok.fresh (Nat.le_succ N)) (I.hok.fresh (Nat.le_refl N)) (Nat.ne_of_lt (Nat.lt_succ_self N))
  have J := Inv.made (C := C) I
  have r2 : Vals (V.ref (N + 1) :: vs) (Value.ref (N + 1) :: us) := .cons rfl r
  have hl : ((Value.ref (N + 1) :: us) ++ []).length = ps.length := by
    rw [List.append_nil, ← r2.length]; exact F.len _ _ _ _ hq
  have bi := hb _ (Value.ref (N + 1) :: us) J.kIn hl
  rw [List.append_nil] at bi
  have run := F.run _ X.stack _ _ ⟨Value.ref (N + 1) :: us, []⟩ (Value.ref (N + 1) :: us) _ _ E (hr.make C us []) (J.env0.make C us []) bi r2 hq
  refine wpAny_call (make_map (f := f) I.kIn M0.makes M0.init (beq_iff_eq.mp M0.fn) (codeAny_mono run fun r s' hq' => ?_))
  match r, hq' with
  | .error e, hq' => exact hx pins _ _ e s' J hq'
  | .ok (.ret u), hq' =>
    obtain ⟨v, H', J3, rv, ev, q3⟩ := J.after hq'
    subst ev
    exact ⟨rv, V.ref (N + 1), H', J3, rfl, q3⟩
  | .ok .next, hq' => exact False.elim hq'
  | .ok .brk, hq' => exact False.elim hq'
  | .ok .cont, hq' => exact False.elim hq'
theorem pe_makeS (M0 : Mk X.K C f) (F : FnOk X.prog X.w X.K X.mg X.base CX k f fd ps sp) (hr : Room (k + 1) X.A) (hg : Gl X x) (hm : X.mg x = some (.ref C)) (hb : Binds X.K fd ps []) (hx : ∀ σ, PassesAt CX X σ (E σ)) (ha : PA X (e :: es) t)
    (hdb : (x == ("__debug__" : Str)) = false := by decide) (he : starEach (e :: es) X.env = (false, eval e X.env) :: starEach es X.env := by rfl) (hpl : (backTo pos (starEach es X.env)).any (·.1) = false := by rfl) :
    PE X (.Call (.Name x p) (e :: es) [] pos) (tMakeS C sp E t) := ⟨fun pins s σ H Q I h => by
  refine wpAny_Call_Name_kw (ld_glob I hg hm ?_ hdb)
  have args := ha.run pos pins s σ H _ I h
  refine PySem.W.callWith_K (h₀ := X.base) I.ok.mod.kin M0.kp (thn args fun us s1 q => ?_) he hpl
  obtain ⟨vs, H1, I1, r, q⟩ := q
  exact ⟨I1.kIn, run_makeS M0 F hr hb (hx σ) I1 r q⟩⟩
theorem pf_make (c : Str) (hcm : cm c = some C) (M0 : Mk X.K C f) (F : FnOk X.prog X.w X.K X.mg X.base (L2.CX X.prog X.w) k f fd ps (spD X.K cm ps.length m)) (hnp : ∀ ss q, m ss = some q → ss.length = ps.length) (tk : Takes X W) (hr : Room (k + 1) X.A) (hg : Gl X x) (hm : X.mg x = some (.ref C)) (hb : Binds X.K fd ps [])
    (ha : PVs X cm W (e :: es) fds) (hdb : (x == ("__debug__" : Str)) = false := by decide) (he : starEach (e :: es) X.env = (false, eval e X.env) :: starEach es X.env := by rfl) (hpl : (backTo pos (starEach es X.env)).any (·.1) = false := by rfl) :
    PF X cm W (.Call (.Name x p) (e :: es) [] pos) (makeS c m fds) := by
  obtain ⟨t, pa, j⟩ := ha
  refine ⟨_, pe_makeS M0 F hr hg hm hb (fun σ => passAt tk σ) pa hdb he hpl, ?_⟩
  unfold makeS
  refine JdP.bindS (rel1 := rVs X.K cm) (t1 := t) (t2 := fun vs σ H Q => ∀ x dx, H x = none → H dx = none → dx ≠ x → spD X.K cm ps.length m (.ref x :: vs) (upd (upd H dx (.own x)) x (.ins C dx [])) (fun v H2 => v = .non ∧ Q (V.ref x) H2) (WE W σ)) stable_true j fun ds vs => ?_
  intro G F0 H σ ρ r ρ' er hp hf Q hQ x dx hx hdx hne
  have hv : Rps X.K cm F0 ds vs := hp.2
  have hf : ((m (.par (.ins c []) :: ds.map .val)).bind fun p => match p with
    | (.ret (.val .non), .par (.ins c' fs) :: _) => if c' = c then some (R.ok (D.ins c fs), ρ) else none
    | (.exc x, _) => some (.exc x, ρ)
    | _ => none) = some (r, ρ') := hf
  cases qm : m (.par (.ins c []) :: ds.map .val) with
  | none => rw [qm] at hf; cases hf
  | some pr =>
    obtain ⟨r1, ss'⟩ := pr
    rw [qm] at hf
    have hf : (match (r1, ss') with
      | (.ret (.val .non), .par (.ins c' fs) :: _) => if c' = c then some (R.ok (D.ins c fs), ρ) else none
      | (.exc x, _) => some (.exc x, ρ)
      | _ => none) = some (r, ρ') := hf
    have hh : Same H (upd (upd H dx (.own x)) x (.ins C dx [])) := fun b o e => by
      rw [upd_ne (ne_of_none e hx), upd_ne (ne_of_none e hdx)]; exact e
    have hFx : F0 x = none := er.sub.free hx
    have hin : ER X.K cm (entry (.ref x :: vs) (fun b => b = x) F0 (upd (upd H dx (.own x)) x (.ins C dx []))) F0 (upd (upd H dx (.own x)) x (.ins C dx [])) ((V.ref x :: vs).map some) (.par (.ins c []) :: ds.map .val) := {
      sub := fun b o e => hh b o (er.sub b o e)
      f0 := Ext.refl _
      h0 := fun b o h _ _ => h
      live := fun b h => h
      nf := fun b _ h _ => h
      slot := fun i s e => by
        cases i with
        | zero => cases e; exact ⟨x, rfl, ⟨rfl, rfl⟩, hFx, C, dx, [], hcm, upd_same, rfl, .nil⟩
        | succ i =>
          have e : (ds.map Sl.val)[i]? = some s := by simpa using e
          rw [List.getElem?_map] at e
          cases q : ds[i]? with
          | none => rw [q] at e; cases e
          | some d =>
            rw [q] at e; cases e
            obtain ⟨v, h1, rv⟩ := hv.getD q
            refine ⟨v, ?_, rv⟩
            show (vs.map some)[i]? = _
            rw [List.getElem?_map, h1]; rfl
      inj := fun i j s t ei ej os ot _ => by
        have z : ∀ (i : Nat) (s : Sl), (Sl.par (D.ins c []) :: ds.map Sl.val)[i]? = some s → owns s = true → i = 0 := fun i s e o => by
          cases i with
          | zero => rfl
          | succ i =>
            have e : (ds.map Sl.val)[i]? = some s := by simpa using e
            rw [List.getElem?_map] at e
            cases q : ds[i]? with
            | none => rw [q] at e; cases e
            | some d => rw [q] at e; cases e; cases o
        rw [z i s ei os, z j t ej ot]
      len := by simp [hv.length]
      tp := fun b xs e => by
        by_cases c1 : b = x
        · rw [c1, upd_same] at e; cases e
        · rw [upd_ne c1] at e
          by_cases c2 : b = dx
          · rw [c2, upd_same] at e; cases e
          · rw [upd_ne c2] at e; exact er.tp b xs e }
    refine ⟨F0, _, ss', r1, fun b => b = x, ?_, hin, qm, fun F' H' er' => ?_⟩
    · have := hnp _ _ qm
      simp only [List.length_cons, List.length_map] at this ⊢
      rw [← this, hv.length]
    · have em := er.make hx hh er'
      match r1, ss', hf, er' with
      | .exc z, ss', hf, er' => cases hf; exact fun cv dx' hx' => hQ F' H' em er'.f0 cv dx' hx'
      | .ret (.val .non), .par (.ins c' fs) :: rest, hf, er' =>
        have hf : (if c' = c then some (R.ok (D.ins c fs), ρ) else none) = some (r, ρ') := hf
        by_cases e1 : c' = c
        · rw [if_pos e1] at hf; cases hf
          subst e1
          intro v hv'
          cases hv'
          refine ⟨rfl, hQ F' H' em er'.f0 (.ref x) ⟨x, rfl, .inl ?_, ?_, fun i s e o z => ?_⟩⟩
          · cases q : G.H0 x with
            | none => rfl
            | some o => exact absurd hx (er.live x (by rw [q]; simp))
          · obtain ⟨a, h1, _, r⟩ := er'.slot 0 _ rfl
            have : x = a := V.ref.inj (Option.some.inj (Option.some.inj h1))
            subst this
            exact r
          · have hs := er.slot i s e
            cases s with
            | no => cases o
            | val d => cases o
            | own d =>
              obtain ⟨b, g1, _, rr⟩ := hs
              rw [g1] at z
              have : b = x := V.ref.inj (Option.some.inj (Option.some.inj z))
              obtain ⟨ob, hob⟩ := rr.some
              rw [this, hx] at hob; cases hob
            | par d =>
              obtain ⟨b, g1, _, rr⟩ := hs
              rw [g1] at z
              have : b = x := V.ref.inj (Option.some.inj (Option.some.inj z))
              obtain ⟨ob, hob⟩ := rr.some
              rw [this, hx] at hob; cases hob
        · rw [if_neg e1] at hf; cases hf
end
end Pd

/-! Pd15: dicts: d[k], k in d, d.get(k, e), d[k] = e, len(d), list(d). -/
namespace Pd
open PySem PySem.Spec L2
open PyProof.Rows (envOfC)
section
variable {κ : Type} [DecidableEq κ] {K : PySem.W.Frag} {cm : Str → Option Addr} {F : Hp}
def valD (kvs : List (κ × D)) (k : κ) : Option D := (kvs.find? fun p => decide (p.1 = k)).map (·.2)
def putKD (kvs : List (κ × D)) (k : κ) (d : D) : List (κ × D) := if (kvs.any fun p => decide (p.1 = k)) = true then kvs.map (fun p => if p.1 = k then (p.1, d) else p) else kvs ++ [(k, d)]
def DRel (K : PySem.W.Frag) (cm : Str → Option Addr) (F : Hp) (kvs : List (κ × D)) (ks : List (κ × V)) : Prop := ks.map (·.1) = kvs.map (·.1) ∧ Rps K cm F (kvs.map (·.2)) (ks.map (·.2))
theorem DRel.nil_left {ks : List (κ × V)} (h : DRel K cm F [] ks) : ks = [] := by
  cases ks with
  | nil => rfl
  | cons a l => exact absurd h.1 (by simp)
theorem DRel.cons_left {p : κ × D} {kvs : List (κ × D)} {ks : List (κ × V)} (h : DRel K cm F (p :: kvs) ks) : ∃ v r, ks = (p.1, v) :: r ∧ Rp K cm F p.2 v ∧ DRel K cm F kvs r := by
  cases ks with
  | nil => exact absurd h.1 (by simp)
  | cons a l =>
    obtain ⟨g, v⟩ := a
    obtain ⟨h1, h2⟩ := h
    have e : g = p.1 := (List.cons.inj h1).1
    cases h2 with
    | cons r1 r2 => exact ⟨v, l, by rw [e], r1, (List.cons.inj h1).2, r2⟩
theorem valD_none {k : κ} : ∀ {kvs : List (κ × D)} {ks : List (κ × V)}, DRel K cm F kvs ks → valD kvs k = none → valV ks k = none
  | [], ks, h, _ => by rw [h.nil_left]; rfl
  | p :: kvs, ks, h, e => by
    obtain ⟨v, r, rfl, r1, r2⟩ := h.cons_left
    by_cases c : p.1 = k
    · unfold valD at e; simp [List.find?_cons, c] at e
    · have e : valD kvs k = none := by unfold valD at e ⊢; simpa [List.find?_cons, c] using e
      rw [valV_neg (p := (p.1, v)) c]
      exact valD_none r2 e
theorem valD_some {k : κ} {d : D} : ∀ {kvs : List (κ × D)} {ks : List (κ × V)}, DRel K cm F kvs ks → valD kvs k = some d → ∃ v, valV ks k = some v ∧ Rp K cm F d v
  | [], ks, h, e => by cases e
  | p :: kvs, ks, h, e => by
    obtain ⟨v, r, rfl, r1, r2⟩ := h.cons_left
    by_cases c : p.1 = k
    · have e : p.2 = d := by unfold valD at e; simpa [List.find?_cons, c] using e
      exact ⟨v, by rw [valV_pos (p := (p.1, v)) c], by rw [← e]; exact r1⟩
    · have e : valD kvs k = some d := by unfold valD at e ⊢; simpa [List.find?_cons, c] using e
      obtain ⟨u, h1, h2⟩ := valD_some r2 e
      exact ⟨u, by rw [valV_neg (p := (p.1, v)) c]; exact h1, h2⟩
theorem DRel.append {kvs ls : List (κ × D)} {ks ms : List (κ × V)} (h : DRel K cm F kvs ks) (g : DRel K cm F ls ms) : DRel K cm F (kvs ++ ls) (ks ++ ms) :=
  ⟨by rw [List.map_append, List.map_append, h.1, g.1], by rw [List.map_append, List.map_append]; exact h.2.append g.2⟩
theorem DRel.repl {k : κ} {d : D} {v : V} (hv : Rp K cm F d v) : ∀ {kvs : List (κ × D)} {ks : List (κ × V)}, DRel K cm F kvs ks → DRel K cm F (kvs.map fun p => if p.1 = k then (p.1, d) else p) (ks.map fun p => if p.1 = k then (p.1, v) else p)
  | [], ks, h => by rw [h.nil_left]; exact ⟨rfl, .nil⟩
  | p :: kvs, ks, h => by
    obtain ⟨u, r, rfl, r1, r2⟩ := h.cons_left
    obtain ⟨i1, i2⟩ := DRel.repl (k := k) hv r2
    by_cases c : p.1 = k
    · simp only [List.map_cons, c, if_true]
      exact ⟨by rw [List.map_cons, List.map_cons, i1], .cons hv i2⟩
    · simp only [List.map_cons, if_neg c]
      exact ⟨by rw [List.map_cons, List.map_cons, i1], .cons r1 i2⟩
theorem DRel.put {k : κ} {d : D} {v : V} (hv : Rp K cm F d v) {kvs : List (κ × D)} {ks : List (κ × V)} (h : DRel K cm F kvs ks) : DRel K cm F (putKD kvs k d) (putK ks k v) := by
  have e : (ks.any fun p => decide (p.1 = k)) = (kvs.any fun p => decide (p.1 = k)) := by
    have : ∀ {α : Type} (l : List (κ × α)), (l.any fun p => decide (p.1 = k)) = (l.map (·.1)).any fun x => decide (x = k) := fun l => by rw [List.any_map]; rfl
    rw [this, this, h.1]
  unfold putKD putK
  rw [e]
  by_cases c : (kvs.any fun p => decide (p.1 = k)) = true
  · rw [if_pos c, if_pos c]; exact h.repl hv
  · rw [if_neg c, if_neg c]; exact h.append ⟨rfl, .cons hv .nil⟩
theorem DRel.len {kvs : List (κ × D)} {ks : List (κ × V)} (h : DRel K cm F kvs ks) : ks.length = kvs.length := by have := congrArg List.length h.1; simpa using this
end
def keyOf : D → Option Key
  | .int i => some (.inl i)
  | .str x => some (.inr x)
  | _ => none
def keysOf : List D → Option (List Key)
  | [] => some []
  | d :: ds => (keyOf d).bind fun k => (keysOf ds).map fun ks => k :: ks
section
variable {K : PySem.W.Frag} {cm : Str → Option Addr} {F H : Hp}
theorem keyOf_rp {d : D} {k : Key} {v : V} (h : Rp K cm F d v) (e : keyOf d = some k) : v = kV k := by
  cases d with
  | int i => cases e; cases h; rfl
  | str i => cases e; cases h; rfl
  | _ => cases e
theorem keyOf_rv {d : D} {k : Key} {v : V} (h : Rv K cm F H d v) (e : keyOf d = some k) : v = kV k := by
  cases d with
  | int i => cases e; exact h.int
  | str i => cases e; exact h.str
  | _ => cases e
theorem keysOf_rps : ∀ {ds : List D} {ks : List Key} {vs : List V}, Rps K cm F ds vs → keysOf ds = some ks → vs = ks.map kV
  | _, _, _, .nil, e => by cases e; rfl
  | d :: ds, ks, v :: vs, .cons h r, e => by
    have e : (keyOf d).bind (fun k => (keysOf ds).map fun ks => k :: ks) = some ks := e
    cases q : keyOf d with
    | none => rw [q] at e; cases e
    | some k =>
      rw [q] at e
      have e : (keysOf ds).map (fun ks => k :: ks) = some ks := e
      cases q2 : keysOf ds with
      | none => rw [q2] at e; cases e
      | some ls => rw [q2] at e; cases e; rw [keyOf_rp h q, keysOf_rps r q2]; rfl
/-- what a dict holds at a key: none | some none: not there | some (some d) -/
def getO : D → D → Option (Option D)
  | .dk kvs, d => (keyOf d).map fun k => valD kvs k
  | .dt kvs, .tup ds => (keysOf ds).map fun ks => valD kvs ks
  | _, _ => none
theorem Rv.dk {kvs : List (Key × D)} {v : V} (s : Same F H) (h : Rv K cm F H (.dk kvs) v) : ∃ a ks, v = .ref a ∧ Rd H a (.dK ks) ∧ DRel K cm F kvs ks := by
  rcases h with h | ⟨a, rfl, _, ks, h1, h2, h3⟩
  · cases h with
    | dk h1 h2 h3 =>
      obtain ⟨o, ho, hu⟩ := h1
      rcases un_dK hu with rfl | ⟨ob, rfl⟩
      · exact ⟨_, _, rfl, .inl (s _ _ ho), h2, h3⟩
      · exact ⟨_, _, rfl, .inr ⟨ob, s _ _ ho⟩, h2, h3⟩
  · exact ⟨a, ks, rfl, .inl h1, h2, h3⟩
theorem Rv.dt {kvs : List (List Key × D)} {v : V} (s : Same F H) (h : Rv K cm F H (.dt kvs) v) : ∃ a ks, v = .ref a ∧ Rd H a (.dT ks) ∧ DRel K cm F kvs ks := by
  rcases h with h | ⟨a, rfl, _, ks, h1, h2, h3⟩
  · cases h with
    | dt h1 h2 h3 =>
      obtain ⟨o, ho, hu⟩ := h1
      rcases un_dT hu with rfl | ⟨ob, rfl⟩
      · exact ⟨_, _, rfl, .inl (s _ _ ho), h2, h3⟩
      · exact ⟨_, _, rfl, .inr ⟨ob, s _ _ ho⟩, h2, h3⟩
  · exact ⟨a, ks, rfl, .inl h1, h2, h3⟩
/-- there or not, alike -/
def ORel (K : PySem.W.Frag) (cm : Str → Option Addr) (F : Hp) (o : Option D) (ov : Option V) : Prop := (o = none ∧ ov = none) ∨ ∃ d v, o = some d ∧ ov = some v ∧ Rp K cm F d v
theorem dget_of {dd kd : D} {x y : V} {o : Option D} (s : Same F H) (hx : Rv K cm F H dd x) (hy : Rv K cm F H kd y) (h : getO dd kd = some o) :
    ∃ a ov, x = .ref a ∧ IsD H a ∧ DGet H a y ov ∧ ORel K cm F o ov := by
  cases dd with
  | dk kvs =>
    have h : (keyOf kd).map (fun k => valD kvs k) = some o := h
    cases q : keyOf kd with
    | none => rw [q] at h; cases h
    | some k =>
      rw [q] at h; cases h
      obtain ⟨a, ks, rfl, h1, h2⟩ := hx.dk s
      refine ⟨a, valV ks k, rfl, .inl ⟨ks, h1⟩, .inl ⟨ks, k, h1, keyOf_rv hy q, rfl⟩, ?_⟩
      show ORel K cm F (valD kvs k) (valV ks k)
      cases q2 : valD kvs k with
      | none => exact .inl ⟨rfl, valD_none h2 q2⟩
      | some d => obtain ⟨v, e1, e2⟩ := valD_some h2 q2; exact .inr ⟨d, v, rfl, e1, e2⟩
  | dt kvs =>
    cases kd with
    | tup ds =>
      have h : (keysOf ds).map (fun k => valD kvs k) = some o := h
      cases q : keysOf ds with
      | none => rw [q] at h; cases h
      | some k =>
        rw [q] at h; cases h
        obtain ⟨a, ks, rfl, h1, h2⟩ := hx.dt s
        obtain ⟨b, xs, rfl, h3, h4⟩ := hy.tupX s
        refine ⟨a, valV ks k, rfl, .inr ⟨ks, h1⟩, .inr ⟨ks, k, b, h1, rfl, by rw [← keysOf_rps h4 q]; exact s _ _ h3, rfl⟩, ?_⟩
        show ORel K cm F (valD kvs k) (valV ks k)
        cases q2 : valD kvs k with
        | none => exact .inl ⟨rfl, valD_none h2 q2⟩
        | some d => obtain ⟨v, e1, e2⟩ := valD_some h2 q2; exact .inr ⟨d, v, rfl, e1, e2⟩
    | _ => cases h
  | _ => cases h
def getG (x y : D) : Option D := (getO x y).bind id
def rDGetR : R2 := fun x y H Q => ∃ a v, x = .ref a ∧ DGet H a y (some v) ∧ Q v H
theorem od_dget : OpD K cm rDGetR getG := by
  intro F H x y dx dy d s hx hy hg Q k
  have hg : (getO dx dy).bind id = some d := hg
  cases q : getO dx dy with
  | none => rw [q] at hg; cases hg
  | some o =>
    rw [q] at hg
    have hg : o = some d := hg
    subst hg
    obtain ⟨a, ov, rfl, _, h1, h2⟩ := dget_of s hx hy q
    rcases h2 with ⟨e, _⟩ | ⟨d', v, e, rfl, h2⟩
    · cases e
    · cases e; exact ⟨a, v, rfl, h1, k F H v (Grow.refl s) h2⟩
def inKG (y x : D) : Option D := (getO x y).map fun o => .bl o.isSome
def notInKG (y x : D) : Option D := (getO x y).map fun o => .bl (!o.isSome)
def rDInR : R2 := fun y x H Q => ∃ a o, x = .ref a ∧ DGet H a y o ∧ Q (.bl o.isSome) H
def rDNotInR : R2 := fun y x H Q => ∃ a o, x = .ref a ∧ DGet H a y o ∧ Q (.bl (!o.isSome)) H
theorem some_eq {o : Option D} {ov : Option V} (h : ORel K cm F o ov) : ov.isSome = o.isSome := by
  rcases h with ⟨rfl, rfl⟩ | ⟨d, v, rfl, rfl, _⟩ <;> rfl
theorem od_din : OpD K cm rDInR inKG := by
  intro F H y x dy dx d s hy hx hg Q k
  have hg : (getO dx dy).map (fun o => D.bl o.isSome) = some d := hg
  cases q : getO dx dy with
  | none => rw [q] at hg; cases hg
  | some o =>
    rw [q] at hg; cases hg
    obtain ⟨a, ov, rfl, _, h1, h2⟩ := dget_of s hx hy q
    exact ⟨a, ov, rfl, h1, by rw [some_eq h2]; exact k F H _ (Grow.refl s) (.bl _)⟩
theorem od_dnotin : OpD K cm rDNotInR notInKG := by
  intro F H y x dy dx d s hy hx hg Q k
  have hg : (getO dx dy).map (fun o => D.bl (!o.isSome)) = some d := hg
  cases q : getO dx dy with
  | none => rw [q] at hg; cases hg
  | some o =>
    rw [q] at hg; cases hg
    obtain ⟨a, ov, rfl, _, h1, h2⟩ := dget_of s hx hy q
    exact ⟨a, ov, rfl, h1, by rw [some_eq h2]; exact k F H _ (Grow.refl s) (.bl _)⟩
/-- d[k] = e, d owned -/
def putG : D → D → D → Option D
  | .dk kvs, k, d => if kvs.length < sizeLine then (keyOf k).map fun k => .dk (putKD kvs k d) else none
  | .dt kvs, .tup ks, d => if kvs.length < sizeLine then (keysOf ks).map fun k => .dt (putKD kvs k d) else none
  | _, _, _ => none
theorem so_dict : StO K cm rSetD putG := by
  intro F H a c c' k d kv v s hf ho hk hd hg Q kk
  cases c with
  | dk kvs =>
    have hg : (if kvs.length < sizeLine then (keyOf k).map fun k => D.dk (putKD kvs k d) else none) = some c' := hg
    by_cases hl : kvs.length < sizeLine
    · rw [if_pos hl] at hg
      cases q : keyOf k with
      | none => rw [q] at hg; cases hg
      | some key =>
        rw [q] at hg; cases hg
        obtain ⟨ks, h1, h2, h3⟩ := ho
        have rel : DRel K cm F kvs ks := ⟨h2, h3⟩
        have rp := rel.put (k := key) hd
        exact ⟨a, _, rfl, .inl ⟨ks, key, h1, keyOf_rp hk q, by rw [rel.len]; exact hl, rfl⟩, kk _ ⟨_, upd_same, rp.1, rp.2⟩⟩
    · rw [if_neg hl] at hg; cases hg
  | dt kvs =>
    cases k with
    | tup ds =>
      have hg : (if kvs.length < sizeLine then (keysOf ds).map fun k => D.dt (putKD kvs k d) else none) = some c' := hg
      by_cases hl : kvs.length < sizeLine
      · rw [if_pos hl] at hg
        cases q : keysOf ds with
        | none => rw [q] at hg; cases hg
        | some key =>
          rw [q] at hg; cases hg
          obtain ⟨ks, h1, h2, h3⟩ := ho
          have rel : DRel K cm F kvs ks := ⟨h2, h3⟩
          have rp := rel.put (k := key) hd
          cases hk with
          | @tup b xs _ e1 e2 =>
            exact ⟨a, _, rfl, .inr ⟨ks, key, b, h1, rfl, by rw [← keysOf_rps e2 q]; exact s _ _ e1, by rw [rel.len]; exact hl, rfl⟩, kk _ ⟨_, upd_same, rp.1, rp.2⟩⟩
      · rw [if_neg hl] at hg; cases hg
    | _ => cases hg
  | _ => cases hg
end
end Pd

/-! Pd16: walks over dicts: the dict is locked while one walks. -/
namespace Pd
open PySem PySem.Spec L2
open PyProof.Rows (envOfC)
section
variable {K : PySem.W.Frag} {cm : Str → Option Addr} {G : Gd} {F H F' H' : Hp} {σ σ' : St} {ρ ρ' : Env} {d : Addr} {u : HO} {ob : Obj}
/-- a frozen dict, locked -/
theorem ER.lock (er : ER K cm G F H σ ρ) (hd : F d = some u) (hu : un (.frz ob u) = un u) (ht : ∀ xs, HO.frz ob u ≠ .tup xs) :
    ER K cm (inn G (upd F d (.frz ob u)) (upd H d (.frz ob u)) σ ρ) (upd F d (.frz ob u)) (upd H d (.frz ob u)) σ ρ := by
  have xF : Ext F (upd F d (.frz ob u)) := fun a o e => by
    by_cases c : a = d
    · subst c; rw [hd] at e; cases e; exact ⟨_, upd_same, hu⟩
    · exact ⟨o, by rw [upd_ne c]; exact e, rfl⟩
  have own : ∀ (a : Addr) (x : D), OwnR K cm F H a x → OwnR K cm (upd F d (.frz ob u)) (upd H d (.frz ob u)) a x := fun a x r => by
    have c : a ≠ d := fun z => by have := r.1; rw [z, hd] at this; cases this
    exact r.mono xF (upd_ne c) (by rw [upd_ne c]; exact r.1)
  exact {
    sub := fun b o e => by
      by_cases c : b = d
      · subst c; rw [upd_same] at e ⊢; exact e
      · rw [upd_ne c] at e ⊢; exact er.sub b o e
    f0 := Ext.refl _
    h0 := fun _ _ h _ _ => h
    live := fun _ h => h
    nf := fun _ _ h _ => h
    slot := fun i s e => by
      have hs := er.slot i s e
      cases s with
      | no => trivial
      | val x => obtain ⟨v, e1, r⟩ := hs; exact ⟨v, e1, r.ext xF⟩
      | own x => obtain ⟨a, e1, _, r⟩ := hs; exact ⟨a, e1, .inr ⟨i, x, e, e1⟩, own a x r⟩
      | par x => obtain ⟨a, e1, q, r⟩ := hs; exact ⟨a, e1, ⟨q.1, ⟨i, x, e, e1⟩⟩, own a x r⟩
    inj := er.inj
    len := er.len
    tp := fun b xs e => by
      by_cases c : b = d
      · subst c; rw [upd_same] at e; exact absurd (Option.some.inj e) (ht xs)
      · rw [upd_ne c] at e ⊢; exact er.tp b xs e }
/-- what the locked dict is behind a run within -/
theorem ER.locked (er : ER K cm G F H σ ρ) (hd : F d = some u) (er' : ER K cm (inn G (upd F d (.frz ob u)) (upd H d (.frz ob u)) σ ρ) F' H' σ' ρ') : H' d = some (.frz ob u) := by
  refine er'.h0 d _ upd_same (fun ⟨i, x, e, e1⟩ => ?_) (fun ⟨i, x, e, e1⟩ => ?_)
  · obtain ⟨b, e2, _, r⟩ := er.slot i _ e
    rw [e1] at e2
    have : d = b := V.ref.inj (Option.some.inj (Option.some.inj e2))
    subst this
    have := r.1; rw [hd] at this; cases this
  · obtain ⟨b, e2, _, r⟩ := er.slot i _ e
    rw [e1] at e2
    have : d = b := V.ref.inj (Option.some.inj (Option.some.inj e2))
    subst this
    have := r.1; rw [hd] at this; cases this
/-- .. and unlocked -/
theorem ER.unlock (er : ER K cm G F H σ ρ) (hd : F d = some u) (hu : un (.frz ob u) = un u) (ht : ∀ xs, u ≠ .tup xs) (er' : ER K cm (inn G (upd F d (.frz ob u)) (upd H d (.frz ob u)) σ ρ) F' H' σ' ρ') :
    ER K cm G (upd F' d u) (upd H' d u) σ' ρ' ∧ Ext F (upd F' d u) ∧ Ext F' (upd F' d u) := by
  have hH : H d = some u := er.sub d u hd
  have hl := er.locked hd er'
  obtain ⟨o1, f1, f2⟩ := er'.f0 d (.frz ob u) upd_same
  have hF' : F' d = some (.frz ob u) := by
    have := er'.sub d o1 f1
    rw [hl] at this
    rw [f1, ← Option.some.inj this]
  have x2 : Ext F' (upd F' d u) := fun a o e => by
    by_cases c : a = d
    · subst c; rw [hF'] at e; cases e; exact ⟨u, upd_same, hu.symm⟩
    · exact ⟨o, by rw [upd_ne c]; exact e, rfl⟩
  have x1 : Ext F (upd F' d u) := fun a o e => by
    by_cases c : a = d
    · subst c; rw [hd] at e; cases e; exact ⟨u, upd_same, rfl⟩
    · obtain ⟨o', e1, e2⟩ := er'.f0 a o (by show upd F d _ a = some o; rw [upd_ne c]; exact e)
      exact ⟨o', by rw [upd_ne c]; exact e1, e2⟩
  have npa : ∀ {b : Addr}, (inn G (upd F d (.frz ob u)) (upd H d (.frz ob u)) σ ρ).pa b → G.pa b := fun {b} h => er.pa_of (F := F) (H := H) h
  have nfr : ∀ {b : Addr}, (inn G (upd F d (.frz ob u)) (upd H d (.frz ob u)) σ ρ).fr b → Free G b := fun {b} h => er.fr_of (F := F) (H := H) h
  have lv : ∀ b, G.H0 b ≠ none → upd H d (.frz ob u) b ≠ none := fun b h => by
    by_cases c : b = d
    · subst c; rw [upd_same]; simp
    · rw [upd_ne c]; exact er.live b h
  refine ⟨{
    sub := fun b o e => by
      by_cases c : b = d
      · subst c; rw [upd_same] at e ⊢; exact e
      · rw [upd_ne c] at e ⊢; exact er'.sub b o e
    f0 := er.f0.trans x1
    h0 := fun b o h n m => by
      by_cases c : b = d
      · subst c; rw [upd_same, ← hH]; exact er.h0 b o h n m
      · rw [upd_ne c]
        refine er'.h0 b o (by show upd H d _ b = some o; rw [upd_ne c]; exact er.h0 b o h n m) (fun z => n (npa z)) (fun z => ?_)
        rcases nfr z with q | q
        · rw [q] at h; cases h
        · exact m q
    live := fun b h => by
      by_cases c : b = d
      · subst c; rw [upd_same]; simp
      · rw [upd_ne c]; exact er'.live b (lv b h)
    nf := fun b h n m => by
      have hb := er.nf b h n m
      have c : b ≠ d := fun z => by rw [z, hd] at hb; cases hb
      rw [upd_ne c]
      refine er'.nf b (lv b h) (by show upd F d _ b = none; rw [upd_ne c]; exact hb) (fun z => ?_)
      rcases nfr z with q | q
      · exact h q
      · exact m q
    slot := fun i s e => by
      have hs := er'.slot i s e
      have own : ∀ (a : Addr) (x : D), OwnR K cm F' H' a x → OwnR K cm (upd F' d u) (upd H' d u) a x := fun a x r => by
        have c : a ≠ d := fun z => by have := r.1; rw [z, hF'] at this; cases this
        exact r.mono x2 (upd_ne c) (by rw [upd_ne c]; exact r.1)
      cases s with
      | no => trivial
      | val x => obtain ⟨v, e1, r⟩ := hs; exact ⟨v, e1, r.ext x2⟩
      | own x =>
        obtain ⟨a, e1, q, r⟩ := hs
        refine ⟨a, e1, ?_, own a x r⟩
        rcases q with q | q
        · refine .inl ?_
          cases z : G.H0 a with
          | none => rfl
          | some o => exact absurd q (lv a (by rw [z]; simp))
        · exact nfr q
      | par x => obtain ⟨a, e1, q, r⟩ := hs; exact ⟨a, e1, ⟨q.1, npa q.2⟩, own a x r⟩
    inj := er'.inj
    len := er'.len
    tp := fun b xs e => by
      by_cases c : b = d
      · subst c; rw [upd_same] at e; exact absurd (Option.some.inj e) (ht xs)
      · rw [upd_ne c] at e ⊢; exact er'.tp b xs e }, x1, x2⟩
end
end Pd

/-! Pd17: for x in d, d.values(), d.items(). -/
namespace Pd
open PySem PySem.Spec L2
open PyProof.Rows (envOfC)
/-- an expression that says which dict it is, locked or not -/
def PAd (X : Cx) (cm : Str → Option Addr) (e : Expr) (fa : Env → Option D) : Prop := ∃ td : TE, PE X e td ∧ ∀ (G : Gd) (F H : Hp) (σ : St) (ρ : Env) (dd : D), ER X.K cm G F H σ ρ → fa ρ = some dd →
  ∃ d : Addr, Rp X.K cm F dd (.ref d) ∧ ∀ H1 : Hp, (∀ b o, F b = some o → hard o → H1 b = some o) → ∀ Q : VK, Q (.ref d) H1 → td σ H1 Q
def isDict : D → Bool
  | .dk _ => true
  | .dt _ => true
  | _ => false
def nameAd (i : Nat) : Env → Option D := fun ρ => match ρ[i]? with
  | some (.val d) => if isDict d = true then some d else none
  | _ => none
def fldAd (i : Nat) (c f : Str) : Env → Option D := fun ρ => match ρ[i]? with
  | some (.val (.ins c' fs)) => if c' = c then (fs.lookup f).bind fun d => if isDict d = true then some d else none else none
  | _ => none
theorem dict_ref {K : PySem.W.Frag} {cm : Str → Option Addr} {F : Hp} {d : D} {v : V} (h : Rp K cm F d v) (e : isDict d = true) : ∃ a, v = .ref a := by
  cases h with
  | dk _ _ _ => exact ⟨_, rfl⟩
  | dt _ _ _ => exact ⟨_, rfl⟩
  | _ => cases e
section
variable {X : Cx} {cm : Str → Option Addr} {W : WX} {pos p : Pos} {e : Expr} {x f : Str} {fa : Env → Option D}
theorem pad_name (i : Nat) (hN : X.N[i]? = some x := by rfl) (hv : Vis X.env.scope x := by first | exact Or.inl rfl | exact Or.inr (Or.inl rfl) | exact Or.inr (Or.inr rfl)) (hd : (x == ("__debug__" : Str)) = false := by decide) (hcd : (x == ("__classdict__" : Str)) = false := by decide) : PAd X cm (.Name x pos) (nameAd i) := by
  refine ⟨_, pe_var hN hv hd hcd, fun G F H σ ρ dd er h => ?_⟩
  unfold nameAd at h
  cases q : ρ[i]? with
  | none => rw [q] at h; cases h
  | some s =>
    rw [q] at h
    cases s with
    | val d =>
      have h : (if isDict d = true then some d else none) = some dd := h
      by_cases c : isDict d = true
      · rw [if_pos c] at h; cases h
        obtain ⟨v, e1, r⟩ := er.slot i _ q
        obtain ⟨a, rfl⟩ := dict_ref r c
        exact ⟨a, r, fun H1 _ Q k => ⟨_, e1, k⟩⟩
      · rw [if_neg c] at h; cases h
    | _ => cases h
theorem pad_fld {xp : Pos} (i : Nat) (c : Str) (hc : ∀ C, cm c = some C → Cls X.K C ∧ NoAttr X.K C f) (hN : X.N[i]? = some x := by rfl) (hv : Vis X.env.scope x := by first | exact Or.inl rfl | exact Or.inr (Or.inl rfl) | exact Or.inr (Or.inr rfl)) (hd : (x == ("__debug__" : Str)) = false := by decide) (hcd : (x == ("__classdict__" : Str)) = false := by decide)
    (hb : attributeBase (.Name x xp) f X.env (eval (.Name x xp) X.env) = eval (.Name x xp) X.env := by rfl) : PAd X cm (.Attribute (.Name x xp) f pos) (fldAd i c f) := by
  refine ⟨_, pe_fld (pe_var hN hv hd hcd) hb, fun G F H σ ρ dd er h => ?_⟩
  unfold fldAd at h
  cases q : ρ[i]? with
  | none => rw [q] at h; cases h
  | some s =>
    rw [q] at h
    cases s with
    | val d =>
      cases d with
      | ins c' fs =>
        have h : (if c' = c then (fs.lookup f).bind fun d => if isDict d = true then some d else none else none) = some dd := h
        by_cases c1 : c' = c
        · have h9 : ((fs.lookup f).bind fun d => if isDict d = true then some d else none) = some dd := by rw [if_pos c1] at h; exact h
          subst c1
          cases q2 : fs.lookup f with
          | none => rw [q2] at h9; cases h9
          | some d =>
            rw [q2] at h9
            have h : (if isDict d = true then some d else none) = some dd := h9
            by_cases c2 : isDict d = true
            · rw [if_pos c2] at h; cases h
              obtain ⟨v, e1, r⟩ := er.slot i _ q
              cases r with
              | @ins a C dx _ vs _ h1 h2 h3 h4 =>
                obtain ⟨u, h5, h6⟩ := lookup_rps h3 h4 q2
                obtain ⟨b, rfl⟩ := dict_ref h6 c2
                exact ⟨b, h6, fun H1 hh Q k => ⟨_, e1, a, C, dx, vs, _, rfl, hh _ _ h2 trivial, (hc C h1).1, (hc C h1).2, h5, k⟩⟩
            · rw [if_neg c2] at h; cases h
        · rw [if_neg c1] at h; cases h
      | _ => cases h
    | _ => cases h
/-! ### what a walk over a locked dict yields -/
structure DWalk (K : PySem.W.Frag) (cm : Str → Option Addr) (wi : TE → TI) (F1 : Hp) (u : HO) (ds : List D) : Prop where
  ex : ∃ J : Addr → Obj → It, (∀ (td : TE) (σ : St) (H : Hp) (d : Addr) (o : Obj) (R : It → Hp → Prop), H d = some (.frz o u) → (∀ Q : VK, Q (.ref d) H → td σ H Q) → R (J d o) H → wi td σ H R) ∧
    ∀ (d : Addr) (o : Obj) (i : Nat) (F H : Hp), Ext F1 F → Same F H → TF F H → H d = some (.frz o u) → (∀ x, ds[i]? = some x → (J d o).go i H ∧ ∀ v H2, (J d o).yld i H v H2 → ∃ F2, Grow F H F2 H2 ∧ Rp K cm F2 x v) ∧ (ds.length ≤ i → (J d o).stop i H)
def kD : Key → D
  | .inl i => .int i
  | .inr x => .str x
theorem kD_rp {K : PySem.W.Frag} {F : Hp} : ∀ k : Key, Rp K cm F (kD k) (kV k)
  | .inl i => .int i
  | .inr x => .str x
theorem kDs_rps {K : PySem.W.Frag} {F : Hp} : ∀ ks : List Key, Rps K cm F (ks.map kD) (ks.map kV)
  | [] => .nil
  | k :: ks => .cons (kD_rp k) (kDs_rps ks)
theorem drel_at {κ : Type} {K : PySem.W.Frag} {F : Hp} {kvs : List (κ × D)} {ks : List (κ × V)} (h : DRel K cm F kvs ks) {i : Nat} {q : κ × D} (e : kvs[i]? = some q) : ∃ v, ks[i]? = some (q.1, v) ∧ Rp K cm F q.2 v := by
  have h1 : (kvs.map (·.2))[i]? = some q.2 := by rw [List.getElem?_map, e]; rfl
  obtain ⟨v, h2, r⟩ := h.2.getD h1
  rw [List.getElem?_map] at h2
  cases z : ks[i]? with
  | none => rw [z] at h2; cases h2
  | some p =>
    rw [z] at h2
    have h3 : (ks.map (·.1))[i]? = some p.1 := by rw [List.getElem?_map, z]; rfl
    rw [h.1, List.getElem?_map, e] at h3
    have e1 : q.1 = p.1 := Option.some.inj h3
    have e2 : p.2 = v := Option.some.inj h2
    exact ⟨v, by rw [e1, ← e2], r⟩
theorem DRel.ext {κ : Type} {K : PySem.W.Frag} {F F' : Hp} {kvs : List (κ × D)} {ks : List (κ × V)} (h : DRel K cm F kvs ks) (x : Ext F F') : DRel K cm F' kvs ks := ⟨h.1, h.2.ext x⟩
theorem dlen {κ : Type} {K : PySem.W.Frag} {F : Hp} {kvs : List (κ × D)} {ks : List (κ × V)} (h : DRel K cm F kvs ks) : ks.length = kvs.length := by have := congrArg List.length h.1; simpa using this
theorem dw_keys {K : PySem.W.Frag} {F1 : Hp} {kvs : List (Key × D)} {ks : List (Key × V)} (h : DRel K cm F1 kvs ks) : DWalk K cm iKeys F1 (.dK ks) (kvs.map fun q => kD q.1) := ⟨⟨fun d o => Itk d o ks, fun td σ H d o R e ht r => ht _ ⟨d, o, rfl, .inl ⟨ks, e, r⟩⟩, fun d o i F H xf s tf e => ⟨fun x hx => by
  rw [List.getElem?_map] at hx
  cases z : kvs[i]? with
  | none => rw [z] at hx; cases hx
  | some q =>
    rw [z] at hx; cases hx
    obtain ⟨v, h1, _⟩ := drel_at h z
    have hl : i < ks.length := (List.getElem?_eq_some_iff.mp h1).1
    refine ⟨⟨e, hl⟩, fun w H2 hy => ?_⟩
    obtain ⟨rfl, k, v2, h2, rfl⟩ := hy
    rw [h1] at h2; cases h2
    exact ⟨F, Grow.refl s, kD_rp _⟩, fun hl => ⟨e, by rw [dlen h]; simpa using hl⟩⟩⟩⟩
theorem dw_keysT {K : PySem.W.Frag} {F1 : Hp} {kvs : List (List Key × D)} {ks : List (List Key × V)} (h : DRel K cm F1 kvs ks) : DWalk K cm iKeys F1 (.dT ks) (kvs.map fun q => .tup (q.1.map kD)) := ⟨⟨fun d o => Itkt d o ks, fun td σ H d o R e ht r => ht _ ⟨d, o, rfl, .inr ⟨ks, e, r⟩⟩, fun d o i F H xf s tf e => ⟨fun x hx => by
  rw [List.getElem?_map] at hx
  cases z : kvs[i]? with
  | none => rw [z] at hx; cases hx
  | some q =>
    rw [z] at hx; cases hx
    obtain ⟨v, h1, _⟩ := drel_at h z
    have hl : i < ks.length := (List.getElem?_eq_some_iff.mp h1).1
    refine ⟨⟨e, hl⟩, fun w H2 hy => ?_⟩
    obtain ⟨rfl, k, v2, b, h2, rfl, h3⟩ := hy
    rw [h1] at h2; cases h2
    exact ⟨F, Grow.refl s, .tup (tf _ _ h3) (kDs_rps _)⟩, fun hl => ⟨e, by rw [dlen h]; simpa using hl⟩⟩⟩⟩
theorem dw_vals {K : PySem.W.Frag} {F1 : Hp} {kvs : List (Key × D)} {ks : List (Key × V)} (h : DRel K cm F1 kvs ks) : DWalk K cm iVals F1 (.dK ks) (kvs.map fun q => q.2) := ⟨⟨fun d o => Itd d o ks, fun td σ H d o R e ht r => ht _ ⟨d, o, ks, rfl, e, r⟩, fun d o i F H xf s tf e => ⟨fun x hx => by
  rw [List.getElem?_map] at hx
  cases z : kvs[i]? with
  | none => rw [z] at hx; cases hx
  | some q =>
    rw [z] at hx; cases hx
    obtain ⟨v, h1, r⟩ := drel_at (h.ext xf) z
    have hl : i < ks.length := (List.getElem?_eq_some_iff.mp h1).1
    refine ⟨⟨e, hl⟩, fun w H2 hy => ?_⟩
    obtain ⟨rfl, k, h2⟩ := hy
    rw [h1] at h2; cases h2
    exact ⟨F, Grow.refl s, r⟩, fun hl => ⟨e, by rw [dlen h]; simpa using hl⟩⟩⟩⟩
theorem dw_items {K : PySem.W.Frag} {F1 : Hp} {kvs : List (Key × D)} {ks : List (Key × V)} (h : DRel K cm F1 kvs ks) : DWalk K cm iItems F1 (.dK ks) (kvs.map fun q => .tup [kD q.1, q.2]) := ⟨⟨fun d o => Iti d o ks, fun td σ H d o R e ht r => ht _ ⟨d, o, ks, rfl, e, r⟩, fun d o i F H xf s tf e => ⟨fun x hx => by
  rw [List.getElem?_map] at hx
  cases z : kvs[i]? with
  | none => rw [z] at hx; cases hx
  | some q =>
    rw [z] at hx; cases hx
    obtain ⟨v, h1, r⟩ := drel_at (h.ext xf) z
    have hl : i < ks.length := (List.getElem?_eq_some_iff.mp h1).1
    refine ⟨⟨e, hl⟩, fun w H2 hy => ?_⟩
    obtain ⟨T, k, v2, h2, rfl, h3, rfl⟩ := hy
    rw [h1] at h2; cases h2
    have g : Grow F H (upd F T (.tup [kV q.1, v])) (upd H T (.tup [kV q.1, v])) := Grow.new s h3
    exact ⟨_, g, .tup upd_same (.cons (kD_rp _) (.cons (r.ext (Ext.of g.f)) .nil))⟩, fun hl => ⟨e, by rw [dlen h]; simpa using hl⟩⟩⟩⟩
end
end Pd

/-! Pd18: the for statement over a dict. -/
namespace Pd
open PySem PySem.Spec L2
open PyProof.Rows (envOfC)
def noX : Option (SR × Env) → Option (SR × Env)
  | some (.exc _, _) => none
  | some (.ret (.own _), _) => none
  | x => x
theorem noX_eq {o : Option (SR × Env)} {r : SR} {ρ : Env} (h : noX o = some (r, ρ)) : o = some (r, ρ) ∧ (∀ x, r ≠ .exc x) ∧ ∀ d, r ≠ .ret (.own d) := by
  match o, h with
  | some (.nx, _), h => cases h; exact ⟨rfl, (fun x z => by cases z), fun x z => by cases z⟩
  | some (.brk, _), h => cases h; exact ⟨rfl, (fun x z => by cases z), fun x z => by cases z⟩
  | some (.cnt, _), h => cases h; exact ⟨rfl, (fun x z => by cases z), fun x z => by cases z⟩
  | some (.ret (.val s), _), h => cases h; exact ⟨rfl, (fun x z => by cases z), fun x z => by cases z⟩
  | some (.ret .no, _), h => cases h; exact ⟨rfl, (fun x z => by cases z), fun x z => by cases z⟩
  | some (.ret (.par s), _), h => cases h; exact ⟨rfl, (fun x z => by cases z), fun x z => by cases z⟩
/-- what a way of walking reads of a dict -/
def DMode (K : PySem.W.Frag) (cm : Str → Option Addr) (wi : TE → TI) (mo : D → Option (List D)) : Prop :=
  ∀ (F : Hp) (dd : D) (ds : List D) (d : Addr), mo dd = some ds → Rp K cm F dd (.ref d) → ∃ u, (F d = some u ∨ ∃ o, F d = some (.frz o u)) ∧ Mut (some u) ∧ ¬ hard u ∧ (∀ xs, u ≠ .tup xs) ∧ (∀ o, un (.frz o u) = un u) ∧ ∀ F1, Ext F F1 → DWalk K cm wi F1 u ds
def keysM : D → Option (List D)
  | .dk kvs => some (kvs.map fun q => kD q.1)
  | .dt kvs => some (kvs.map fun q => .tup (q.1.map kD))
  | _ => none
def valsM : D → Option (List D)
  | .dk kvs => some (kvs.map fun q => q.2)
  | _ => none
def itemsM : D → Option (List D)
  | .dk kvs => some (kvs.map fun q => .tup [kD q.1, q.2])
  | _ => none
section
variable {K : PySem.W.Frag} {cm : Str → Option Addr}
theorem rdK_cases {F : Hp} {d : Addr} {ks : List (Key × V)} (h : RdK F d ks) : F d = some (.dK ks) ∨ ∃ o, F d = some (.frz o (.dK ks)) := by
  obtain ⟨o, ho, hu⟩ := h
  rcases un_dK hu with rfl | ⟨ob, rfl⟩
  · exact .inl ho
  · exact .inr ⟨ob, ho⟩
theorem rdT_cases {F : Hp} {d : Addr} {ks : List (List Key × V)} (h : RdT F d ks) : F d = some (.dT ks) ∨ ∃ o, F d = some (.frz o (.dT ks)) := by
  obtain ⟨o, ho, hu⟩ := h
  rcases un_dT hu with rfl | ⟨ob, rfl⟩
  · exact .inl ho
  · exact .inr ⟨ob, ho⟩
theorem dm_keys : DMode K cm iKeys keysM := by
  intro F dd ds d h r
  cases r with
  | @dk _ ks kvs h1 h2 h3 => cases h; exact ⟨.dK ks, rdK_cases h1, trivial, (fun z => z), (fun xs z => by cases z), fun o => rfl, fun F1 x => dw_keys (DRel.ext ⟨h2, h3⟩ x)⟩
  | @dt _ ks kvs h1 h2 h3 => cases h; exact ⟨.dT ks, rdT_cases h1, trivial, (fun z => z), (fun xs z => by cases z), fun o => rfl, fun F1 x => dw_keysT (DRel.ext ⟨h2, h3⟩ x)⟩
  | _ => cases h
theorem dm_vals : DMode K cm iVals valsM := by
  intro F dd ds d h r
  cases r with
  | @dk _ ks kvs h1 h2 h3 => cases h; exact ⟨.dK ks, rdK_cases h1, trivial, (fun z => z), (fun xs z => by cases z), fun o => rfl, fun F1 x => dw_vals (DRel.ext ⟨h2, h3⟩ x)⟩
  | _ => cases h
theorem dm_items : DMode K cm iItems itemsM := by
  intro F dd ds d h r
  cases r with
  | @dk _ ks kvs h1 h2 h3 => cases h; exact ⟨.dK ks, rdK_cases h1, trivial, (fun z => z), (fun xs z => by cases z), fun o => rfl, fun F1 x => dw_items (DRel.ext ⟨h2, h3⟩ x)⟩
  | _ => cases h
end
section
variable {X : Cx} {cm : Str → Option Addr} {W : WX} {pos : Pos} {tg e iter : Expr} {body : List Stmt} {fa : Env → Option D} {ts : List Nat} {gs : GS} {b : SM} {wi : TE → TI} {mo : D → Option (List D)}
/-- the loop over the locked dict -/
theorem forD_core {td : TE} {g : TG} {tb : TS} {u : HO} {o : Obj} {d : Addr} {ds : List D} {G1 : Gd} {F1 H1 : Hp} {σ1 : St} {ρ1 ρ' : Env} {r : SR} (jg : JG X cm ts g gs) (jb : Jst X cm W tb b) (dw : DWalk X.K cm wi F1 u ds) (er : ER X.K cm G1 F1 H1 σ1 ρ1)
    (ex : ∀ F' H' σ' ρ', ER X.K cm G1 F' H' σ' ρ' → H' d = some (.frz o u)) (ht : ∀ Q : VK, Q (.ref d) H1 → td σ1 H1 Q) (hk : loopF gs b ds ρ1 = some (r, ρ')) (D : Ends) (hD : SPost X.K cm G1 W F1 D r ρ') : tFor (wi td) g tb D σ1 H1 := by
  obtain ⟨J, w1, w2⟩ := dw.ex
  refine w1 td σ1 H1 d o _ (ex _ _ _ _ er) ht ?_
  refine ⟨fun i m σ H => m = ds.length - i ∧ i ≤ ds.length ∧ ∃ F ρ, ER X.K cm G1 F H σ ρ ∧ Ext F1 F ∧ loopF gs b (ds.drop i) ρ = some (r, ρ'), ⟨ds.length, by simp, Nat.zero_le _, F1, ρ1, er, Ext.refl F1, hk⟩, ?_⟩
  rintro i m σ H ⟨rfl, hi, F, ρ, er, x, hk⟩
  obtain ⟨v1, v2⟩ := w2 d o i F H x er.sub er.tp (ex _ _ _ _ er)
  by_cases hlt : i < ds.length
  · have hd : ds[i]? = some ds[i] := List.getElem?_eq_getElem hlt
    obtain ⟨go, yl⟩ := v1 _ hd
    rw [List.drop_eq_getElem_cons hlt] at hk
    have hk : ((gs ds[i] ρ).bind fun ρ1 => match b ρ1 with
      | some (SR.nx, ρ2) => loopF gs b (ds.drop (i + 1)) ρ2
      | some (SR.cnt, ρ2) => loopF gs b (ds.drop (i + 1)) ρ2
      | some (SR.brk, ρ2) => some (SR.nx, ρ2)
      | x => x) = some (r, ρ') := hk
    refine .inr ⟨go, fun σ' H' => ∃ F' ρ'', ER X.K cm G1 F' H' σ' ρ'' ∧ Ext F1 F' ∧ loopF gs b (ds.drop (i + 1)) ρ'' = some (r, ρ'), fun σ' H' h => ⟨ds.length - (i + 1), by omega, rfl, by omega, h⟩, fun v H' hy => ?_⟩
    obtain ⟨F', gr, rv⟩ := yl v H' hy
    have er' := er.grow gr
    have x' : Ext F1 F' := x.trans (Ext.of gr.f)
    cases q : gs ds[i] ρ with
    | none => rw [q] at hk; cases hk
    | some ρ2 =>
      rw [q] at hk
      have hk : (match b ρ2 with
        | some (SR.nx, ρ2) => loopF gs b (ds.drop (i + 1)) ρ2
        | some (SR.cnt, ρ2) => loopF gs b (ds.drop (i + 1)) ρ2
        | some (SR.brk, ρ2) => some (SR.nx, ρ2)
        | x => x) = some (r, ρ') := hk
      refine jg G1 F' H' σ ρ ρ2 ds[i] v er' rv q _ fun σ2 er2 _ _ => ?_
      cases q2 : b ρ2 with
      | none => rw [q2] at hk; cases hk
      | some pr =>
        obtain ⟨r3, ρ3⟩ := pr
        rw [q2] at hk
        refine jb G1 F' H' σ2 ρ2 r3 ρ3 er2 q2 _ fun F3 H3 σ3 er3 x3 => ?_
        cases r3 with
        | nx => exact ⟨F3, ρ3, er3, x'.trans x3, hk⟩
        | cnt => exact ⟨F3, ρ3, er3, x'.trans x3, hk⟩
        | brk => cases hk; exact hD F3 H3 σ3 er3 (x'.trans x3)
        | exc z => cases hk; exact hD F3 H3 σ3 er3 (x'.trans x3)
        | ret s =>
          cases hk
          have := hD F3 H3 σ3 er3 (x'.trans x3)
          cases s <;> exact this
  · have e0 : i = ds.length := by omega
    subst e0
    rw [List.drop_length] at hk
    cases hk
    exact .inl ⟨v2 (Nat.le_refl _), hD F H σ er x⟩
theorem psd_forD (hm : DMode X.K cm wi mo) (hpi : ∀ td : TE, PE X e td → PI X tg iter (wi td)) (hp : PassesOwn (model X.prog X.w) X.A X.env X.xe) (hc : X.calm = true) (ha : PAd X cm e fa) (hg : PGd X cm tg ts gs) (hb : PSsd X cm W body b)
    (hs : ∀ x, foldedSetIterable iter X.env x = pure x := by intro _; rfl) : PSd X cm W (.For tg iter body [] pos) (fun ρ => (fa ρ).bind fun dd => (mo dd).bind fun ds => noX (loopF gs b ds ρ)) := by
  obtain ⟨td, pe, had⟩ := ha
  obtain ⟨g, pg, jg⟩ := hg
  obtain ⟨tb, pb, jb⟩ := hb
  have base := ps_for (pos := pos) hp hc (hpi td pe) pg pb hs
  refine ⟨fun D σ H => tFor (wi td) g tb D σ H ∨ tLock (tFor (wi td) g tb) D σ H, ⟨fun pins s σ H D I h => h.elim (base.run pins s σ H D I) ((ps_lock base).run pins s σ H D I)⟩, ?_⟩
  intro G F H σ ρ r ρ' er hk D hD
  have hk : ((fa ρ).bind fun dd => (mo dd).bind fun ds => noX (loopF gs b ds ρ)) = some (r, ρ') := hk
  cases q1 : fa ρ with
  | none => rw [q1] at hk; cases hk
  | some dd =>
    rw [q1] at hk
    have hk : (mo dd).bind (fun ds => noX (loopF gs b ds ρ)) = some (r, ρ') := hk
    cases q2 : mo dd with
    | none => rw [q2] at hk; cases hk
    | some ds =>
      rw [q2] at hk
      obtain ⟨hk, nx⟩ := noX_eq (show noX (loopF gs b ds ρ) = some (r, ρ') from hk)
      obtain ⟨d, rd, ht⟩ := had G F H σ ρ dd er q1
      obtain ⟨u, hu, mu, nh, nt, un1, dw⟩ := hm F dd ds d q2 rd
      rcases hu with hu | ⟨o, hu⟩
      · -- not locked as yet
        refine .inr ⟨d, u, er.sub d u hu, mu, fun ob => ?_⟩
        have hfz : ∀ xs, HO.frz ob u ≠ .tup xs := fun xs z => by cases z
        have er1 := er.lock (ob := ob) hu (un1 ob) hfz
        have xF : Ext F (upd F d (.frz ob u)) := fun a o e => by
          by_cases c : a = d
          · subst c; rw [hu] at e; cases e; exact ⟨_, upd_same, un1 ob⟩
          · exact ⟨o, by rw [upd_ne c]; exact e, rfl⟩
        refine forD_core jg jb (dw _ xF) er1 (fun F' H' σ' ρ' e' => er.locked hu e') (fun Q k => ht _ (fun b o hb hh => ?_) Q k) hk _ ?_
        · by_cases c : b = d
          · subst c
            rw [hu] at hb; cases hb
            exact absurd hh nh
          · rw [upd_ne c]; exact er.sub b o hb
        · intro F' H' σ' er' x'
          obtain ⟨eu, x1, x2⟩ := er.unlock hu (un1 ob) nt er'
          have hl := er.locked hu er'
          have hz := hD _ _ σ' eu x1
          cases r with
          | nx => exact ⟨hl, hz⟩
          | brk => exact ⟨hl, hz⟩
          | cnt => exact ⟨hl, hz⟩
          | exc z => exact absurd rfl (nx.1 z)
          | ret s =>
            cases s with
            | no => exact hz
            | par _ => exact hz
            | val dv => exact fun v rv => ⟨hl, hz v (rv.ext x2)⟩
            | own dv => exact absurd rfl (nx.2 dv)
      · -- locked already
        have er1 := er.inner
        have hH := er.sub d _ hu
        refine .inl (forD_core jg jb (dw _ (Ext.refl F)) er1 (fun F' H' σ' ρ'' e' => e'.kept hH fun i s e os z => ?_) (fun Q k => ht _ (fun b o hb _ => er.sub b o hb) Q k) hk D ?_)
        · have hs := er.slot i s e
          cases s with
          | no => cases os
          | val _ => cases os
          | own x => obtain ⟨a, e1, _, rr⟩ := hs; rw [z] at e1; have : d = a := V.ref.inj (Option.some.inj (Option.some.inj e1)); subst this; have := rr.1; rw [hu] at this; cases this
          | par x => obtain ⟨a, e1, _, rr⟩ := hs; rw [z] at e1; have : d = a := V.ref.inj (Option.some.inj (Option.some.inj e1)); subst this; have := rr.1; rw [hu] at this; cases this
        · intro F' H' σ' er' x'
          have hz := hD F' H' σ' (er.outer er') x'
          cases r with
          | nx => exact hz
          | brk => exact hz
          | cnt => exact hz
          | exc z => exact absurd rfl (nx.1 z)
          | ret s =>
            cases s with
            | no => exact hz
            | par _ => exact hz
            | val dv => exact hz
            | own dv => exact absurd rfl (nx.2 dv)
end
end Pd

/-! Pd31: own exception classes with an __init__: class made over B0 (its __new__), B1 (its __init__). -/
namespace Pd.Xc
open PySem PySem.W PySem.Calls PySem.Spec
open Builtin Builtin.ObjectAttr
/-- what stands above the own classes -/
structure Above (bm : List Value) (B0 : String) : Prop where
  b0 : bm.contains (.type B0) = true
  na : bm.contains (.type "AttributeError") = false
  nn : bm.contains (.type "NameError") = false
section
variable {M : Model} {A : Around} {E : Value → Shared → Prop} {hh : Heap} {gg : Array GenState} {dr : Drawn} {tt : Nat} {os : OsState}
variable {nm q : Str} {C N : Addr} {bs bm bmB : List Value} {hdct : Bool} {sn : List Str} {sub : List Value} {ab : Bool} {col : Option Bool} {dd : Option Addr} {k0 k1 k2 k3 k5 : Option Value} {B0 newId initId : String}
theorem newChk (F : ExcBaseFacts B0 newId initId bmB) (av : Above bm B0) {us : List Value} {Q : Unit → Shared → Prop}
    (hC : hh.get? C = some (excClassObj nm q C N bs bm hdct sn sub ab col dd k0 k1 k2 k3 k5 newId)) (hq : Q () ⟨hh, gg, dr, tt, os⟩) : wpAny M A (checkBuiltinCall newId ⟨.ref C :: us, []⟩) Q E ⟨hh, gg, dr, tt, os⟩ := by
  have c0 : (Value.ref C :: bm).contains (.type B0) = true := by rw [List.contains_cons, av.b0]; exact Bool.or_true _
  have st := F.noStar
  simp only [checkBuiltinCall, F.newRow, F.newKind, F.newSplit]
  repeat (first | refine wpAny_loadPart_at hC ?_ | (refine wpAny_isSubtype_exc hC ?_; rw [c0]) | refine wpAny_staticBase_exc hC ?_ | refine wpAny_madeBy_exc hC ?_ | simp only [bne_self_eq_false, if_false, Bool.false_eq_true] | wp_step)
  exact hq
end
section
variable {prog : Program} {w : World} {A : Around} {E : Value → Shared → Prop} {R : Result → Shared → Prop} {hh : Heap} {gg : Array GenState} {dr : Drawn} {tt : Nat} {os : OsState}
variable {nm q : Str} {C N : Addr} {bs bm bmB : List Value} {hdct : Bool} {sn : List Str} {sub : List Value} {ab : Bool} {col : Option Bool} {dd : Option Addr} {k0 k1 k2 k3 k5 : Option Value} {B0 newId initId : String}
theorem newRun (F : ExcBaseFacts B0 newId initId bmB) (av : Above bm B0) {us : List Value} (hC : hh.get? C = some (excClassObj nm q C N bs bm hdct sn sub ab col dd k0 k1 k2 k3 k5 newId))
    (hq : R (.ok (.ret (.ref (hh.objs.size + 1)))) ⟨(hh.push (W.kdv_tup us)).push (HandSPX.excO C hh.objs.size), gg, dr, tt, os⟩) (hz : us.length ≤ sizeLine) :
    codeAny (model prog w) A (.builtin newId ⟨.ref C :: us, []⟩) R ⟨hh, gg, dr, tt, os⟩ := by
  have en := F.ends
  have c0 : (Value.ref C :: bm).contains (.type B0) = true := by rw [List.contains_cons, av.b0]; exact Bool.or_true _
  have c1 : (Value.ref C :: bm).contains (.type "AttributeError") = false := by rw [List.contains_cons, av.na] <;> rfl
  have c2 : (Value.ref C :: bm).contains (.type "NameError") = false := by rw [List.contains_cons, av.nn] <;> rfl
  refine codeAny_builtinAt F.entry ?_
  unfold Builtin.«BaseException.__new__»
  refine wpAt_bind ?_
  show wpAt _ _ _ (stack >>= _) _ _ _
  refine wpAt_bind (wpAt_stack fun p below => wpAt_of_wpAny ?_)
  wp_walk
  refine wpAt_of_wpAny ?_
  rw [F.owner]
  repeat (first | with_reducible refine wpAny_madeHere_exc F.canon hC ?_ | with_reducible refine wpAny_loadPart_at hC ?_ | (with_reducible refine wpAny_isSubtype_exc hC ?_; first | rw [c0] | rw [c1] | rw [c2]) | wp_step)
  show R _ _
  rw [Heap.size_push]
  exact hq
theorem clsRun (F : ExcBaseFacts B0 newId initId bmB) (av : Above bm B0) {us : List Value} {fI : Addr} {Q : Fin → Shared → Prop} (hC : hh.get? C = some (excClassObj nm q C N bs bm hdct sn sub ab col dd k0 k1 k2 k3 k5 newId))
    (hi : W.Looks (model prog w) hh (typeLookup (.ref C) "__init__") (some (.ref fI))) (hb : ∀ self, W.Looks (model prog w) hh (bindSpecial (.ref fI) self) (.ref fI, [self])) (hz : us.length ≤ sizeLine)
    (hq : codeAny (model prog w) A (.call (.ref fI) ⟨.ref (hh.objs.size + 1) :: us, []⟩)
      (fun r s' => match r with | .ok (.ret v) => v = .none ∧ Q (.done (.ret (.ref (hh.objs.size + 1)))) s' | .ok _ => False | .error e => E e s')
      ⟨(hh.push (W.kdv_tup us)).push (HandSPX.excO C hh.objs.size), gg, dr, tt, os⟩) :
    wpAny (model prog w) A (Builtin.«type.__call__» ⟨.ref C :: us, []⟩) Q E ⟨hh, gg, dr, tt, os⟩ := by
  repeat (first | with_reducible refine wpAny_loadPart_at hC ?_ | with_reducible refine wpAny_madeBy_exc hC ?_ | wp_step)
  refine codeAny_call_builtin_code (Code.quiet_builtin _ F.quiet) (newChk F av hC ?_)
  refine newRun F av hC ?_ hz
  show wpAny _ _ _ _ _ _
  have up : ∀ b o, hh.get? b = some o → ((hh.push (W.kdv_tup us)).push (HandSPX.excO C hh.objs.size)).get? b = some o := fun b o e => Heap.get?_push_of_some _ (Heap.get?_push_of_some _ e)
  have hC1 := up _ _ hC
  have hg : ((hh.push (W.kdv_tup us)).push (HandSPX.excO C hh.objs.size)).get? (hh.objs.size + 1) = some (HandSPX.excO C hh.objs.size) := by heap_get
  have cC : (Value.ref C :: bm).contains (.ref C) = true := by simp
  have i1 := hi.keeps up
  have b1 := (hb (.ref (hh.objs.size + 1))).keeps up
  unfold isInstance
  repeat (first | with_reducible refine wpAny_loadPart_at hg ?_ | (with_reducible refine wpAny_isSubtype_exc hC1 ?_; rw [cC]) | wp_step)
  show wpAny _ _ (typeLookup (.ref C) _) _ _ _
  refine i1.at ?_
  refine wpAny_holding (wpAny_bind (b1.at ?_))
  refine wpAny_bind (wpAny_call (codeAny_mono hq fun r s' z => ?_))
  rcases r with e | (v | _ | _ | _) <;> first | exact z | exact z.elim | skip
  obtain ⟨rfl, z⟩ := z
  first
    | exact wpAny_pure (wpAny_pure z)
    | (wp_walk; exact z)
theorem callRun (F : ExcBaseFacts B0 newId initId bmB) (av : Above bm B0) {us : List Value} {fI : Addr} (hC : hh.get? C = some (excClassObj nm q C N bs bm hdct sn sub ab col dd k0 k1 k2 k3 k5 newId))
    (hi : W.Looks (model prog w) hh (typeLookup (.ref C) "__init__") (some (.ref fI))) (hb : ∀ self, W.Looks (model prog w) hh (bindSpecial (.ref fI) self) (.ref fI, [self])) (hz : us.length ≤ sizeLine)
    (hq : codeAny (model prog w) (A.under (.builtin "type.__call__" ⟨.ref C :: us, []⟩)) (.call (.ref fI) ⟨.ref (hh.objs.size + 1) :: us, []⟩) (W.InitBack (hh.objs.size + 1) R)
      ⟨(hh.push (W.kdv_tup us)).push (HandSPX.excO C hh.objs.size), gg, dr, tt, os⟩) :
    codeAny (model prog w) A (.call (.ref C) ⟨us, []⟩) R ⟨hh, gg, dr, tt, os⟩ := by
  have f1 := tc_lookup
  have f2 := tc_bind (.ref C)
  have hTy : (⟨hh, gg, dr, tt, os⟩ : Shared).TypeIs (.ref C) "type" := ⟨_, hC, rfl⟩
  refine codeAny_of_tree ?_
  show wpAny _ _ (callAny (.ref C) _) _ _ _
  repeat (any_goals (first | assumption | with_reducible refine wpAny_loadPart_at hC ?_ | wp_step))
  refine ⟨rfl, ?_⟩
  refine codeAny_call_builtin_at (Code.quiet_builtin _ (by decide +kernel)) entry_typeCall (wpAny_check_type_call_sub hC (clsRun F av hC hi hb hz ?_))
  refine codeAny_mono hq fun r s' z => ?_
  rcases r with e | (v | _ | _ | _) <;> exact z
end
end Pd.Xc

/-! Pd32: def __init__(self, x): super().__init__(x); self.f = x  of an own exception class, run. -/
namespace Pd.Xc
open PySem PySem.W PySem.Calls PySem.Spec
open Builtin Builtin.ObjectAttr
theorem store_KeyError : StoreFacts "KeyError" [.type "KeyError", .type "LookupError", .type "Exception", .type "BaseException", .type "object"] "object.__setattr__" "object" :=
  ⟨by kernel_rfl, .of (owner := "object") (n := "__setattr__") (by rw [typeLookup_type, builtinLookup_eq_fast]; kernel_rfl) (by decide +kernel) (by decide +kernel) (by decide +kernel) (by first | exact .inl (by decide +kernel) | exact .inr (by decide +kernel)) (by rw [isSubtype_type]; kernel_rfl),
   PySem.F.store_IndexError.entry, by decide +kernel, by decide +kernel, by decide +kernel, PySem.F.store_IndexError.args, fun self => by kernel_rfl⟩
theorem kx_KeyError : KxsFacts "KeyError" "KeyError.__init__" := ⟨by show builtinType _ = _; rw [builtinType_eq_fast]; kernel_rfl, by first | kernel_rfl | rfl⟩
/-- the facts of a base: B0 makes, B1 inits; bmB: its mro -/
structure Base (B0 newId B1 initId : String) (bmB : List Value) : Prop where
  mkB : ∃ bm0 i0, ExcBaseFacts B0 newId i0 bm0
  av : Above bmB B0
  cls : ∃ n1, PyProof.Rows.ExcClass B1 n1 initId
  kx : KxsFacts B1 initId
  st : StoreFacts B1 bmB "object.__setattr__" "object"
  be : bmB.contains (.type "BaseException") = true
  obj : bmB.contains (.type B1) = true
theorem base_ValueError : Base "ValueError" "ValueError.__new__" "ValueError" "ValueError.__init__" [.type "ValueError", .type "Exception", .type "BaseException", .type "object"] :=
  ⟨⟨_, _, PySem.F.excBase_ValueError⟩, ⟨by decide +kernel, by decide +kernel, by decide +kernel⟩, ⟨_, PyProof.Rows.excClass_ValueError⟩, kxs_ValueError, PySem.F.store_ValueError, by decide +kernel, by decide +kernel⟩
theorem base_KeyError : Base "LookupError" "LookupError.__new__" "KeyError" "KeyError.__init__" [.type "KeyError", .type "LookupError", .type "Exception", .type "BaseException", .type "object"] :=
  ⟨⟨_, _, PySem.F.excBase_LookupError⟩, ⟨by decide +kernel, by decide +kernel, by decide +kernel⟩, ⟨_, PyProof.Rows.excClass_KeyError⟩, kx_KeyError, store_KeyError, by decide +kernel, by decide +kernel⟩
theorem base_ArithmeticError : Base "ArithmeticError" "ArithmeticError.__new__" "ArithmeticError" "ArithmeticError.__init__" [.type "ArithmeticError", .type "Exception", .type "BaseException", .type "object"] :=
  ⟨⟨_, _, PySem.F.excBase_ArithmeticError⟩, ⟨by decide +kernel, by decide +kernel, by decide +kernel⟩, ⟨_, PyProof.Rows.excClass_ArithmeticError⟩, kxs_ArithmeticError, PySem.F.store_ArithmeticError, by decide +kernel, by decide +kernel⟩
theorem base_OverflowError : Base "OverflowError" "OverflowError.__new__" "OverflowError" "OverflowError.__init__" [.type "OverflowError", .type "ArithmeticError", .type "Exception", .type "BaseException", .type "object"] :=
  ⟨⟨_, _, PySem.F.excBase_OverflowError⟩, ⟨by decide +kernel, by decide +kernel, by decide +kernel⟩, ⟨_, PyProof.Rows.excClass_OverflowError⟩, kxs_OverflowError, PySem.F.store_OverflowError, by decide +kernel, by decide +kernel⟩
theorem base_IndexError : Base "IndexError" "IndexError.__new__" "IndexError" "IndexError.__init__" [.type "IndexError", .type "LookupError", .type "Exception", .type "BaseException", .type "object"] :=
  ⟨⟨_, _, PySem.F.excBase_IndexError⟩, ⟨by decide +kernel, by decide +kernel, by decide +kernel⟩, ⟨_, PyProof.Rows.excClass_IndexError⟩, kxs_IndexError, PySem.F.store_IndexError, by decide +kernel, by decide +kernel⟩
theorem base_RuntimeError : Base "RuntimeError" "RuntimeError.__new__" "RuntimeError" "RuntimeError.__init__" [.type "RuntimeError", .type "Exception", .type "BaseException", .type "object"] :=
  ⟨⟨_, _, PySem.F.excBase_RuntimeError⟩, ⟨by decide +kernel, by decide +kernel, by decide +kernel⟩, ⟨_, PyProof.Rows.excClass_RuntimeError⟩, kxs_RuntimeError, PySem.F.store_RuntimeError, by decide +kernel, by decide +kernel⟩
section
variable {prog : Program} {w : World} {A : Around} {E : Value → Shared → Prop} {s : Shared} {K : Frag} {C e cc : Addr} {bmB : List Value} {B0 newId B1 initId : String}
/-- self.f = v, no dict as yet -/
theorem firstField {hp : Heap} {gg : Array GenState} {dr : Drawn} {tk : Nat} {os : OsState} {name : Str} {v : Value} {t0 : Addr} {Q : Unit → Shared → Prop} (BF : Base B0 newId B1 initId bmB) (X : K.In hp) (he : hp.get? e = some (excObj C t0 none .none))
    (ov : excOver K C bmB = true) (hd : hasDictIn K C = true) (hsa : findIn K (.ref C) "__setattr__" = some (some (.builtin "object.__setattr__"))) (hno : findIn K (.ref C) name = some none)
    (hq : ∀ h' dx tk', (∀ b o, b ≠ e → hp.get? b = some o → h'.get? b = some o) → hp.objs.size ≤ dx → dx ≠ e → h'.get? e = some (excObj C t0 (some dx) .none) → h'.Ns1 dx (fun y => if y = name then some v else none) → Q () ⟨h', gg, dr, tk', os⟩) :
    wpAny (model prog w) A (setAttr (.ref e) name v) Q E ⟨hp, gg, dr, tk, os⟩ := by
  have I : InstAt hp e (excObj C t0 none .none) C none := ⟨he, rfl, rfl, trivial⟩
  refine set_plain X I hsa ?_
  refine osa_openX (s := ⟨hp, gg, dr, tk + 1, os⟩) (r := none) BF.st X I ov (by unfold takerIn; rw [hno]; rfl) fun b => ?_
  show wpAny _ _ (storeInOwnDict (.ref e) (.ref C) (.str name tk) name v b) _ _ _
  obtain ⟨cd, hcd, hh⟩ := any_some hd
  have lc : Looks (model prog w) hp (classData C) cd := looks_clsIn X hcd
  have hes : e ≠ hp.objs.size := Nat.ne_of_lt (Heap.lt_size he)
  obtain ⟨nm, bs, mro, ns, qn, hd1, sn, sb, ab, col, del⟩ := cd
  dsimp only at hh
  subst hh
  unfold storeInOwnDict ownDictForStores
  repeat (first | with_reducible refine HandSPX.store_in_new ?_ ?_ | with_reducible refine wpAny_loadPart_at he ?_ | with_reducible refine lc.at ?_ | wp_step)
  · exact ⟨_, #[], _, (Heap.get?_update_ne _ _ _ _ hes.symm).trans (Heap.get?_push_at rfl rfl), rfl, fun e he => absurd he (by simp), fun _ => rfl⟩
  · intro h' tk' hn' hs
    have he1 : (hp.push { cls := .type "dict", data := .dict #[] }).get? e = some (excObj C t0 none .none) := Heap.get?_push_of_some _ he
    refine hq h' hp.objs.size tk' (fun b o hb ho => ?_) (Nat.le_refl _) hes.symm ?_ hn'
    · exact (hs.2 b (Nat.ne_of_lt (Heap.lt_size ho))).trans ((Heap.get?_update_ne _ _ _ _ hb).trans (Heap.get?_push_of_some _ ho))
    · exact (hs.2 e hes).trans (Heap.get?_update_self _ he1 rfl)
/-- the built-in __init__ by its method-wrapper -/
theorem wrapperCall {hp : Heap} {gg : Array GenState} {dr : Drawn} {tk : Nat} {os : OsState} {u t0 : Addr} {vs : List Value} {Q : Value → Shared → Prop} (BF : Base B0 newId B1 initId bmB) (X : K.In hp) (q : excInitIn K C bmB newId = true)
    (hu : hp.get? u = some (kxs_mw initId e)) (he : hp.get? e = some (excObj C t0 none .none)) (hz : vs.length ≤ sizeLine)
    (hq : ∀ h' t1, (∀ b o, b ≠ e → hp.get? b = some o → h'.get? b = some o) → h'.get? e = some (excObj C t1 none .none) → hp.objs.size ≤ h'.objs.size → Q .none ⟨h', gg, dr, tk, os⟩) :
    wpAny (model prog w) A (call (.ref u) vs) Q E ⟨hp, gg, dr, tk, os⟩ := by
  obtain ⟨n1, CF⟩ := BF.cls
  obtain ⟨nm, N', qn, bs, bm, hdct, sn, sub, ab, col, dd, k0, k1, k2, k3, k5, hC, hT⟩ := excInit_of X q
  refine wpAny_call (codeAny_of_tree ?_)
  show wpAny _ A.in1 (callAny (.ref u) ⟨vs, []⟩) _ _ _
  simp only [callAny]
  refine wpAny_bind (wpAny_load hu ?_)
  simp only [kxs_mw, show (Value.type "method-wrapper" == Value.type "method" || Value.type "method-wrapper" == Value.type "builtin_function_or_method" || Value.type "method-wrapper" == Value.type "method-wrapper") = true by decide, if_true]
  refine KFB.if_so (by decide) ?_
  refine wpAny_bind ?_
  have hs := CF.notStar
  simp only [checkBoundCall, CF.initKind, CF.initSig]
  repeat (first | (with_reducible refine wpAny_loadPart_at he ?_) | with_reducible refine wpAny_loadPart_at hC ?_ | wp_step)
  refine wpAny_onRaise ?_
  rw [show ∀ (a b : String) (n : Nat), Bind.check ⟨.positional, "*", B1, .self, [⟨"args", .varPos, false⟩]⟩ a b n (List.map (fun x => x.fst) ({ pos := Value.ref e :: vs } : Args).kw) = pure () from fun a b n => check_star_args _ _ _ _ _ _]
  refine wpAny_pure ?_
  refine wpAny_bind (wpAny_pure (wpAny_pure ?_))
  refine ⟨plainId_quiet CF.init.plain _, codeAny_builtin CF.initEntry ?_⟩
  refine exc_init_tree (cls := .ref C) (t0 := t0) (dv := none) (c2 := .none) (c3 := .none) (b4 := .bool false) he hz fun h' k1 k2 k3 => hq h' hp.objs.size k1 k2 ?_
  exact Nat.le_of_lt (Heap.lt_size k3)
end
end Pd.Xc

/-! Pd33: the code of such an __init__. -/
namespace Pd.Xc
open PySem PySem.W PySem.Calls PySem.Spec
/-- what the written part says of the class at C and its __init__ at fI -/
structure InitC (K : Frag) (prog : Program) (C fI cc cda : Addr) (B0 newId B1 initId : String) (bmB : List Value) (f : Str) : Prop where
  bf : Base B0 newId B1 initId bmB
  ein : excInitIn K C bmB newId = true
  over : excOver K C bmB = true
  hd : hasDictIn K C = true
  sa : findIn K (.ref C) "__setattr__" = some (some (.builtin "object.__setattr__"))
  no : findIn K (.ref C) f = some none
  sup : ks_superIn K C C "__init__" = some (some (.builtin initId))
  sb : subIn K (.ref C) (.type B1) = some true
  me : mroIn K C (.ref C) = some true
  opq : nsIn K cStatics "thirdparty.any" = some none
  nsu : nsIn K mainGlobals "super" = some none
  cell : ∃ cl cld csl, K.lookup cc = some ⟨cl, cld, .cell (some (.ref C)), csl⟩
  code : ∃ ccl cdd vs ccs file tf, K.lookup cda = some ⟨ccl, cdd, .fields vs, ccs⟩ ∧ vs[2]? = some (.str file tf) ∧ ((prog.main.file : Str) == file) = true
  top : (prog.main.scope.names.lookup ("super" : Str)).isSome = false
  ini : findIn K (.ref C) "__init__" = some (some (.ref fI))
  fnt : typeIn K (.ref fI) = some (.type "function")
section
variable {prog : Program} {w : World} {A : Around} {K : Frag} {C e cc cda fI : Addr} {bmB : List Value} {B0 newId B1 initId : String} {f x self : Str}
  {name qual : Str} {params : Arguments} {scope : Scope} {dV kV doc pm ct oc : Value} {an od : Option Addr} {osl : Array (Option Value)} {p0 p1 p2 p3 p4 p5 p6 p7 p8 p9 : Pos} {mg mb : Str → Option Value} {R : Result → Shared → Prop}
abbrev initBody (self x f : Str) (p0 p1 p2 p3 p4 p5 p6 p7 p8 p9 : Pos) : List Stmt :=
  [.Expr (.Call (.Attribute (.Call (.Name "super" p0) [] [] p1) "__init__" p2) [.Name x p3] [] p4) p5, .Assign [.Attribute (.Name self p6) f p7] (.Name x p8) p9]
theorem initRun {hp : Heap} {gg : Array GenState} {dr : Drawn} {tk : Nat} {os : OsState} {t0 : Addr} {v : Value} (T : InitC K prog C fI cc cda B0 newId B1 initId bmB f) (X : K.In hp) (hlim : hp.NoLimit) (hG : hp.Ns mainGlobals mg) (hB : hp.Ns builtinsNs mb) (hbs : mb "super" = some (.type "super"))
    (ho : K.lookup fI = some ⟨oc, od, .func (ksFn name qual params (initBody self x f p0 p1 p2 p3 p4 p5 p6 p7 p8 p9) scope dV kV doc pm an (.ref cda) ct cc), osl⟩) (hcd : codeIn K (.ref cda) qual = true) (hroom : A.depth < recursionLimit)
    (hbind : ∀ s : Shared, BindsTo s (ksFn name qual params (initBody self x f p0 p1 p2 p3 p4 p5 p6 p7 p8 p9) scope dV kV doc pm an (.ref cda) ct cc) ⟨[.ref e, v], []⟩ [(self, .ref e), (x, v)])
    (hpar : ∃ ar, (params.posonlyargs ++ params.args).head? = some ar ∧ ar.arg = self) (hsx : self ≠ x) (hks : scope.names.lookup ("super" : Str) = some .globalImplicit) (hkc : scope.names.lookup ("__class__" : Str) = some .free) (hkself : scope.names.lookup self = some .local) (hkx : scope.names.lookup x = some .local)
    (hk : scope.kind = .function) (hco : scope.isCoroutine = false) (hgen : scope.isGenerator = false) (hcell : ∀ y ∈ scope.names, y.2 ≠ .cell) (dself : (self == ("__debug__" : Str)) = false) (dx' : (x == ("__debug__" : Str)) = false)
    (hint : ∀ L, interactive (ksEnv qual scope L fI (.ref cda) cc) = false) (hsw1 : ∀ env : PySem.Env, swapsWith (.Call (.Attribute (.Call (.Name "super" p0) [] [] p1) "__init__" p2) [.Name x p3] [] p4) none p5.line env = pure false)
    (hsw2 : ∀ env : PySem.Env, swapsWith (.Name x p8) (some (.Attribute (.Name self p6) f p7)) p9.line env = pure false)
    (hev : ∀ L, ∃ pl : Sem Bool, eval (.Call (.Attribute (.Call (.Name "super" p0) [] [] p1) "__init__" p2) [.Name x p3] [] p4) (ksEnv qual scope L fI (.ref cda) cc) = (do
      let ov ← attributeBase (.Call (.Name "super" p0) [] [] p1) "__init__" (ksEnv qual scope L fI (.ref cda) cc) (eval (.Call (.Name "super" p0) [] [] p1) (ksEnv qual scope L fI (.ref cda) cc))
      standAt p2.atName
      let (f, first) ← holding [ov] (getMethod ov "__init__" pl)
      callWith p4 f first (backTo p4 (starEach [.Name x p3] (ksEnv qual scope L fI (.ref cda) cc))) []))
    (he : hp.get? e = some (excObj C t0 none .none)) (heK : ∀ o, K.lookup e ≠ some o)
    (hq : ∀ h' dx tk' t1, (∀ b o, b ≠ e → hp.get? b = some o → h'.get? b = some o) → hp.objs.size ≤ dx → dx ≠ e → h'.get? e = some (excObj C t1 (some dx) .none) → h'.Ns1 dx (fun y => if y = f then some v else none) → R (.ok (.ret .none)) ⟨h', gg, dr, tk', os⟩) :
    codeAny (model prog w) A (.call (.ref fI) ⟨[.ref e, v], []⟩) R ⟨hp, gg, dr, tk, os⟩ := by
  obtain ⟨cl, cld, csl, hcc⟩ := T.cell
  obtain ⟨ccl, cdd, vs, ccs, file, tf, hcode, hvs, hfile⟩ := T.code
  obtain ⟨ar, har, harg⟩ := hpar
  obtain ⟨cd, hcls, hdct⟩ := any_some T.hd
  refine ks_codeAny_call_defAt (fd := ksFn name qual params (initBody self x f p0 p1 p2 p3 p4 p5 p6 p7 p8 p9) scope dV kV doc pm an (.ref cda) ct cc) (binds := [(self, .ref e), (x, v)]) hroom (X _ _ ho) rfl hlim (codeRec_of X hcd) rfl (hbind _) hcell (fun y hy => ?_) (fun h1 hns k1 => ?_) hco hgen hk
  · rcases List.mem_cons.mp hy with rfl | hy
    · exact hkself
    · rcases List.mem_cons.mp hy with rfl | hy
      · exact hkx
      · cases hy
  show wpAt (model prog w) (A.deeper (ksEnv qual scope hp.objs.size fI (.ref cda) cc)) (.func _ (ksEnv qual scope hp.objs.size fI (.ref cda) cc)) (execs _ (ksEnv qual scope hp.objs.size fI (.ref cda) cc)) _ _ _
  have X1 : K.In h1 := X.keeps k1
  have he1 := k1 _ _ he
  have vself : ([(self, Value.ref e), (x, v)] : List (Str × Value)).reverse.lookup self = some (.ref e) := by
    have hne : (self == x) = false := by simpa using hsx
    simp [List.lookup, hne]
  have vx : ([(self, Value.ref e), (x, v)] : List (Str × Value)).reverse.lookup x = some v := by simp [List.lookup]
  obtain ⟨oD, hD1, hD2⟩ : ∃ oD, h1.get? C = some oD ∧ oD.data = .cls cd := by
    unfold clsIn at hcls
    split at hcls
    · rename_i c d cd' sl ho
      cases hcls
      exact ⟨_, X1 _ _ ho, rfl⟩
    · cases hcls
  have hneC : e ≠ C := ks_ne X1 (ox := excObj C t0 none .none) (odx := none) ⟨he1, rfl, rfl, trivial⟩ hcls
  obtain ⟨pl, hpl⟩ := hev hp.objs.size
  refine ks_wpAt_execs_cons (ks_wpAt_Expr_any (ks_wpAt_MethodCall ?_ hpl) (hint _) (hsw1 _))
  refine ks_wpAt_super_base hks hkc (by decide) rfl (X1 _ _ ho) rfl har rfl (X1 _ _ hcode) rfl hvs hfile T.top ?_
  refine ks_loadName_global hk hks (loadGlobal_builtin (hG.keeps k1) (mg_none_of X hG T.nsu) (hB.keeps k1) hbs ⟨rfl, ?_⟩)
  refine wpAny_loadName_free hk hkc rfl ⟨_, X1 _ _ hcc, rfl⟩ ?_
  rw [harg]
  refine wpAny_loadName_local hk hkself hns vself ?_
  refine ks_wpAny_isType_cls hD1 hD2 ⟨rfl, ?_⟩
  refine ks_wpAny_call_super hD1 hD2 he1 rfl (fun c z => by cases z) (looks_mroIn X1 T.me) (fun h2 hso k2 => ?_)
  have X2 : K.In h2 := X1.keeps k2
  have he2 := k2 _ _ he1
  have sup := T.sup
  unfold ks_superIn at sup
  rw [hcls] at sup
  have I2 : InstAt h2 e (excObj C t0 none .none) C none := ⟨he2, rfl, rfl, trivial⟩
  refine kxs_getMethod T.bf.kx hso (looks_opaque X2 T.opq) (l₀ := cd.mro) (fun A Q E s k q => wpAny_bind ((looks_clsIn X2 hcls) A _ E s k (wpAny_pure q))) rfl X2 sup (I2.type.andThen (looks_subIn X2 T.sb)) hneC (by decide) ?_
  refine kxs_callWith (i := initId) (x := e) (by rfl) (evalArgs_plain (spliced_cons (wpAny_Name (wpAny_loadName_local hk hkx ((hns.keeps k2).keeps fun b o z => Heap.get?_push_of_some _ z) vx (spliced_nil ⟨?_, ?_⟩)) dx')))
  · exact Heap.get?_push_at rfl rfl
  refine wrapperCall (vs := [v]) T.bf (X2.keeps fun b o z => Heap.get?_push_of_some _ z) T.ein (Heap.get?_push_at rfl rfl) (Heap.get?_push_of_some _ he2) (by rw [sizeLine_eq]; show (1 : Nat) ≤ _; omega) fun h3 t1 k3 he3 z3 => ?_
  have kk : ∀ b o, b ≠ e → h1.get? b = some o → h3.get? b = some o := fun b o hb z => k3 b o hb (Heap.get?_push_of_some _ (k2 b o z))
  have hLe : hp.objs.size ≠ e := Nat.ne_of_gt (Heap.lt_size he)
  have ns3 : h3.Ns hp.objs.size fun y => ([(self, Value.ref e), (x, v)] : List (Str × Value)).reverse.lookup y := by
    obtain ⟨o, es, ep, z1, z2⟩ := hns
    exact ⟨o, es, ep, kk _ _ hLe z1, z2⟩
  have X3 : K.In h3 := fun b o z => kk b o (fun y => heK o (by rw [← y]; exact z)) (X1 b o z)
  refine wpAt_of_wpAny ?_
  refine wpAny_execs_cons (plainObj_wpAny_Assign_Attribute (wpAny_Name (wpAny_loadName_local hk hkx ns3 vx (wpAny_Name (wpAny_loadName_local hk hkself ns3 vself ?_) dself)) dx') (hsw2 _))
  refine firstField T.bf X3 he3 T.over T.hd T.sa T.no fun h4 dx tk4 k4 l4 n4 e4 ns4 => ?_
  refine wpAny_execs_nil ?_
  refine hq h4 dx tk4 t1 (fun b o hb z => k4 b o hb (kk b o hb (k1 b o z))) (Nat.le_trans (Nat.le_of_lt ns3.lt) l4) n4 e4 ns4
end
end Pd.Xc

/-! Pd34: C(..) of own exception classes as a value. -/
namespace Pd
open PySem PySem.Spec L2
open PyProof.Rows (envOfC)
theorem exo_of {P : Program} {w : World} {H : Hp} {h : Heap} {a C t1 : Addr} {d : Option Addr} (e : h.get? a = some (PySem.W.excObj C t1 d .none)) : ObjOk P w H h a (exo a C d) := exo_ok e
/-- two new objects laid and tracked -/
theorem invLaid2 {X : Cx} {pins : List (Addr × Obj)} {σ : St} {H : Hp} {s : Shared} {h' : Heap} {a d : Addr} {oa od : HO} {t' : Nat} (I : Inv X pins σ H s) (k : ∀ b u, s.heap.get? b = some u → h'.get? b = some u) (ha : s.heap.get? a = none) (hd : s.heap.get? d = none)
    (na : H a = none) (nd : H d = none) (ne : d ≠ a) (newa : ObjOk X.prog X.w (upd (upd H d od) a oa) h' a oa) (newd : ObjOk X.prog X.w (upd (upd H d od) a oa) h' d od) : Inv X pins σ (upd (upd H d od) a oa) { s with heap := h', toks := t' } := by
  have z : ∀ {b o}, H b = some o → upd (upd H d od) a oa b = some o := fun {b o} q => by rw [upd_ne (ne_of_none q na), upd_ne (ne_of_none q nd)]; exact q
  refine I.un (t' := t') ⟨fun b u q _ _ _ => k b u q, fun b u q _ _ _ => ⟨u.slots, k b u q⟩, fun b u q n _ => ?_, fun b u q _ => ⟨u, k b u q⟩, fun b xs q => z q, fun b u xs q => z q, fun b ps q => ⟨#[], by rw [z q]; simp⟩⟩ fun b u e => ?_
  · rw [upd_ne (fun y => by rw [y, ha] at q; cases q), upd_ne (fun y => by rw [y, hd] at q; cases q)]; exact n
  · by_cases hb : b = a
    · subst hb; rw [upd_same] at e; cases e; exact newa
    · rw [upd_ne hb] at e
      by_cases hb2 : b = d
      · subst hb2; rw [upd_same] at e; cases e; exact newd
      · rw [upd_ne hb2] at e
        exact (I.hok b u e).stay (fun c v _ q => k c v q) (fun c q => z q) fun c xs q => z q
section
variable {X : Cx} {C : Addr} {bmB : List Value} {B newId initId : String} {x : Str} {e : Expr} {es : List Expr} {ta : TA} {te : TE} {p pos : Pos}
/-- C(..), C without an own __init__ -/
theorem pe_exnN (F : ExcBaseFacts B newId initId bmB) (q : PySem.W.excIn X.K C bmB newId = true) (gC : X.mg x = some (.ref C)) (kC : PySem.W.keepIn X.K (.ref C) = true) (hg : Gl X x) (ha : PA X (e :: es) ta) (hdb : (x == ("__debug__" : Str)) = false := by decide)
    (he : starEach (e :: es) X.env = (false, eval e X.env) :: starEach es X.env := by rfl) (hpl : (backTo pos (starEach es X.env)).any (·.1) = false := by rfl) :
    PE X (.Call (.Name x p) (e :: es) [] pos) (fun σ H Q => ta σ H fun vs H1 => vs.length ≤ 1000 ∧ ∀ a, H1 a = none → Q (.ref a) (upd H1 a (exo a C none))) := by
  refine ⟨fun pins s σ H Q I h => ?_⟩
  refine wpAny_Call_Name_kw (ld_glob I hg gC ?_ hdb)
  refine PySem.W.callWith_K (h₀ := X.base) I.ok.mod.kin kC (thn (ha.run pos pins s σ H _ I h) fun us s1 ⟨vs, H1, I1, r1, hz, q1⟩ => ⟨I1.kIn, ?_⟩) he hpl
  show wpAny _ _ (call (.ref C) us) _ _ _
  obtain ⟨bm, N, nm, qn, bs, hdct, sn, sub, ab, col, dd, k0, k1, k2, k3, k5, mN, hC, hN, hni, T⟩ := exc_obj I1.kIn q
  refine PySem.wpAny_call_exc_subT F T hC hN hni (fun h' a hm => ?_) (by rw [← Paired.length r1, sizeLine_eq]; omega)
  have hn : H1 a = none := I1.hok.gone hm.new
  obtain ⟨t, ht, _, _⟩ := hm.there
  exact ⟨.ref a, upd H1 a (exo a C none), I1.laidN hm.keeps hm.new hn (exo_ok ht), rfl, q1 a hn⟩
theorem pe_exnN0 (F : ExcBaseFacts B newId initId bmB) (q : PySem.W.excIn X.K C bmB newId = true) (gC : X.mg x = some (.ref C)) (kC : PySem.W.keepIn X.K (.ref C) = true) (hg : Gl X x) (hdb : (x == ("__debug__" : Str)) = false := by decide) :
    PE X (.Call (.Name x p) [] [] pos) (fun σ H Q => ∀ a, H a = none → Q (.ref a) (upd H a (exo a C none))) := by
  refine ⟨fun pins s σ H Q I h => ?_⟩
  refine wpAny_Call_Name_kw (ld_glob I hg gC ?_ hdb)
  refine PySem.W.callWith_K0 I.kIn kC ?_
  show wpAny _ _ (call (.ref C) []) _ _ _
  obtain ⟨bm, N, nm, qn, bs, hdct, sn, sub, ab, col, dd, k0, k1, k2, k3, k5, mN, hC, hN, hni, T⟩ := exc_obj I.kIn q
  refine PySem.wpAny_call_exc_subT F T hC hN hni (fun h' a hm => ?_) (by rw [sizeLine_eq]; show (0 : Nat) ≤ _; omega)
  have hn : H a = none := I.hok.gone hm.new
  obtain ⟨t, ht, _, _⟩ := hm.there
  exact ⟨.ref a, upd H a (exo a C none), I.laidN hm.keeps hm.new hn (exo_ok ht), rfl, h a hn⟩
end
/-- an own exception class whose __init__ hands its argument on and keeps it as f -/
structure InitF (K : PySem.W.Frag) (prog : Program) (C fI : Addr) (f : Str) : Prop where
  cls : ∃ B0 newId i0 bm0 bmB, ExcBaseFacts B0 newId i0 bm0 ∧ Xc.Above bmB B0 ∧ PySem.W.excInitIn K C bmB newId = true
  ini : PySem.W.findIn K (.ref C) "__init__" = some (some (.ref fI))
  fnt : PySem.W.typeIn K (.ref fI) = some (.type "function")
  run : ∀ {w : World} {A : Around} {R : Result → Shared → Prop} {hp : Heap} {gg : Array GenState} {dr : Drawn} {tk : Nat} {os : OsState} {e t0 : Addr} {v : Value} {mg mb : Str → Option Value}, K.In hp → hp.NoLimit → hp.Ns mainGlobals mg → hp.Ns builtinsNs mb → mb "super" = some (.type "super") →
    A.depth < recursionLimit → hp.get? e = some (PySem.W.excObj C t0 none .none) → (∀ o, K.lookup e ≠ some o) →
    (∀ h' dx tk' t1, (∀ b o, b ≠ e → hp.get? b = some o → h'.get? b = some o) → hp.objs.size ≤ dx → dx ≠ e → h'.get? e = some (PySem.W.excObj C t1 (some dx) .none) → h'.Ns1 dx (fun y => if y = f then some v else none) → R (.ok (.ret .none)) ⟨h', gg, dr, tk', os⟩) →
    codeAny (model prog w) A (.call (.ref fI) ⟨[.ref e, v], []⟩) R ⟨hp, gg, dr, tk, os⟩
theorem above_tail {bmB bm : List Value} {B0 : String} (h : ∀ T : String, bm.contains (.type T) = bmB.contains (.type T)) (a : Xc.Above bmB B0) : Xc.Above bm B0 := ⟨(h _).trans a.b0, (h _).trans a.na, (h _).trans a.nn⟩
section
variable {X : Cx} {C fI : Addr} {x f : Str} {e : Expr} {te : TE} {p pos : Pos}
/-- C(e) -/
theorem pe_exnI (T : InitF X.K X.prog C fI f) (gC : X.mg x = some (.ref C)) (kC : PySem.W.keepIn X.K (.ref C) = true) (hg : Gl X x) (hr : Room 1 X.A) (he : PE X e te) (hs : starEach [e] X.env = (false, eval e X.env) :: starEach [] X.env := by rfl) (hdb : (x == ("__debug__" : Str)) = false := by decide) :
    PE X (.Call (.Name x p) [e] [] pos) (fun σ H Q => te σ H fun y H1 => ∀ a d, H1 a = none → H1 d = none → d ≠ a → Q (.ref a) (upd (upd H1 d (.xd [(f, y)])) a (exo a C (some d)))) := by
  refine ⟨fun pins s σ H Q I h => ?_⟩
  refine wpAny_Call_Name_kw (ld_glob I hg gC ?_ hdb)
  refine PySem.W.callWith_K (h₀ := X.base) I.ok.mod.kin kC ?_ hs (by rfl)
  rw [hs]
  show wpAny _ _ (spliced ((false, eval e X.env) :: backTo pos (starEach [] X.env))) _ _ s
  refine Calls.spliced_cons (thn (he.run pins s σ H _ I h) fun u s1 ⟨v, H1, I1, r1, q1⟩ => ?_)
  refine Calls.spliced_nil ⟨I1.kIn, ?_⟩
  show wpAny _ _ (call (.ref C) [u]) _ _ _
  obtain ⟨B0, newId, i0, bm0, bmB, F, av, q⟩ := T.cls
  obtain ⟨nm, N, qn, bs, bm, hdct, sn, sub, ab, col, dd, k0, k1, k2, k3, k5, hC, hT⟩ := PySem.W.excInit_of I1.kIn q
  obtain ⟨mb, m1, m2⟩ := I1.mod.blt
  obtain ⟨hp, gg, dr, tk, os⟩ := s1
  have up : ∀ b o, hp.get? b = some o → ((hp.push (PySem.W.kdv_tup [u])).push (PySem.HandSPX.excO C hp.objs.size)).get? b = some o := fun b o z => Heap.get?_push_of_some _ (Heap.get?_push_of_some _ z)
  have hn1 : H1 (hp.objs.size + 1) = none := I1.hok.fresh (Nat.le_succ _)
  have g1 : ∀ b, hp.objs.size ≤ b → hp.get? b = none := fun b hb => by
    cases z : hp.get? b with
    | none => rfl
    | some o => exact absurd (Heap.lt_size z) (Nat.not_lt.mpr hb)
  refine wpAny_call (Xc.callRun F (above_tail hT av) hC (PySem.W.looks_findIn I1.kIn T.ini) (fun self => PySem.W.bind_fn I1.kIn self T.fnt) (by rw [sizeLine_eq]; show (1 : Nat) ≤ _; omega) ?_)
  refine T.run (I1.kIn.keeps up) (I1.nolimit.keeps up) ((I1.mod.glob.keeps I1.bk).keeps up) ((m1.keeps I1.bk).keeps up) ((m2 "super" (by decide)).trans (by first | rfl | kernel_rfl)) (by rw [make_depth]; have := hr.dp; omega) (by heap_get) (fun o z => absurd (Heap.lt_size (I1.kIn _ _ z)) (Nat.not_lt.mpr (Nat.le_succ _))) fun h' dx tk' t1 kk l1 n1 e1 ns1 => ?_
  have sz : ((hp.push (PySem.W.kdv_tup [u])).push (PySem.HandSPX.excO C hp.objs.size)).objs.size = hp.objs.size + 2 := by rw [Heap.size_push, Heap.size_push]
  rw [sz] at l1
  have hd0 : hp.get? dx = none := g1 dx (Nat.le_trans (by omega) l1)
  have hnd : H1 dx = none := I1.hok.gone hd0
  have k2 : ∀ b o, hp.get? b = some o → h'.get? b = some o := fun b o z => kk b o (Nat.ne_of_lt (Nat.lt_succ_of_lt (Heap.lt_size z))) (up b o z)
  refine ⟨rfl, .ref (hp.objs.size + 1), _, invLaid2 (od := .xd [(f, v)]) (oa := exo (hp.objs.size + 1) C (some dx)) I1 k2 (g1 _ (Nat.le_succ _)) hd0 hn1 hnd n1 (exo_of e1) (show ∃ mA, h'.Ns1 dx mA ∧ ∀ g, RelO (List.lookup g [(f, v)]) (mA g) from ⟨_, ns1, fun g => ?_⟩), rfl, q1 _ dx hn1 hnd n1⟩
  rw [lookup_put]
  by_cases c : g = f
  · rw [if_pos c, if_pos c]; exact r1
  · rw [if_neg c, if_neg c]; trivial
end
end Pd

/-! Pd35: exceptions as values: fields, isinstance. -/
namespace Pd.Xc
open PySem PySem.W PySem.Calls PySem.Spec
section
variable {prog : Program} {w : World} {A : Around} {E : Value → Shared → Prop} {s : Shared} {K : Frag} {e C : Addr} {oe : Obj} {od : Option Obj}
theorem clsFound (hd : hasDictIn K C = true) (ha : findIn K (.ref C) "__class__" = some (some (.builtin "object.__class__"))) (hn : specialIn K (.builtin "object.__class__") "__get__" = some (some (.builtin "getset_descriptor.__get__"))) (ht : takesIn K (.builtin "object.__class__") = some true) :
    findObj K C od "__class__" = some (.bind (.builtin "getset_descriptor.__get__") (.builtin "object.__class__")) := by
  obtain ⟨cd, hc, _⟩ := any_some hd
  unfold findObj
  rw [hc, Option.bind_some, ha, Option.bind_some]
  simp [hn, ht]
theorem askClass {Q : Option Value → Shared → Prop} (T : L2.ExcC K C) (X : K.In s.heap) (I : InstAt s.heap e oe C od) (h : Q (some (.ref C)) { s with toks := s.toks + 1 }) : wpAny (model prog w) A (getAttr? (.ref e) "__class__") Q E s := by
  have hf := clsFound (od := od) T.hd T.ha T.hn T.ht
  obtain ⟨hp, gg, dr, tk, os⟩ := s
  have L0 := I.type (M := model prog w)
  have L1 := looks_findIn (M := model prog w) X T.hg
  have L2 := looks_findIn (M := model prog w) X T.hk
  have L3 := looks_find (M := model prog w) X I hf
  have sb : Looks (model prog w) hp (isInstance (.ref e) (.type "BaseException")) true := L0.andThen (looks_subIn X T.hs)
  have z0 : (false && onTheHeap (Value.builtin "BaseException.__getattribute__")) = false := rfl
  have z2 : (Value.builtin "BaseException.__getattribute__" == Value.builtin "object.__getattribute__") = false := by decide +kernel
  have z1 : (onTheHeap (Value.ref C) && Value.builtin "BaseException.__getattribute__" == Value.builtin "object.__getattribute__") = false := by rw [z2] <;> rfl
  unfold getAttr? getAttrBy? getAttrBy
  refine wpAny_bind (wpAny_mkText (wpAny_bind (wpAny_attempt (wpAny_holding (wpAny_bind (L0.at (wpAny_bind (L1.at ?_))))))))
  show wpAny _ _ (if (onTheHeap (Value.ref C) && Value.builtin "BaseException.__getattribute__" == Value.builtin "object.__getattribute__") = true then _ else _) _ _ _
  rw [z1, if_neg Bool.false_ne_true]
  unfold getAttrByItsOwn hookBefore
  refine wpAny_bind ?_
  rw [if_pos (show onTheHeap (Value.ref C) = true from rfl)]
  refine L2.at (wpAny_bind (wpAny_attempt (wpAny_holding ?_)))
  unfold callGetattribute
  rw [z0, if_neg Bool.false_ne_true]
  unfold boundAndCalled
  rw [PySem.F.excAttr_ValueError.ga.bind (.ref e)]
  refine wpAny_bind (wpAny_pure ?_)
  show wpAny _ _ (call (.builtin "BaseException.__getattribute__") [.ref e, .str "__class__" tk]) _ _ _
  refine wpAny_call (codeAny_call_builtin PySem.F.excAttr_ValueError.ga.plain PySem.F.entry_bexc_ga ?_)
  refine @check_slot (model prog w) _ _ ⟨hp, gg, dr, tk + 1, os⟩ "BaseException.__getattribute__" "BaseException" "__getattribute__" (.ref e) [.str "__class__" tk] [] _ (by decide +kernel) (by decide +kernel) sb (PySem.F.args_bexc_ga (.ref e) (.str "__class__" tk)) ?_
  unfold Builtin.«object.__getattribute__»
  refine wpAny_bind (wpAny_of_eq (a := ((Value.ref e : Value), [Value.str "__class__" tk])) (by first | rfl | (simp only [slotArgs]; rfl)) ?_)
  refine wpAny_bind (wpAny_pure (wpAny_bind (L0.at (wpAny_bind (L3.at ?_)))))
  show wpAny _ _ (holding [Value.builtin "object.__class__"] (call (.builtin "getset_descriptor.__get__") [.builtin "object.__class__", .ref e, .ref C]) >>= ret) _ _ _
  refine wpAny_bind (wpAny_holding (wpAny_call (class_get (s := ⟨hp, gg, dr, tk + 1, os⟩) (ox := oe) (od := od) X I T.hm ?_)))
  refine wpAny_pure ?_
  show wpAny _ _ (handedOut (.ref C)) _ _ _
  rw [handedOut_of (v := .ref C) rfl]
  first
    | exact wpAny_pure (wpAny_pure h)
    | exact wpAny_pure h
    | exact wpAny_pure (wpAny_bind (wpAny_pure (wpAny_pure h)))
theorem clsObj (hd : hasDictIn K C = true) : ∃ c d cd sl, K.lookup C = some ⟨c, d, .cls cd, sl⟩ := by
  obtain ⟨cd, hc, _⟩ := any_some hd
  unfold clsIn at hc
  split at hc
  · rename_i c d cd' sl ho; exact ⟨_, _, _, _, ho⟩
  · cases hc
theorem kitX (T : L2.ExcC K C) : KitX K (.ref e) (.ref C) (fun h => ∃ oe od, InstAt h e oe C od) := by
  obtain ⟨c, d, cd, sl, ho⟩ := clsObj T.hd
  refine ⟨fun _ _ _ ⟨_, _, I⟩ => I.type, fun M h X _ A' Q' E' s' k q => ?_, fun h tp dd its n sl' X htp => Bool.eq_false_iff.mpr fun q => ?_, fun X ⟨_, _, I⟩ k => askClass T X I k⟩
  · unfold isType loadHead
    exact wpAny_bind (wpAny_loadPart (k _ _ (X _ _ ho)) (wpAny_pure q))
  · have z : C = tp := Value.ref.inj (beq_iff_eq.mp q)
    subst z
    have y := (X _ _ ho).symm.trans htp
    cases y
end
end Pd.Xc
namespace Pd
open PySem PySem.Spec L2
open PyProof.Rows (envOfC)
/-- an exception of the class at C stands at a -/
def ExAt (H : Hp) (a C : Addr) : Prop := H a = some (exo a C none) ∨ ∃ d fs, H a = some (exo a C (some d)) ∧ H d = some (.xd fs)
theorem ExAt.inst {P : Program} {w : World} {H : Hp} {h : Heap} {a C : Addr} (x : ExAt H a C) (hok : HOk P w H h) : ∃ oe od, PySem.W.InstAt h a oe C od := by
  rcases x with e | ⟨d, fs, e, ed⟩
  · obtain ⟨t1, he⟩ := exo_at hok e
    exact ⟨_, none, he, rfl, rfl, trivial⟩
  · obtain ⟨t1, he⟩ := exo_at hok e
    obtain ⟨mA, hns, hr⟩ := (show ObjOk P w H h d (.xd fs) from hok d _ ed)
    obtain ⟨od, ho, hl⟩ := lookIn_ns hns
    exact ⟨_, some od, he, rfl, rfl, ho⟩
def rIsX (K : PySem.W.Frag) : List V → Hp → VK → Prop := fun xs H Q => ∃ (a C : Addr) (c : V) (u : Value) (b : Bool), xs = [.ref a, c] ∧ ClsV c u ∧ ExAt H a C ∧ ExcC K C ∧ PySem.W.kitOne K (.ref C) u = some b ∧ Q (.bl b) H
theorem call_isX {X : Cx} : CallR X (.builtin "isinstance") (rIsX X.K) := by
  intro pins s σ H xs us Q I r h
  obtain ⟨a, C, c, u, b, rfl, k, ex, T, e, q⟩ := h
  obtain ⟨u1, u2, rfl, r1, r2⟩ := vals2 r
  have e2 := k.eq r2
  subst e2
  cases (show u1 = Value.ref a from r1)
  exact PySem.W.kia_one (Xc.kitX T) I.kIn (ex.inst I.hok) e (fun z => nomatch z) fun tk => ⟨.bl b, H, I.tok tk, rfl, q⟩
theorem Rp.ex {K : PySem.W.Frag} {cm : Str → Option Addr} {F : Hp} {c : Str} {fs : List (Str × D)} {v : V} (h : Rp K cm F (.exn c fs) v) : ∃ a C, v = .ref a ∧ cm c = some C ∧ ExAt F a C := by
  cases h with
  | exn0 h1 h2 => exact ⟨_, _, rfl, h1, .inl h2⟩
  | exn h1 h2 h3 _ _ => exact ⟨_, _, rfl, h1, .inr ⟨_, _, h2, h3⟩⟩
theorem ExAt.mono {F H : Hp} {a C : Addr} (s : Same F H) (x : ExAt F a C) : ExAt H a C := by
  rcases x with e | ⟨d, fs, e, ed⟩
  · exact .inl (s _ _ e)
  · exact .inr ⟨d, fs, s _ _ e, s _ _ ed⟩
theorem Rv.ex {K : PySem.W.Frag} {cm : Str → Option Addr} {F H : Hp} {c : Str} {fs : List (Str × D)} {v : V} (h : Rv K cm F H (.exn c fs) v) : Rp K cm F (.exn c fs) v := by
  rcases h with h | ⟨a, _, _, h⟩
  · exact h
  · exact h.elim
/-- which of some classes an exception belongs to: tab by class names -/
def isxG (tab : Str → Option Bool) : D → Option D
  | .exn c _ => (tab c).map .bl
  | _ => none
section
variable {X : Cx} {cm : Str → Option Addr} {W : WX} {e : Expr} {fo : M Op} {fe : M D} {y f : Str} {p q pos : Pos}
theorem jd_isx {t : TE} {c : V} {u : Value} {tab : Str → Option Bool} (k : ClsV c u) (hx : ∀ n C, cm n = some C → ExcC X.K C) (ht : ∀ n C b, cm n = some C → tab n = some b → PySem.W.kitOne X.K (.ref C) u = some b) (j : Jd X cm W (rO X.K cm) t fo) :
    Jd X cm W (rV X.K cm) (fun σ H Q => t σ H fun v H1 => rIsX X.K [v, c] H1 Q) (app1 (isxG tab) fo) := by
  refine jd_app1 (t2 := fun v σ H Q => rIsX X.K [v, c] H Q) j fun F H σ v d z s hv hg Q kk => ?_
  cases d with
  | exn n fs =>
    have hg : (tab n).map D.bl = some z := hg
    cases e2 : tab n with
    | none => rw [e2] at hg; cases hg
    | some b =>
      rw [e2] at hg; cases hg
      obtain ⟨a, C, rfl, h1, h2⟩ := hv.ex.ex
      exact ⟨a, C, c, u, b, rfl, k, h2.mono s, hx n C h1, ht n C b h1 e2, kk F H _ (Grow.refl s) (.bl _)⟩
  | _ => cases hg
/-- isinstance(e, T), T built in -/
theorem pd_isxB {T : String} {tab : Str → Option Bool} (hx : ∀ n C, cm n = some C → ExcC X.K C) (ht : ∀ n C b, cm n = some C → tab n = some b → PySem.W.kitOne X.K (.ref C) (.type T) = some b) (hg : Gl X "isinstance") (hm : X.mg "isinstance" = none) (hg2 : Gl X y) (hm2 : X.mg y = none) (hv : bootBuiltins y = some (.type T)) (he : PO X cm W e fo)
    (hn : y ≠ "__name__" := by decide) (hdb : (y == ("__debug__" : Str)) = false := by decide)
    (hs : starEach (e :: [.Name y q]) X.env = (false, eval e X.env) :: starEach [.Name y q] X.env := by rfl) (hs2 : starEach (.Name y q :: []) X.env = (false, eval (.Name y q) X.env) :: starEach [] X.env := by rfl)
    (hpl : (backTo pos (starEach [.Name y q] X.env)).any (·.1) = false := by rfl) : PD X cm W (.Call (.Name "isinstance" p) [e, .Name y q] [] pos) (app1 (isxG tab) fo) := by
  obtain ⟨t, pe, j⟩ := he
  have hb : PE X (.Name y q) (tC (.ty T)) := pe_bltn hg2 hm2 hv (show RelV (.ty T) (.type T) from rfl) hn hdb
  exact ⟨_, pe_callB call_isX hg hm (by decide +kernel) (pa_cons pe (pa_cons hb pa_nil hs2) hs) (by decide) (by decide) hs hpl, jd_isx (.ty T) hx ht j⟩
/-- isinstance(e, C), C of the program -/
theorem pd_isxO {C0 : Addr} {tab : Str → Option Bool} (hx : ∀ n C, cm n = some C → ExcC X.K C) (ht : ∀ n C b, cm n = some C → tab n = some b → PySem.W.kitOne X.K (.ref C) (.ref C0) = some b) (hg : Gl X "isinstance") (hm : X.mg "isinstance" = none) (hg2 : Gl X y) (hm2 : X.mg y = some (.ref C0)) (he : PO X cm W e fo)
    (hdb : (y == ("__debug__" : Str)) = false := by decide)
    (hs : starEach (e :: [.Name y q]) X.env = (false, eval e X.env) :: starEach [.Name y q] X.env := by rfl) (hs2 : starEach (.Name y q :: []) X.env = (false, eval (.Name y q) X.env) :: starEach [] X.env := by rfl)
    (hpl : (backTo pos (starEach [.Name y q] X.env)).any (·.1) = false := by rfl) : PD X cm W (.Call (.Name "isinstance" p) [e, .Name y q] [] pos) (app1 (isxG tab) fo) := by
  obtain ⟨t, pe, j⟩ := he
  have hb : PE X (.Name y q) (tC (.ref C0)) := pe_glob hg2 hm2 rfl hdb
  exact ⟨_, pe_callB call_isX hg hm (by decide +kernel) (pa_cons pe (pa_cons hb pa_nil hs2) hs) (by decide) (by decide) hs hpl, jd_isx (.own C0) hx ht j⟩
/-! ### e.f of an exception -/
theorem pe_xfld {te : TE} {n : Str} (he : PE X e te) (hb : attributeBase e n X.env (eval e X.env) = eval e X.env := by rfl) :
    PE X (.Attribute e n pos) (fun σ H Q => te σ H fun x H1 => ∃ a C dd fs v, x = .ref a ∧ H1 a = some (exo a C (some dd)) ∧ XfC X.K C ∧ PySem.W.findIn X.K (.ref C) n = some none ∧ H1 dd = some (.xd fs) ∧ fs.lookup n = some v ∧ Q v H1) := by
  refine ⟨fun pins s σ H Q I h => ?_⟩
  refine attr_of hb (thn (he.run pins s σ H _ I h) fun u s1 ⟨x, H1, I1, rx, a, C, dd, fs, v, ex, ea, T, hno, ed, l, q⟩ => ?_)
  subst ex
  cases (show u = Value.ref a from rx)
  obtain ⟨t1, ha⟩ := exo_at I1.hok ea
  obtain ⟨mA, hns, hr⟩ := (show ObjOk X.prog X.w H1 s1.heap dd (.xd fs) from I1.hok dd _ ed)
  obtain ⟨od, ho, hl⟩ := lookIn_ns hns
  obtain ⟨u, hu, ru⟩ := RelO.some_of (v := v) (o := mA n) (by rw [← l]; exact hr n)
  have J : PySem.W.InstAt s1.heap a _ C (some od) := ⟨ha, rfl, rfl, ho⟩
  exact HandSPX.exc_get I1.kIn J T.ga T.gg T.exC (PySem.W.findObj_own T.hdC hno rfl (by rw [hl, hu])) (handed_of ru) ⟨v, H1, I1.tok _, ru, q⟩
def xfG (c f : Str) : D → Option D
  | .exn c' fs => if c' = c then fs.lookup f else none
  | _ => none
theorem pd_xfld (c : Str) (hc : ∀ C, cm c = some C → XfC X.K C ∧ PySem.W.findIn X.K (.ref C) f = some none) (ha : PO X cm W e fo) (hb : attributeBase e f X.env (eval e X.env) = eval e X.env := by rfl) : PD X cm W (.Attribute e f pos) (app1 (xfG c f) fo) := by
  obtain ⟨t, pe, j⟩ := ha
  refine ⟨_, pe_xfld pe hb, jd_app1 (t2 := fun x σ H1 Q => ∃ a C dd fs v, x = V.ref a ∧ H1 a = some (exo a C (some dd)) ∧ XfC X.K C ∧ PySem.W.findIn X.K (.ref C) f = some none ∧ H1 dd = some (.xd fs) ∧ fs.lookup f = some v ∧ Q v H1) j fun F H σ v d z s hv hg Q k => ?_⟩
  cases d with
  | exn c' fs =>
    have hg : (if c' = c then fs.lookup f else none) = some z := hg
    by_cases e1 : c' = c
    · have hg2 : fs.lookup f = some z := by rw [if_pos e1] at hg; exact hg
      subst e1
      cases hv.ex with
      | exn0 _ _ => cases hg2
      | @exn a C dd _ vs _ h1 h2 h3 h4 h5 =>
        obtain ⟨u, h6, h7⟩ := lookup_rps h4 h5 hg2
        exact ⟨a, C, dd, vs, u, rfl, s _ _ h2, (hc C h1).1, (hc C h1).2, s _ _ h3, h6, k F H u (Grow.refl s) h7⟩
    · rw [if_neg e1] at hg; cases hg
  | _ => cases hg
end
end Pd

/-! Pd36: exceptions made as data. -/
namespace Pd
open PySem PySem.Spec L2
open PyProof.Rows (envOfC)
theorem exo_notup {a C : Addr} {d : Option Addr} {xs : List V} : exo a C d ≠ .tup xs := exo_tup
section
variable {X : Cx} {cm : Str → Option Addr} {W : WX} {C fI : Addr} {bmB : List Value} {B newId initId : String} {x f : Str} {e : Expr} {fo : M Op} {p pos : Pos}
def mkX (c : Str) (d : D) : Option D := some (.exn c [])
theorem pd_exnN (c : Str) (hcm : cm c = some C) (Fx : ExcBaseFacts B newId initId bmB) (q : PySem.W.excIn X.K C bmB newId = true) (gC : X.mg x = some (.ref C)) (kC : PySem.W.keepIn X.K (.ref C) = true) (hg : Gl X x) (ha : PO X cm W e fo) (hdb : (x == ("__debug__" : Str)) = false := by decide)
    (he : starEach (e :: []) X.env = (false, eval e X.env) :: starEach [] X.env := by rfl) (hpl : (backTo pos (starEach [] X.env)).any (·.1) = false := by rfl) : PD X cm W (.Call (.Name x p) [e] [] pos) (app1 (mkX c) fo) := by
  obtain ⟨t, pe, j⟩ := ha
  refine ⟨_, pe_exnN Fx q gC kC hg (pa_cons pe pa_nil he) hdb he hpl, jd_app1 (t2 := fun v σ H Q => [v].length ≤ 1000 ∧ ∀ a, H a = none → Q (.ref a) (upd H a (exo a C none))) j fun F H σ v d z s hv hg Q k => ?_⟩
  cases hg
  refine ⟨by show (1 : Nat) ≤ _; omega, fun a hn => ?_⟩
  exact k _ _ _ (Grow.new s hn) (.exn0 hcm upd_same)
theorem pd_exnN0 (c : Str) (hcm : cm c = some C) (Fx : ExcBaseFacts B newId initId bmB) (q : PySem.W.excIn X.K C bmB newId = true) (gC : X.mg x = some (.ref C)) (kC : PySem.W.keepIn X.K (.ref C) = true) (hg : Gl X x) (hdb : (x == ("__debug__" : Str)) = false := by decide) : PD X cm W (.Call (.Name x p) [] [] pos) (M.ret (.exn c [])) := by
  refine ⟨_, pe_exnN0 Fx q gC kC hg hdb, fun G F H σ ρ r ρ' er _ hf Q hQ => ?_⟩
  cases hf
  intro a hn
  have g := Grow.new (o := exo a C none) er.sub hn
  exact hQ _ _ (er.grow g) (Ext.of g.f) _ (.exn0 hcm upd_same)
def mkXF (c f : Str) (d : D) : Option D := some (.exn c [(f, d)])
theorem Grow.new2 {F H : Hp} {a d : Addr} {oa od : HO} (s : Same F H) (ha : H a = none) (hd : H d = none) (ne : d ≠ a) : Grow F H (upd (upd F d od) a oa) (upd (upd H d od) a oa) :=
  (Grow.new s hd).trans (Grow.new (Grow.new s hd).sub (by rw [upd_ne (Ne.symm ne)]; exact ha))
theorem pd_exnI (c : Str) (hcm : cm c = some C) (T : InitF X.K X.prog C fI f) (gC : X.mg x = some (.ref C)) (kC : PySem.W.keepIn X.K (.ref C) = true) (hg : Gl X x) (hr : Room 1 X.A) {fe : M D} (ha : PD X cm W e fe) (hs : starEach [e] X.env = (false, eval e X.env) :: starEach [] X.env := by rfl) (hdb : (x == ("__debug__" : Str)) = false := by decide) :
    PD X cm W (.Call (.Name x p) [e] [] pos) (M.bind fe fun d => M.ret (.exn c [(f, d)])) := by
  obtain ⟨t, pe, j⟩ := ha
  refine ⟨_, pe_exnI T gC kC hg hr pe hs hdb, ?_⟩
  refine JdP.bind (rel1 := rV X.K cm) (t1 := t) (t2 := fun y σ H Q => ∀ a d, H a = none → H d = none → d ≠ a → Q (V.ref a) (upd (upd H d (.xd [(f, y)])) a (exo a C (some d)))) j fun dd y F0 => ?_
  intro G F H σ ρ r ρ' er hp hf Q hQ a d ha hd ne
  cases hf
  have hp : Rp X.K cm F dd y := hp
  have g := Grow.new2 (oa := exo a C (some d)) (od := .xd [(f, y)]) er.sub ha hd ne
  exact hQ _ _ (er.grow g) (Ext.of g.f) _ (.exn (vs := [(f, y)]) hcm upd_same (by rw [upd_ne ne, upd_same]) rfl (.cons (hp.ext (Ext.of g.f)) .nil))
end
end Pd

/-! Pd37: promises that may lean on "no repr is under way" (repr of lists asks it). -/
namespace Pd
open PySem PySem.Spec L2
open PyProof.Rows (envOfC)
/-- FnR, where no guard stands on the stack -/
def FnG (P : Program) (w : World) (K : PySem.W.Frag) (mg : Str → Option Value) (base : Heap) (k : Nat) (f : Addr) (sp : Sp) : Prop :=
  ∀ (A : Around) (outer : List PySem.Env) (s : Shared) (H : Hp) (us : List Value) (vs : List V) (Q : VK) (E : XK), A.guards = some [] → Room k A → Env0 P w K mg base A outer s H → Vals vs us → sp vs H Q E →
    codeAny (model P w) A (.call (.ref f) ⟨us, []⟩) (CR (L2.CX P w) outer P w H s Q E) s
section
variable {P : Program} {w : World} {K : PySem.W.Frag} {mg : Str → Option Value} {base : Heap} {cm : Str → Option Addr}
theorem FnG.mono {j k : Nat} {f : Addr} {sp : Sp} (F : FnG P w K mg base j f sp) (h : j ≤ k) : FnG P w K mg base k f sp := fun A outer s H us vs Q E hg hr => F A outer s H us vs Q E hg (hr.mono h)
theorem FnG.imp {k : Nat} {f : Addr} {sp sp' : Sp} (F : FnG P w K mg base k f sp) (h : ∀ vs H Q E, sp' vs H Q E → sp vs H Q E) : FnG P w K mg base k f sp' := fun A outer s H us vs Q E hg hr e r hs => F A outer s H us vs Q E hg hr e r (h _ _ _ _ hs)
/-- a def by its body -/
theorem fnG_of {x qual : Str} {st : Stmt} {f : Addr} {fd : FuncData} {N ps : List Str} {k : Nat} {sp : Sp} (F : Fun K x qual st f fd) (S : FnScope N ps (defScope st)) (len : ∀ vs H Q E, sp vs H Q E → vs.length = ps.length) (hb : Binds K fd ps [])
    (hbody : ∀ (cdv : Value) (A : Around) (outer : List PySem.Env) (s : Shared) (H : Hp) (vs : List V) (Q : VK) (E : XK), A.guards = some [] → Room k (A.deeper (envOfC qual (defScope st) s.heap.objs.size f cdv)) → sp vs H Q E →
      ∃ t, PSs (cxOf (L2.CX P w) P w K mg base N qual (defScope st) f cdv A outer s H E) (defBody st) t ∧ t { nx := fun _ H' => Q .non H', rt := Q } (start N vs) H) : FnG P w K mg base (k + 1) f sp := by
  obtain ⟨oc, od, kV, doc, pm, an, cdv, ct, osl, rfl, lk, hcd⟩ := F.ex
  intro A outer s H us vs Q E hg hr e0 r hsp
  have hl := len _ _ _ _ hsp
  have up : ∀ b o, base.get? b = some o → s.heap.get? b = some o := fun b o e => (e0.bs b o e).1
  have KX : K.In s.heap := e0.mod.kin.keeps up
  have bb := hb s us KX (by rw [List.append_nil, ← r.length]; exact hl)
  rw [List.append_nil] at bb
  refine codeAny_call_function hr.depth (KX _ _ lk) rfl S.co S.gen rfl (PySem.W.codeRec_of KX hcd) (bb _ _ _ _ (wpAny_newFunctionEnv_cells S.kind (fun y hy => ?_) fun env he s1 x => ?_))
  · obtain ⟨n, v⟩ := y
    rcases S.par n (List.of_mem_zip hy).1 with q | q
    · exact .inl q
    · exact .inr ⟨q, PySem.W.cellsFrom_some _ _ _ (.inl q)⟩
  · subst he
    refine ⟨(e0.mod.nolimit.keeps up).keeps x.toInCall.keep, codeAny_func ?_⟩
    obtain ⟨t, ht, hq⟩ := hbody cdv A outer s H vs Q E hg (hr.deeper _) hsp
    have I0 := inv_start (CX := L2.CX P w) (E := E) S hr.hd e0 hl r x
    refine wpAny_mono (ht.run [] s1 (start N vs) H _ I0 hq) (fun fl s' hs => ?_) fun e s' hs => hs
    match fl, hs with
    | .ret u, ⟨v, σ', H', J, rv, q⟩ => exact ⟨v, H', J.os, J.bare, J.base, J.hok, rv, q⟩
    | .next, ⟨σ', H', J, q⟩ => exact ⟨V.non, H', J.os, J.bare, J.base, J.hok, rfl, q⟩
    | .brk, ⟨_, _, _, q⟩ => exact False.elim q
    | .cont, ⟨_, _, _, q⟩ => exact False.elim q
abbrev OkG (P : Program) (w : World) (K : PySem.W.Frag) (mg : Str → Option Value) (base : Heap) (cm : Str → Option Addr) (k : Nat) (f : Addr) (m : FD) : Prop := FnG P w K mg base k f (spA K cm m)
end
end Pd

/-! Pd38: defs and calls where no guard stands on the stack; the law's own end. -/
namespace Pd
open PySem PySem.Spec L2
open PyProof.Rows (envOfC)
section
variable {P : Program} {w : World} {K : PySem.W.Frag} {mg : Str → Option Value} {base : Heap} {cm : Str → Option Addr}
theorem def_body {qual : Str} {st : Stmt} {f : Addr} {N ps : List Str} {g : SM} {cdv : Value} {A : Around} {outer : List PySem.Env} {s : Shared} {H : Hp} {vs : List V} {Q : VK} {E : XK}
    (hb : PSsd (cxOf (L2.CX P w) P w K mg base N qual (defScope st) f cdv A outer s H E) cm (fun cls d _ H => E cls d H) (defBody st) g) (h : spD K cm ps.length (fnD ps.length N.length g) vs H Q E) :
    ∃ t, PSs (cxOf (L2.CX P w) P w K mg base N qual (defScope st) f cdv A outer s H E) (defBody st) t ∧ t { nx := fun _ H' => Q .non H', rt := Q } (start N vs) H := by
  obtain ⟨F0, ss, ss', r, pa, hl, er, hm, hp⟩ := h
  obtain ⟨t, p, j⟩ := hb
  refine ⟨t, p, ?_⟩
  unfold fnD at hm
  rw [if_pos (by have := er.len; rw [List.length_map, hl] at this; exact this)] at hm
  cases q : g (ss ++ List.replicate (N.length - ss.length) .no) with
  | none => rw [q] at hm; cases hm
  | some pr =>
    obtain ⟨r1, ρ1⟩ := pr
    rw [q] at hm
    refine j (entry vs pa F0 H) F0 H (start N vs) _ r1 ρ1 er.enter q _ fun F' H' σ' er' x' => ?_
    cases r1 with
    | nx =>
      have hm : (backA ss ρ1).map (fun t => (SR.ret (.val .non), t)) = some (r, ss') := hm
      cases qb : backA ss ρ1 with
      | none => rw [qb] at hm; cases hm
      | some t => rw [qb] at hm; cases hm; exact hp F' H' (er.leave er' qb) .non .non
    | ret s =>
      have hm : (backA ss ρ1).map (fun t => (SR.ret s, t)) = some (r, ss') := hm
      cases qb : backA ss ρ1 with
      | none => rw [qb] at hm; cases hm
      | some t =>
        rw [qb] at hm; cases hm
        have hz := hp F' H' (er.leave er' qb)
        cases s with
        | no => exact hz
        | par d => exact hz
        | val d => exact hz
        | own d =>
          refine fun a ha => hz a ⟨ha.1, ha.2.1, fun i s e os z => ?_⟩
          obtain ⟨_, hat⟩ := backA_at qb
          rcases hat i s e with ⟨d, rfl, _⟩ | ⟨d, rfl, e1⟩
          · cases os
          · obtain ⟨b, h1, q, _⟩ := er'.slot i _ e1
            have q1 : vs[i]? = some (.ref b) := q.1
            rw [List.getElem?_map, q1] at z
            have : b = a := V.ref.inj (Option.some.inj (Option.some.inj z))
            subst this
            exact ha.2.2 i _ e1 rfl h1
    | exc x =>
      have hm : (backA ss ρ1).map (fun t => (SR.exc x, t)) = some (r, ss') := hm
      cases qb : backA ss ρ1 with
      | none => rw [qb] at hm; cases hm
      | some t => rw [qb] at hm; cases hm; exact hp F' H' (er.leave er' qb)
    | brk => cases hm
    | cnt => cases hm

theorem okG_of {x qual : Str} {st : Stmt} {f : Addr} {fd : FuncData} {N ps : List Str} {k : Nat} {g : SM} (F : Fun K x qual st f fd) (S : FnScope N ps (defScope st)) (bd : Binds K fd ps [])
    (hb : ∀ (cdv : Value) (A : Around) (outer : List PySem.Env) (s : Shared) (H : Hp) (E : XK), A.guards = some [] → Room k (A.deeper (envOfC qual (defScope st) s.heap.objs.size f cdv)) →
      PSsd (cxOf (L2.CX P w) P w K mg base N qual (defScope st) f cdv A outer s H E) cm (fun cls d _ H => E cls d H) (defBody st) g) :
    OkG P w K mg base cm (k + 1) f (fnD ps.length N.length g) := by
  refine (fnG_of (sp := spD K cm ps.length (fnD ps.length N.length g)) F S (fun vs H Q E h => ?_) bd fun cdv A outer s H vs Q E hg hr h => def_body (hb cdv A outer s H E hg hr) h).imp fun vs H Q E h => ?_
  · obtain ⟨_, _, _, _, _, hl, _⟩ := h
    exact hl
  · obtain ⟨F0, ss, ss', r, pa, _, er, hm, hp⟩ := h
    have hl := fnD_len hm
    have h2 := er.len
    rw [List.length_map] at h2
    exact ⟨F0, ss, ss', r, pa, by rw [← h2]; exact hl, er, hm, hp⟩
end
section
variable {X : Cx} {cm : Str → Option Addr} {W : WX} {pos p : Pos} {e : Expr} {es : List Expr} {fs : M (List Op)} {k : Nat} {f : Addr} {m : FD} {x : Str}
theorem jd_callG {t : TA} (hm : Good m) (j : JdP X cm W (fun _ _ _ _ _ => True) (rOs X.K cm) t fs) : Jd X cm W (rS X.K cm) (tCallS (spA X.K cm m) (WE W) t) (callS m fs) := by
  unfold callS
  refine JdP.bindS (rel1 := rOs X.K cm) (t1 := t) (t2 := fun vs σ H Q => spA X.K cm m vs H Q (WE W σ)) stable_true j fun os vs => ?_
  intro G F0 H σ ρ r ρ' er hp hf Q hQ
  have hv : Paired (rO X.K cm G F0 H σ ρ) os vs := hp.2
  by_cases c : ∃ ss p, argS ρ os = some ss ∧ m ss = some p
  · obtain ⟨ss, pr, qa, qm⟩ := c
    have hl : ss.length = vs.length := by rw [(argS_at qa).1]; exact paired_len hv
    -- the same run, of a def that takes so many
    let m' : FD := fun s => if s.length = vs.length then m s else none
    have hm' : Tame m' := fun s r s' h => by
      by_cases c : s.length = vs.length
      · exact hm.tame s r s' (by rw [← h]; exact (if_pos c).symm)
      · rw [show m' s = none from if_neg c] at h; cases h
    have hf' : callR m' os ρ = some (r, ρ') := by
      rw [← hf]
      show (callM m' os ρ).bind _ = (callM m os ρ).bind _
      have : callM m' os ρ = callM m os ρ := by
        unfold callM
        rw [qa]
        show (if (slotsOf os).Nodup then (m' ss).bind _ else none) = (if (slotsOf os).Nodup then (m ss).bind _ else none)
        rw [show m' ss = m ss from if_pos hl]
      rw [this]
    have z := jd_sp (X := X) (cm := cm) (W := W) (np := vs.length) (vs := vs) hm' (fun s pp h => by
      by_cases c : s.length = vs.length
      · exact c
      · rw [show m' s = none from if_neg c] at h; cases h) G F0 H σ ρ r ρ' er hv hf' Q hQ
    obtain ⟨F1, s1, s2, r1, pa1, h1, h2, h3, h4⟩ := z
    refine ⟨F1, s1, s2, r1, pa1, h1, h2, ?_, h4⟩
    by_cases c : s1.length = vs.length
    · rw [← h3]; exact (if_pos c).symm
    · rw [show m' s1 = none from if_neg c] at h3; cases h3
  · exfalso
    have hf : (callM m os ρ).bind (fun p => (toR p.1).map fun r => (r, p.2)) = some (r, ρ') := hf
    have q : callM m os ρ = none := by
      unfold callM
      cases qa : argS ρ os with
      | none => rfl
      | some ss =>
        show (if (slotsOf os).Nodup then (m ss).bind _ else none) = none
        cases qm : m ss with
        | none => by_cases c : (slotsOf os).Nodup <;> simp [c]
        | some pr => exact absurd ⟨ss, pr, qa, qm⟩ c
    rw [q] at hf; cases hf

theorem pe_callG {sp : Sp} {E : St → XK} {t : TA} (F : FnG X.prog X.w X.K X.mg X.base k f sp) (hG : X.A.guards = some []) (hr : Room k X.A) (hg : Gl X x) (hmg : X.mg x = some (.ref f)) (hk : PySem.W.keepIn X.K (.ref f) = true) (hx : ∀ σ, PassesAt (L2.CX X.prog X.w) X σ (E σ))
    (ha : PA X (e :: es) t) (hdb : (x == ("__debug__" : Str)) = false := by decide) (he : starEach (e :: es) X.env = (false, eval e X.env) :: starEach es X.env := by rfl) (hpl : (backTo pos (starEach es X.env)).any (·.1) = false := by rfl) :
    PE X (.Call (.Name x p) (e :: es) [] pos) (tCallS sp E t) := by
  constructor
  intro pins s σ H Q I h
  refine wpAny_Call_Name_kw (ld_glob I hg hmg (PySem.W.callWith_K (h₀ := X.base) I.ok.mod.kin hk (thn (ha.run pos pins s σ H _ I h) fun us s1 ⟨vs, H1, I1, r, q⟩ => ⟨I1.kIn, ?_⟩) he hpl) hdb)
  refine wpAny_call (codeAny_mono (F X.A X.stack s1 H1 us vs Q (E σ) hG hr I1.env0 r q) fun z s' hz => ?_)
  match z, hz with
  | .error y, hz => exact hx σ pins H1 s1 y s' I1 hz
  | .ok (.ret u), hz => exact I1.after hz
  | .ok .next, hz => exact False.elim hz
  | .ok .brk, hz => exact False.elim hz
  | .ok .cont, hz => exact False.elim hz
theorem psl_callG (F : OkG X.prog X.w X.K X.mg X.base cm k f m) (hm : Good m) (tk : Takes X W) (hG : X.A.guards = some []) (hr : Room k X.A) (hg : Gl X x) (hmg : X.mg x = some (.ref f)) (hk : PySem.W.keepIn X.K (.ref f) = true)
    (ha : PAs X cm W (e :: es) fs) (hdb : (x == ("__debug__" : Str)) = false := by decide) (he : starEach (e :: es) X.env = (false, eval e X.env) :: starEach es X.env := by rfl) (hpl : (backTo pos (starEach es X.env)).any (·.1) = false := by rfl) :
    PSl X cm W (.Call (.Name x p) (e :: es) [] pos) (callS m fs) := by
  obtain ⟨t, pa, j⟩ := ha
  exact ⟨_, pe_callG F hG hr hg hmg hk (fun σ => passAt tk σ) pa hdb he hpl, jd_callG hm j⟩
end
end Pd

/-! Pd39: the law's head, for a promise that leans on "no guard". -/
namespace Pd
open PySem PySem.Spec PyProof.Rows L2
section
variable {P : Program} {w : World} {K : PySem.W.Frag} {mg mb : Str → Option Value} {k : Nat} {fa a : Addr} {sp : Sp} {sA : Shared} {vs : List Value} {ns : List Int}
theorem headG_core {H : Hp} (KX : K.In sA.heap) (hns : sA.heap.Ns mainGlobals mg) (hb : sA.heap.Ns builtinsNs mb) (hbb : ∀ x : Str, x ≠ "__name__" → mb x = bootBuiltins x) (hlim : sA.heap.NoLimit) (hg : sA.gens = #[])
    (ha : sA.heap.get? a = some { cls := .type "list", data := .seq vs.toArray }) (hr : Room k callerA) (F : ∀ base : Heap, K.In base → base.Ns mainGlobals mg → FnG P w K mg base k fa sp)
    (hsp : sp [.ref a] H (fun v _ => v = .bl true) fun _ _ _ => False) (hO : Only H) (hok : HOk P w H sA.heap) (hA : ∀ b, H b ≠ none → b = a) (hK : H a ≠ none → K.lookup a = none) :
    codeAny (model P w) callerA (.call (.ref fa) ⟨[.ref a], []⟩) (fun r s' => r = .ok (.ret (.bool true)) ∧ OldK sA.heap s'.heap ∧ s'.os = sA.os ∧ AllBare s'.gens) sA := by
  have isA : ∀ {b : Addr}, H b ≠ none → b = a := fun {b} z => hA b z
  have dictNo : ∀ {b : Addr} {o : Obj} {es : Array DictEntry} {ep : Nat}, sA.heap.get? b = some o → o.data = .dict es ep → H b = none := by
    intro b o es ep e d
    cases q : H b with
    | none => rfl
    | some u =>
      have z := isA (b := b) (by rw [q]; simp)
      subst z
      rw [ha] at e
      cases e
      have d : Data.seq vs.toArray _ = Data.dict es ep := d
      cases d
  have nsK : ∀ {b : Addr} {m : Str → Option Value}, sA.heap.Ns b m → (hidT sA.heap H).Ns b m := by
    rintro b m ⟨o, es, ep, e, d, r⟩
    exact ⟨o, es, ep, hidT_get e (dictNo e d), d, r⟩
  have kB : K.In (hidT sA.heap H) := by
    intro b o e
    refine hidT_get (KX b o e) ?_
    cases q : H b with
    | none => rfl
    | some u =>
      have z := isA (b := b) (by rw [q]; simp)
      subst z
      rw [hK (by rw [q]; simp)] at e
      cases e
  obtain ⟨mc, l1, l2⟩ := hlim
  have e0 : Env0 P w K mg (hidT sA.heap H) callerA [] sA H := ⟨rfl, ⟨kB, nsK hns, ⟨mb, nsK hb, hbb⟩, ⟨mc, nsK l1, l2⟩⟩, fun b o e => of_hidT e, Nat.le_of_eq (hidT_size _ _), trivial, fun b hb => absurd (show b ∈ ([] : List Addr) from hb) (by simp), hok, .of_eq hg⟩
  refine codeAny_mono (F _ kB (nsK hns) callerA [] sA H [.ref a] [.ref a] _ _ rfl hr e0 (.cons rfl .nil) hsp) fun r s' h => ?_
  match r, h with
  | .error e, h => exact (by unfold CR at h; unfold L2.CX at h; obtain ⟨_, _, _, _, _, _, _, _, _, _, _, _, z⟩ := h; exact z.elim)
  | .ok .next, h => exact False.elim h
  | .ok .brk, h => exact False.elim h
  | .ok .cont, h => exact False.elim h
  | .ok (.ret u), h =>
    obtain ⟨v, H', os, bare, un, hok', r', q⟩ := h
    have q : v = .bl true := q
    subst q
    cases (show u = Value.bool true from r')
    refine ⟨rfl, OldK.of_keep fun b o e => ?_, os, bare⟩
    cases q : H b with
    | none => exact un.keep b o e q (fun z => absurd (show b ∈ ([] : List Addr) from z) (by simp)) (by simp)
    | some u =>
      rcases hO b with z | ⟨ob, xs, z⟩
      · rw [q] at z; cases z
      · have z2 := un.frzs b ob _ z
        have e1 := (hok b _ z).1
        rw [e] at e1
        cases e1
        exact (hok' b _ z2).1
theorem headG (KX : K.In sA.heap) (hns : sA.heap.Ns mainGlobals mg) (hb : sA.heap.Ns builtinsNs mb) (hbb : ∀ x : Str, x ≠ "__name__" → mb x = bootBuiltins x) (hlim : sA.heap.NoLimit) (hg : sA.gens = #[])
    (ha : sA.heap.get? a = some { cls := .type "list", data := .seq vs.toArray }) (hi : IntsAre vs ns) (hl : ns.length ≤ sizeLine) (hr : Room k callerA) (F : ∀ base : Heap, K.In base → base.Ns mainGlobals mg → FnG P w K mg base k fa sp)
    (hsp : ∀ H : Hp, Only H → SqL K H a (ns.map V.int) → sp [.ref a] H (fun v _ => v = .bl true) fun _ _ _ => False) :
    codeAny (model P w) callerA (.call (.ref fa) ⟨[.ref a], []⟩) (fun r s' => r = .ok (.ret (.bool true)) ∧ OldK sA.heap s'.heap ∧ s'.os = sA.os ∧ AllBare s'.gens) sA := by
  have rv := vals_ints hi
  cases hk : K.lookup a with
  | some o =>
    have e := KX a o hk
    rw [ha] at e
    cases e
    refine headG_core (H := fun _ => none) KX hns hb hbb hlim hg ha hr F (hsp _ (fun _ => .inl rfl) (.inr ⟨_, vs.toArray, _, hk, rfl, rfl, rfl, by rw [List.size_toArray, hi.length]; exact hl, by simpa using rv⟩)) (fun _ => .inl rfl) (fun b u z => nomatch (show (none : Option HO) = some u from z)) (fun b z => absurd rfl z) fun z => absurd rfl z
  | none =>
    let H : Hp := fun b => if b = a then some (.frz { cls := .type "list", data := .seq vs.toArray } (.lst (ns.map V.int))) else none
    have hH : H a = some (.frz { cls := .type "list", data := .seq vs.toArray } (.lst (ns.map V.int))) := if_pos rfl
    have hN : ∀ b, b ≠ a → H b = none := fun b z => if_neg z
    have hO : Only H := fun b => by
      by_cases z : b = a
      · subst z; exact .inr ⟨_, _, hH⟩
      · exact .inl (hN b z)
    refine headG_core (H := H) KX hns hb hbb hlim hg ha hr F (hsp H hO (.inl (.inr ⟨_, hH⟩))) hO (fun b u z => ?_) (fun b z => Classical.byContradiction fun y => z (hN b y)) fun _ => hk
    by_cases y : b = a
    · subst y
      rw [hH] at z
      cases z
      exact ⟨ha, by rw [List.length_map]; exact hl, vs, _, rv, ha⟩
    · rw [hN b y] at z; cases z
end
theorem walkG {l : PySem.W.OpenLaw} {n k : Nat} {q : Program} {loose : List Str} {XP : (Str → Option Value) → Heap → Prop} {YP : World → Heap → Prop} {d : DefRec} {K : Params → PySem.W.Frag} {sp : World → Sp}
    (hn : l.most = some n) (hn2 : n ≤ sizeLine) (hdf : d.params.defaults = []) (hr : Room k callerA) (hY : ∀ (w : World) (h : Heap), YP w h → (K w.params).In h)
    (F : ∀ (w : World) (mg : Str → Option Value) (fa : Addr) (h : Heap), (K w.params).In h → h.Ns mainGlobals mg → mg d.name = some (.ref fa) → ∀ base : Heap, (K w.params).In base → base.Ns mainGlobals mg → FnG l.prog w (K w.params) mg base k fa (sp w))
    (hsp : ∀ (w : World) (H : Hp) (a : Addr) (ns : List Int), ns.length ≤ n → Only H → SqL (K w.params) H a (ns.map V.int) → sp w [.ref a] H (fun v _ => v = .bl true) fun _ _ _ => False) :
    PySem.W.WalkO q loose XP YP l.row.toRowW d [] (fun f vs => PySem.call f vs) := by
  refine Att.attach_call hn hdf fun w s₀ s₁ mg mb fa o pm cd doc a vs ns G Y ho hd hcd hmg hobj hints hlen hg => ?_
  have KX := hY w _ Y
  exact headG KX G.T.g G.T.b G.T.builtins G.T.nolimit hg hobj hints (Nat.le_trans hlen hn2) hr (F w mg fa _ KX G.T.g hmg) fun H hO hS => hsp w H a ns hlen hO hS
section
variable {P : Program} {w : World} {K : PySem.W.Frag} {mg : Str → Option Value} {base : Heap} {cm : Str → Option Addr}
theorem law_endG {k : Nat} {f : Addr} {m : FD} (F : OkG P w K mg base cm k f m) (hm : ∀ ns : List Int, ns.length ≤ 63 → ∃ ss', m [.val (.frl (ns.map .int))] = some (.ret (.val (.bl true)), ss')) : FnG P w K mg base k f (spLaw K) := by
  refine F.imp fun vs H Q E h => ?_
  obtain ⟨a, ns, rfl, hl, hS, q⟩ := h
  obtain ⟨ss', e⟩ := hm ns hl
  refine ⟨H, [.val (.frl (ns.map .int))], ss', _, fun _ => False, rfl, ?_, e, fun F' H' er' v hv => ?_⟩
  · have r : Rps K cm H [.frl (ns.map .int)] [.ref a] := .cons (.frl hS (ints_rps ns)) .nil
    exact vals_er r (Same.refl H) (Ext.refl H) (fun _ _ h _ => h) (fun _ h => h) (fun _ _ h => h) (fun _ _ h => h)
  · cases hv; exact q H'
end
end Pd

/-! Pd40: repr of a list. -/
namespace Pd
open PySem PySem.Spec L2
mutual
theorem toPy_noDict : ∀ {d : D} {p : PyData}, toPy d = some p → p.hasDict = false
  | .non, _, e => by cases e; rfl
  | .bl _, _, e => by cases e; rfl
  | .int _, _, e => by cases e; rfl
  | .str _, _, e => by cases e; rfl
  | .tup ds, p, e => by
    have e : (toPys ds).map PyData.tuple = some p := e
    cases q : toPys ds with
    | none => rw [q] at e; cases e
    | some ps => rw [q] at e; cases e; simp only [PyData.hasDict]; exact toPys_noDict q
  | .frt ds, p, e => by
    have e : (toPys ds).map PyData.tuple = some p := e
    cases q : toPys ds with
    | none => rw [q] at e; cases e
    | some ps => rw [q] at e; cases e; simp only [PyData.hasDict]; exact toPys_noDict q
  | .lst ds, p, e => by
    have e : (toPys ds).map PyData.list = some p := e
    cases q : toPys ds with
    | none => rw [q] at e; cases e
    | some ps => rw [q] at e; cases e; simp only [PyData.hasDict]; exact toPys_noDict q
  | .frl ds, p, e => by
    have e : (toPys ds).map PyData.list = some p := e
    cases q : toPys ds with
    | none => rw [q] at e; cases e
    | some ps => rw [q] at e; cases e; simp only [PyData.hasDict]; exact toPys_noDict q
  | .dk _, _, e => nomatch e
  | .dt _, _, e => nomatch e
  | .ins _ _, _, e => nomatch e
  | .exn _ _, _, e => nomatch e
theorem toPys_noDict : ∀ {ds : List D} {ps : List PyData}, toPys ds = some ps → PyData.hasDictAll ps = false
  | [], _, e => by cases e; rfl
  | d :: ds, ps, e => by
    have e : ((toPy d).bind fun p => (toPys ds).map fun ps => p :: ps) = some ps := e
    cases q : toPy d with
    | none => rw [q] at e; cases e
    | some p =>
      rw [q] at e
      have e : ((toPys ds).map fun ps => p :: ps) = some ps := e
      cases q2 : toPys ds with
      | none => rw [q2] at e; cases e
      | some ps2 =>
        rw [q2] at e; cases e
        simp only [PyData.hasDictAll, toPy_noDict q, toPys_noDict q2, Bool.or_self]
end
def keyPy : Key → PyData
  | .inl i => .int i
  | .inr x => .str x
def isNil : D → Bool
  | .tup [] => true
  | _ => false
/-- an item whose repr is told -/
def elR : D → Option PyData
  | .dk kvs => if (kvs.all fun p => isNil p.2) = true then some (.dict (kvs.map fun p => (keyPy p.1, .tuple []))) else none
  | d => toPy d
def elRs : List D → Option (List PyData)
  | [] => some []
  | d :: ds => (elR d).bind fun p => (elRs ds).map fun ps => p :: ps
section
variable {X : Cx} {cm : Str → Option Addr} {pins : List (Addr × Obj)} {σ : St} {F H : Hp} {s : Shared}
theorem nil_reads (I : Inv X pins σ H s) (sf : Same F H) {d : D} {v : V} {u : Value} (h : Rp X.K cm F d v) (e : isNil d = true) (r : RelV v u) : Reads s.heap u (.tuple []) [] := by
  match d, h, e with
  | .tup [], .tup (a := a) h1 h2, _ =>
    cases h2
    cases (show u = Value.ref a from r)
    obtain ⟨_, its, rv, o, g1, g2, n, g3⟩ := (show ObjOk X.prog X.w H s.heap a (.tup []) from I.hok a _ (sf _ _ h1))
    cases rv
    exact .tuple g1 g2 g3 .nil
theorem pairs_read (I : Inv X pins σ H s) (sf : Same F H) : ∀ {kvs : List (Key × D)} {ks : List (Key × V)} {vs : List (Key × Value)} {es : List DictEntry}, ks.map (·.1) = kvs.map (·.1) → Rps X.K cm F (kvs.map (·.2)) (ks.map (·.2)) → KV ks vs → Pairs (mixKind X.prog X.w) es vs → (kvs.all fun p => isNil p.2) = true →
    ReadsAll s.heap (es.map (·.key)) (kvs.map fun p => keyPy p.1) [] ∧ ReadsAll s.heap (es.map (·.val)) (kvs.map fun _ => PyData.tuple []) []
  | [], [], _, _, _, _, .nil, .nil, _ => ⟨.nil, .nil⟩
  | (k, d) :: kvs, (k2, v) :: ks, _, _, hn, .cons r1 r2, .cons (b := q) c1 c2, .cons (e := en) p1 p2 p3, ha => by
    obtain ⟨k3, u⟩ := q
    have e1 : k2 = k := (List.cons.inj hn).1
    subst e1
    obtain ⟨c3, c4⟩ := c1
    have c3 : k2 = k3 := c3
    subst c3
    have ha : (isNil d && kvs.all fun p => isNil p.2) = true := ha
    rw [Bool.and_eq_true] at ha
    obtain ⟨i1, i2⟩ := pairs_read I sf (List.cons.inj hn).2 r2 c2 p3 ha.2
    have p2 : en.val = u := p2
    have hk : Reads s.heap en.key (keyPy k2) [] := by
      rcases keyIs_shape (show keyIs k2 en.key = true from p1) with ⟨i, t, z1, z2⟩ | ⟨x, t, z1, z2⟩
      · rw [z2, z1]; exact .int i t
      · rw [z2, z1]; exact .str x t
    have hv : Reads s.heap en.val (.tuple []) [] := by rw [p2]; exact nil_reads I sf r1 ha.1 c4
    exact ⟨.cons hk i1, .cons hv i2⟩
theorem el_reads (I : Inv X pins σ H s) (sf : Same F H) {d : D} {v : V} {u : Value} {p : PyData} (h : Rp X.K cm F d v) (e : elR d = some p) (r : RelV v u) : ∃ as, Reads s.heap u p as ∧ (p.hasDict = true → sysModules ∉ as) := by
  have gen : toPy d = some p → ∃ as, Reads s.heap u p as ∧ (p.hasDict = true → sysModules ∉ as) := fun e => by
    obtain ⟨as, z⟩ := Dp.reads I p v u (h.dp sf e) r
    exact ⟨as, z, PyData.noDict_hsm (toPy_noDict e)⟩
  match d, h, e with
  | .dk kvs, .dk (a := a) (ks := ks) h1 h2 h3, e =>
    have e : (if (kvs.all fun p => isNil p.2) = true then some (PyData.dict (kvs.map fun p => (keyPy p.1, .tuple []))) else none) = some p := e
    by_cases c : (kvs.all fun p => isNil p.2) = true
    · rw [if_pos c] at e
      cases e
      cases (show u = Value.ref a from r)
      have rd : Rd H a (.dK ks) := by
        rcases rdK_cases h1 with z | ⟨o, z⟩
        · exact .inl (sf _ _ z)
        · exact .inr ⟨o, sf _ _ z⟩
      obtain ⟨_, ns, vs, kv, o, es, ep, g1, g2, g3, _, g4, _⟩ := dk_rd I.hok rd
      obtain ⟨r1, r2⟩ := pairs_read I sf h2 h3 kv g4 c
      refine ⟨_, .dict (as := []) (bs := []) g1 g2.1 g3 (by rw [List.map_map]; exact r1) (by rw [List.map_map]; exact r2), fun _ hm => ?_⟩
      have hm : sysModules ∈ [a] := hm
      exact absurd (List.mem_singleton.mp hm).symm (beq_eq_false_iff_ne.mp ns)
    · rw [if_neg c] at e; cases e
  | .non, _, e => exact gen e
  | .bl _, _, e => exact gen e
  | .int _, _, e => exact gen e
  | .str _, _, e => exact gen e
  | .tup _, _, e => exact gen e
  | .frt _, _, e => exact gen e
  | .lst _, _, e => exact gen e
  | .frl _, _, e => exact gen e
  | .dt _, _, e => exact gen e
  | .ins _ _, _, e => exact gen e
  | .exn _ _, _, e => exact gen e
theorem els_reads (I : Inv X pins σ H s) (sf : Same F H) : ∀ {ds : List D} {vs : List V} {us : List Value} {ps : List PyData}, Rps X.K cm F ds vs → elRs ds = some ps → Vals vs us → PyData.showableAll ps = true → (∀ t ∈ PyData.shownAll ps, t.length ≤ sizeLine) →
    (∃ as, ReadsAll s.heap us ps as) ∧ ∃ bs, ReadAtMost s.heap (PyData.depthAll ps) bs ∧ ReprAllK X.prog X.w bs s.heap (PyData.depthAll ps) us (PyData.shownAll ps)
  | [], _, _, ps, .nil, e, .nil, _, _ => by
    cases e
    exact ⟨⟨_, .nil⟩, [], (fun _ h => nomatch h), by simp only [PyData.shownAll]; exact .nil⟩
  | d :: ds, _, _, ps, .cons h hs, e, @Paired.cons _ _ _ _ u _ us r rs, sh, sz => by
    have e : ((elR d).bind fun p => (elRs ds).map fun ps => p :: ps) = some ps := e
    cases q : elR d with
    | none => rw [q] at e; cases e
    | some p =>
      rw [q] at e
      have e : ((elRs ds).map fun ps => p :: ps) = some ps := e
      cases q2 : elRs ds with
      | none => rw [q2] at e; cases e
      | some ps2 =>
        rw [q2] at e; cases e
        have sh : p.showable = true ∧ PyData.showableAll ps2 = true := by simpa [PyData.showableAll] using sh
        obtain ⟨as, r1, ns⟩ := el_reads I sf h q r
        obtain ⟨b1, m1, k1⟩ := ReprK.of_reads (prog := X.prog) (w := X.w) r1 sh.1 ns (sz _ (by simp only [PyData.shownAll]; exact List.mem_cons_self ..))
        obtain ⟨⟨as2, r2⟩, b2, m2, k2⟩ := els_reads I sf hs q2 rs sh.2 fun t ht => sz t (by simp only [PyData.shownAll]; exact List.mem_cons_of_mem _ ht)
        refine ⟨⟨_, .cons r1 r2⟩, b1 ++ b2, fun b hm => ?_, ?_⟩
        · simp only [PyData.depthAll]
          rcases List.mem_append.mp hm with hm | hm
          · exact (m1.mono (Nat.le_max_left _ _)) b hm
          · exact (m2.mono (Nat.le_max_right _ _)) b hm
        · simp only [PyData.depthAll, PyData.shownAll]
          exact .cons ((k1.more fun b hb => List.mem_append_left _ hb).level_le (Nat.le_max_left _ _)) (k2.more_le (fun b hb => List.mem_append_right _ hb) (Nat.le_max_right _ _))
/-- repr of a list -/
def reprG : D → Option D
  | .lst ds => (elRs ds).bind fun ps => if PyData.showableAll ps = true ∧ (listText (PyData.shownAll ps)).length ≤ 100000 ∧ PyData.depthAll ps ≤ 20 then some (.str (listText (PyData.shownAll ps))) else none
  | _ => none
def rRepr (K : PySem.W.Frag) (cm : Str → Option Addr) (F : Hp) (ds : List D) (ps : List PyData) : List V → Hp → VK → Prop := fun xs H Q => ∃ a vs, xs = [.ref a] ∧ Same F H ∧ H a = some (.lst vs) ∧ Rps K cm F ds vs ∧ Q (.str (listText (PyData.shownAll ps))) H
theorem call_reprL (hG : X.A.guards = some []) (hu : X.A.units + 64 < cLine) {ds : List D} {ps : List PyData} (e : elRs ds = some ps) (h1 : PyData.showableAll ps = true) (h2 : (listText (PyData.shownAll ps)).length ≤ 100000) (h3 : PyData.depthAll ps ≤ 20) {Q : VK} {us : List Value} {xs : List V}
    (I : Inv X pins σ H s) (r : Vals xs us) (h : rRepr X.K cm F ds ps xs H Q) : wpAny (model X.prog X.w) X.A (call (.builtin "repr") us) (EP X pins σ Q) X.xe s := by
  obtain ⟨a, vs, rfl, sf, ea, rp, q⟩ := h
  obtain ⟨u1, rfl, r1⟩ := vals1 r
  cases (show u1 = Value.ref a from r1)
  obtain ⟨_, its, n, rv, ho⟩ := (show ObjOk X.prog X.w H s.heap a (.lst vs) from I.hok a _ ea)
  have hz : (listText (PyData.shownAll ps)).length ≤ sizeLine := Nat.le_trans h2 (by rw [sizeLine_eq]; omega)
  obtain ⟨⟨as, ra⟩, bs, mb, kb⟩ := els_reads I sf rp e rv h1 fun t ht => Nat.le_trans (listText_mem_le ht) hz
  have ty : s.TypeIs (.ref a) "list" := ⟨_, ho, rfl⟩
  have fin : ∀ h' u tk, (∀ b o, s.heap.get? b = some o → h'.get? b = some o) → EP X pins σ Q (.str (listText (PyData.shownAll ps)) u) { s with heap := h', toks := tk } := fun h' u tk k => ⟨.str _, H, I.kept k, ⟨u, rfl⟩, q⟩
  refine call_repr_slot (by omega) ty PySem.F.slot_list_repr.toG ?_
  cases its with
  | nil =>
    cases rv
    cases rp
    cases e
    exact call_list_repr_empty ty ho rfl ⟨_, _, rfl, fin s.heap _ _ fun _ _ z => z⟩
  | cons x l =>
    have rl : Reads s.heap (.ref a) (.list ps) (a :: as) := .list ho rfl rfl (by simpa using ra)
    have hna : a ∉ bs := not_mem_of_deeper rl (by simp only [PyData.depth]; omega) mb
    exact call_list_reprK (g := []) (d := PyData.depthAll ps) ho rfl rfl hna (by simpa using kb.length_eq) (fun i y z => kb.item i y (by simpa using z)) (by exact hG) (fun b _ => Clear.nil b) (by show X.A.units + 1 + _ < _; omega) (fun _ _ z => z) (fun h' u tk k => ⟨_, _, rfl, fin h' u tk k⟩) hz
end
end Pd

/-! Pd41: repr(x), [..] * k, {'a': ()}. -/
namespace Pd
open PySem PySem.Spec L2
open PyProof.Rows (envOfC)
section
variable {X : Cx} {cm : Str → Option Addr} {W : WX} {pos p : Pos} {e : Expr} {fo : M Op} {K : PySem.W.Frag}
def rReprX (K : PySem.W.Frag) (cm : Str → Option Addr) : List V → Hp → VK → Prop := fun xs H Q => ∃ (F : Hp) (ds : List D) (ps : List PyData), elRs ds = some ps ∧ PyData.showableAll ps = true ∧ (listText (PyData.shownAll ps)).length ≤ 100000 ∧ PyData.depthAll ps ≤ 20 ∧ rRepr K cm F ds ps xs H Q
theorem call_reprX (hG : X.A.guards = some []) (hu : X.A.units + 64 < cLine) : CallR X (.builtin "repr") (rReprX X.K cm) := by
  rintro pins s σ H xs us Q I r ⟨F, ds, ps, h1, h2, h3, h4, h5⟩
  exact call_reprL hG hu h1 h2 h3 h4 I r h5
theorem pd_repr (hG : X.A.guards = some []) (hu : X.A.units + 64 < cLine) (hg : Gl X "repr") (hm : X.mg "repr" = none) (he : PO X cm W e fo) (hs : starEach (e :: []) X.env = (false, eval e X.env) :: starEach [] X.env := by rfl) (hpl : (backTo pos (starEach [] X.env)).any (·.1) = false := by rfl) :
    PD X cm W (.Call (.Name "repr" p) [e] [] pos) (app1 reprG fo) := by
  obtain ⟨t, pe, j⟩ := he
  refine ⟨_, pe_callB (call_reprX hG hu (cm := cm)) hg hm (by decide +kernel) (pa_cons pe pa_nil hs) (by decide) (by decide) hs hpl, ?_⟩
  refine jd_app1 (t2 := fun v σ H Q => rReprX X.K cm [v] H Q) j fun F H σ v d z s hv hg Q k => ?_
  match d, hv, hg with
  | .lst ds, hv, hg =>
    have hg : (elRs ds).bind (fun ps => if PyData.showableAll ps = true ∧ (listText (PyData.shownAll ps)).length ≤ 100000 ∧ PyData.depthAll ps ≤ 20 then some (D.str (listText (PyData.shownAll ps))) else none) = some z := hg
    cases q : elRs ds with
    | none => rw [q] at hg; cases hg
    | some ps =>
      rw [q] at hg
      have hg : (if PyData.showableAll ps = true ∧ (listText (PyData.shownAll ps)).length ≤ 100000 ∧ PyData.depthAll ps ≤ 20 then some (D.str (listText (PyData.shownAll ps))) else none) = some z := hg
      by_cases c : PyData.showableAll ps = true ∧ (listText (PyData.shownAll ps)).length ≤ 100000 ∧ PyData.depthAll ps ≤ 20
      · rw [if_pos c] at hg
        cases hg
        obtain ⟨a, xs, rfl, h1, r1⟩ := hv.lst s
        exact ⟨F, ds, ps, q, c.1, c.2.1, c.2.2, a, xs, rfl, s, h1, r1, k F H _ (Grow.refl s) (.str _)⟩
      · rw [if_neg c] at hg; cases hg
/-- {'a': ()} -/
theorem pd_disp0 {x : Str} {j k : Nat} {p1 p2 : Pos} : PD X cm W (.Dict [some (.Constant (.str x) j p1)] [.Tuple [] k p2] pos) (M.ret (.dk [(.inr x, .tup [])])) := by
  refine ⟨_, pe_disp (pps_cons pe_str (pe_tup pa_nil) pps_nil) rfl rfl (by simp) (by show (1 : Nat) ≤ 15; omega), fun G F H σ ρ r ρ' er _ hf Q hQ => ?_⟩
  cases hf
  intro a ha
  refine ⟨Nat.zero_le _, fun q hq => ?_⟩
  have ne : q ≠ a := fun z => by rw [z, upd_same] at hq; cases hq
  have hq0 : H q = none := by rw [upd_ne ne] at hq; exact hq
  refine ⟨by rw [upd_ne (Ne.symm ne), upd_same], [(.inr x, .ref q)], rfl, by show (1 : Nat) ≤ 15; omega, ?_⟩
  have g1 := Grow.new (o := .tup []) er.sub hq0
  have g2 := Grow.new (o := .dK [(.inr x, .ref q)]) g1.sub (p := a) (by rw [upd_ne (Ne.symm ne)]; exact ha)
  have g := g1.trans g2
  have eq : upd (upd (upd H a (.dK [])) q (.tup [])) a (.dK (mergeK [] [(.inr x, .ref q)])) = upd (upd H q (.tup [])) a (.dK [(.inr x, .ref q)]) := by
    funext b
    by_cases c : b = a
    · subst c; rw [upd_same, upd_same]; rfl
    · rw [upd_ne c, upd_ne c]
      by_cases c2 : b = q
      · subst c2; rw [upd_same, upd_same]
      · rw [upd_ne c2, upd_ne c2, upd_ne c]
  rw [eq]
  refine hQ _ _ (er.grow g) (Ext.of g.f) _ (.dk (ks := [(.inr x, .ref q)]) ⟨_, upd_same, rfl⟩ rfl (.cons (.tup ?_ .nil) .nil))
  rw [upd_ne ne, upd_same]
end
end Pd

/-! Pd42: facts of exception classes, put together. -/
namespace Pd
open PySem PySem.Spec L2
/-- the j-th statement of a class's body -/
def clsM (s : Stmt) (j : Nat) : Stmt := match s with
  | .ClassDef _ _ _ b _ _ _ _ _ _ _ => b.getD j s
  | _ => s
section
variable {prog : Program} {K : PySem.W.Frag} {C cc cda fI : Addr} {bmB : List Value} {B0 newId B1 initId : String} {f x self : Str} {name qual : Str} {params : Arguments} {scope : Scope} {body : List Stmt} {dV kV doc pm ct oc : Value} {an od : Option Addr} {osl : Array (Option Value)} {p0 p1 p2 p3 p4 p5 p6 p7 p8 p9 : Pos}
theorem initF_of (T : Xc.InitC K prog C fI cc cda B0 newId B1 initId bmB f) (l : K.lookup fI = some ⟨oc, od, .func (PySem.W.ksFn name qual params body scope dV kV doc pm an (.ref cda) ct cc), osl⟩) (hcd : PySem.W.codeIn K (.ref cda) qual = true) (hbody : body = Xc.initBody self x f p0 p1 p2 p3 p4 p5 p6 p7 p8 p9)
    (hbind : ∀ (s : Shared) (e : Addr) (v : Value), BindsTo s (PySem.W.ksFn name qual params body scope dV kV doc pm an (.ref cda) ct cc) ⟨[.ref e, v], []⟩ [(self, .ref e), (x, v)])
    (hpar : ∃ ar, (params.posonlyargs ++ params.args).head? = some ar ∧ ar.arg = self) (hsx : self ≠ x) (hks : scope.names.lookup ("super" : Str) = some .globalImplicit) (hkc : scope.names.lookup ("__class__" : Str) = some .free) (hkself : scope.names.lookup self = some .local) (hkx : scope.names.lookup x = some .local)
    (hk : scope.kind = .function) (hco : scope.isCoroutine = false) (hgen : scope.isGenerator = false) (hcell : ∀ y ∈ scope.names, y.2 ≠ .cell) (dself : (self == ("__debug__" : Str)) = false) (dx' : (x == ("__debug__" : Str)) = false)
    (hint : ∀ L, interactive (PySem.W.ksEnv qual scope L fI (.ref cda) cc) = false) (hsw1 : ∀ env : PySem.Env, swapsWith (.Call (.Attribute (.Call (.Name "super" p0) [] [] p1) "__init__" p2) [.Name x p3] [] p4) none p5.line env = pure false)
    (hsw2 : ∀ env : PySem.Env, swapsWith (.Name x p8) (some (.Attribute (.Name self p6) f p7)) p9.line env = pure false)
    (hev : ∀ L, ∃ pl : Sem Bool, eval (.Call (.Attribute (.Call (.Name "super" p0) [] [] p1) "__init__" p2) [.Name x p3] [] p4) (PySem.W.ksEnv qual scope L fI (.ref cda) cc) = (do
      let ov ← attributeBase (.Call (.Name "super" p0) [] [] p1) "__init__" (PySem.W.ksEnv qual scope L fI (.ref cda) cc) (eval (.Call (.Name "super" p0) [] [] p1) (PySem.W.ksEnv qual scope L fI (.ref cda) cc))
      standAt p2.atName
      let (f, first) ← holding [ov] (getMethod ov "__init__" pl)
      callWith p4 f first (backTo p4 (starEach [.Name x p3] (PySem.W.ksEnv qual scope L fI (.ref cda) cc))) [])) : InitF K prog C fI f := by
  subst hbody
  obtain ⟨bm0, i0, hF⟩ := T.bf.mkB
  exact ⟨⟨B0, newId, i0, bm0, bmB, hF, T.bf.av, T.ein⟩, T.ini, T.fnt, fun X hlim hG hB hbs hd he hK hq => Xc.initRun T X hlim hG hB hbs l hcd hd (fun s => hbind s _ _) hpar hsx hks hkc hkself hkx hk hco hgen hcell dself dx' hint hsw1 hsw2 hev he hK hq⟩
end
/-- what isinstance asks of the class at C -/
def excCB (K : PySem.W.Frag) (D : Addr) : Bool := decide (PySem.W.findIn K (.ref D) "__getattribute__" = some (some (.builtin "BaseException.__getattribute__"))) && (decide (PySem.W.findIn K (.ref D) "__getattr__" = some none) && (decide (PySem.W.subIn K (.ref D) (.type "BaseException") = some true) && (PySem.W.hasDictIn K D &&
  (decide (PySem.W.findIn K (.ref D) "__class__" = some (some (.builtin "object.__class__"))) && (decide (PySem.W.specialIn K (.builtin "object.__class__") "__get__" = some (some (.builtin "getset_descriptor.__get__"))) && (decide (PySem.W.takesIn K (.builtin "object.__class__") = some true) && decide (PySem.W.mroIn K D (.type "object") = some true)))))))
theorem excCB_ok {K : PySem.W.Frag} {D : Addr} (h : excCB K D = true) : ExcC K D := by
  unfold excCB at h
  simp only [Bool.and_eq_true, decide_eq_true_eq] at h
  exact ⟨h.1, h.2.1, h.2.2.1, h.2.2.2.1, h.2.2.2.2.1, h.2.2.2.2.2.1, h.2.2.2.2.2.2.1, h.2.2.2.2.2.2.2⟩
theorem lookup_mem {α : Type} {n : Str} {C : α} : ∀ {l : List (Str × α)}, l.lookup n = some C → (n, C) ∈ l
  | [], h => by cases h
  | (m, D) :: l, h => by
    by_cases c : (n == m) = true
    · rw [List.lookup, c] at h; cases h
      rw [beq_iff_eq.mp c]; exact List.mem_cons_self ..
    · have c : (n == m) = false := by simpa using c
      rw [List.lookup, c] at h
      exact List.mem_cons_of_mem _ (lookup_mem h)
/-- a table of answers, per class -/
def tabOf (l : List (Str × Bool)) : Str → Option Bool := fun n => l.lookup n
/-- each listed class answers as the table says -/
def kitB2 (K : PySem.W.Frag) (u : Value) (cl : List (Str × Addr)) (tab : List (Str × Bool)) : Bool := cl.all fun p => match tab.lookup p.1 with
  | some b => decide (PySem.W.kitOne K (.ref p.2) u = some b)
  | none => true
theorem kitB2_ok {K : PySem.W.Frag} {u : Value} {cl : List (Str × Addr)} {tab : List (Str × Bool)} (h : kitB2 K u cl tab = true) : ∀ n C b, cl.lookup n = some C → tabOf tab n = some b → PySem.W.kitOne K (.ref C) u = some b := fun n C b h1 h2 => by
  have z := List.all_eq_true.mp h _ (lookup_mem h1)
  have h2 : tab.lookup n = some b := h2
  dsimp only at z
  rw [h2] at z
  exact of_decide_eq_true z
theorem excAll_ok {K : PySem.W.Frag} {cl : List (Str × Addr)} (h : (cl.all fun p => excCB K p.2) = true) : ∀ n C, cl.lookup n = some C → ExcC K C := fun n C h1 => excCB_ok (List.all_eq_true.mp h _ (lookup_mem h1))
/-- an exception's field of its own -/
def xfCB (K : PySem.W.Frag) (C : Addr) (f : Str) : Bool := xfB K C && decide (PySem.W.findIn K (.ref C) f = some none)
theorem xfCB_ok {K : PySem.W.Frag} {C : Addr} {f : Str} (h : xfCB K C f = true) : XfC K C ∧ PySem.W.findIn K (.ref C) f = some none := by
  unfold xfCB at h
  rw [Bool.and_eq_true] at h
  exact ⟨xfB_ok h.1, of_decide_eq_true h.2⟩
end Pd

namespace Pd
open PySem PySem.Spec L2
open PyProof.Rows (envOfC)
namespace K00
def topS (i : Nat) : Stmt := PySem.Challenge.pw_waysapart_k00_errors_and_what_they_keep.main.body.getD i (.Pass ⟨0, 0, 0, 0⟩)
abbrev bm_ArithmeticError : List Value := [.type "ArithmeticError", .type "Exception", .type "BaseException", .type "object"]
abbrev bm_IndexError : List Value := [.type "IndexError", .type "LookupError", .type "Exception", .type "BaseException", .type "object"]
abbrev bm_KeyError : List Value := [.type "KeyError", .type "LookupError", .type "Exception", .type "BaseException", .type "object"]
abbrev bm_OverflowError : List Value := [.type "OverflowError", .type "ArithmeticError", .type "Exception", .type "BaseException", .type "object"]
abbrev bm_RuntimeError : List Value := [.type "RuntimeError", .type "Exception", .type "BaseException", .type "object"]
abbrev bm_ValueError : List Value := [.type "ValueError", .type "Exception", .type "BaseException", .type "object"]
def tb_ArithmeticError : List (Str × Bool) := [("NetError", false), ("InvalidNet", false), ("InvalidLot", false), ("InvalidParting", false), ("InvalidOperation", false), ("ParseError", false), ("UnknownPlace", false), ("InvalidNumber", true), ("TooMany", true), ("NothingToUndo", false), ("Refused", false)]
def tb_IndexError : List (Str × Bool) := [("NetError", false), ("InvalidNet", false), ("InvalidLot", false), ("InvalidParting", false), ("InvalidOperation", false), ("ParseError", false), ("UnknownPlace", false), ("InvalidNumber", false), ("TooMany", false), ("NothingToUndo", true), ("Refused", false)]
def tb_InvalidLot : List (Str × Bool) := [("NetError", false), ("InvalidNet", false), ("InvalidLot", true), ("InvalidParting", false), ("InvalidOperation", false), ("ParseError", false), ("UnknownPlace", false), ("InvalidNumber", false), ("TooMany", false), ("NothingToUndo", false), ("Refused", false)]
def tb_InvalidNet : List (Str × Bool) := [("NetError", false), ("InvalidNet", true), ("InvalidLot", false), ("InvalidParting", false), ("InvalidOperation", false), ("ParseError", false), ("UnknownPlace", false), ("InvalidNumber", false), ("TooMany", false), ("NothingToUndo", false), ("Refused", false)]
def tb_InvalidNumber : List (Str × Bool) := [("NetError", false), ("InvalidNet", false), ("InvalidLot", false), ("InvalidParting", false), ("InvalidOperation", false), ("ParseError", false), ("UnknownPlace", false), ("InvalidNumber", true), ("TooMany", false), ("NothingToUndo", false), ("Refused", false)]
def tb_InvalidOperation : List (Str × Bool) := [("NetError", false), ("InvalidNet", false), ("InvalidLot", false), ("InvalidParting", false), ("InvalidOperation", true), ("ParseError", false), ("UnknownPlace", false), ("InvalidNumber", false), ("TooMany", false), ("NothingToUndo", false), ("Refused", false)]
def tb_InvalidParting : List (Str × Bool) := [("NetError", false), ("InvalidNet", false), ("InvalidLot", false), ("InvalidParting", true), ("InvalidOperation", false), ("ParseError", false), ("UnknownPlace", false), ("InvalidNumber", false), ("TooMany", false), ("NothingToUndo", false), ("Refused", false)]
def tb_KeyError : List (Str × Bool) := [("NetError", false), ("InvalidNet", false), ("InvalidLot", false), ("InvalidParting", false), ("InvalidOperation", false), ("ParseError", false), ("UnknownPlace", true), ("InvalidNumber", false), ("TooMany", false), ("NothingToUndo", false), ("Refused", false)]
def tb_NetError : List (Str × Bool) := [("NetError", true), ("InvalidNet", true), ("InvalidLot", true), ("InvalidParting", true), ("InvalidOperation", true), ("ParseError", true), ("UnknownPlace", false), ("InvalidNumber", false), ("TooMany", false), ("NothingToUndo", false), ("Refused", false)]
def tb_NothingToUndo : List (Str × Bool) := [("NetError", false), ("InvalidNet", false), ("InvalidLot", false), ("InvalidParting", false), ("InvalidOperation", false), ("ParseError", false), ("UnknownPlace", false), ("InvalidNumber", false), ("TooMany", false), ("NothingToUndo", true), ("Refused", false)]
def tb_OverflowError : List (Str × Bool) := [("NetError", false), ("InvalidNet", false), ("InvalidLot", false), ("InvalidParting", false), ("InvalidOperation", false), ("ParseError", false), ("UnknownPlace", false), ("InvalidNumber", false), ("TooMany", true), ("NothingToUndo", false), ("Refused", false)]
def tb_ParseError : List (Str × Bool) := [("NetError", false), ("InvalidNet", false), ("InvalidLot", false), ("InvalidParting", false), ("InvalidOperation", false), ("ParseError", true), ("UnknownPlace", false), ("InvalidNumber", false), ("TooMany", false), ("NothingToUndo", false), ("Refused", false)]
def tb_Refused : List (Str × Bool) := [("NetError", false), ("InvalidNet", false), ("InvalidLot", false), ("InvalidParting", false), ("InvalidOperation", false), ("ParseError", false), ("UnknownPlace", false), ("InvalidNumber", false), ("TooMany", false), ("NothingToUndo", false), ("Refused", true)]
def tb_RuntimeError : List (Str × Bool) := [("NetError", false), ("InvalidNet", false), ("InvalidLot", false), ("InvalidParting", false), ("InvalidOperation", false), ("ParseError", false), ("UnknownPlace", false), ("InvalidNumber", false), ("TooMany", false), ("NothingToUndo", false), ("Refused", true)]
def tb_TooMany : List (Str × Bool) := [("NetError", false), ("InvalidNet", false), ("InvalidLot", false), ("InvalidParting", false), ("InvalidOperation", false), ("ParseError", false), ("UnknownPlace", false), ("InvalidNumber", false), ("TooMany", true), ("NothingToUndo", false), ("Refused", false)]
def tb_UnknownPlace : List (Str × Bool) := [("NetError", false), ("InvalidNet", false), ("InvalidLot", false), ("InvalidParting", false), ("InvalidOperation", false), ("ParseError", false), ("UnknownPlace", true), ("InvalidNumber", false), ("TooMany", false), ("NothingToUndo", false), ("Refused", false)]
def tb_ValueError : List (Str × Bool) := [("NetError", true), ("InvalidNet", true), ("InvalidLot", true), ("InvalidParting", true), ("InvalidOperation", true), ("ParseError", true), ("UnknownPlace", false), ("InvalidNumber", false), ("TooMany", false), ("NothingToUndo", false), ("Refused", false)]
abbrev ms_ParseError : Stmt := clsM (topS 6) 0
theorem iF_ParseError {P : Program} {K : PySem.W.Frag} {C fI cc cda : Addr} {oc : Value} {od an : Option Addr} {osl : Array (Option Value)} {kV doc pm ct : Value} (T : Xc.InitC K P C fI cc cda "ValueError" "ValueError.__new__" "ValueError" "ValueError.__init__" bm_ValueError "line")
   (l : K.lookup fI = some ⟨oc, od, .func (PySem.W.ksFn "__init__" "ParseError.__init__" (defArgs ms_ParseError) (defBody ms_ParseError) (defScope ms_ParseError) .none kV doc pm an (.ref cda) ct cc), osl⟩) (c : PySem.W.codeIn K (.ref cda) "ParseError.__init__" = true) : InitF K P C fI "line" :=
  initF_of T l c (by rfl) (fun s e v => .of_eq rfl) ⟨_, rfl, rfl⟩ (by decide) rfl rfl rfl rfl rfl rfl rfl (by decide +kernel) (by decide) (by decide) (fun L => rfl) (fun env => rfl) (fun env => rfl) (fun L => ⟨_, rfl⟩)
abbrev ms_UnknownPlace : Stmt := clsM (topS 7) 0
theorem iF_UnknownPlace {P : Program} {K : PySem.W.Frag} {C fI cc cda : Addr} {oc : Value} {od an : Option Addr} {osl : Array (Option Value)} {kV doc pm ct : Value} (T : Xc.InitC K P C fI cc cda "LookupError" "LookupError.__new__" "KeyError" "KeyError.__init__" bm_KeyError "place")
   (l : K.lookup fI = some ⟨oc, od, .func (PySem.W.ksFn "__init__" "UnknownPlace.__init__" (defArgs ms_UnknownPlace) (defBody ms_UnknownPlace) (defScope ms_UnknownPlace) .none kV doc pm an (.ref cda) ct cc), osl⟩) (c : PySem.W.codeIn K (.ref cda) "UnknownPlace.__init__" = true) : InitF K P C fI "place" :=
  initF_of T l c (by rfl) (fun s e v => .of_eq rfl) ⟨_, rfl, rfl⟩ (by decide) rfl rfl rfl rfl rfl rfl rfl (by decide +kernel) (by decide) (by decide) (fun L => rfl) (fun env => rfl) (fun env => rfl) (fun L => ⟨_, rfl⟩)
abbrev ms_InvalidNumber : Stmt := clsM (topS 8) 0
theorem iF_InvalidNumber {P : Program} {K : PySem.W.Frag} {C fI cc cda : Addr} {oc : Value} {od an : Option Addr} {osl : Array (Option Value)} {kV doc pm ct : Value} (T : Xc.InitC K P C fI cc cda "ArithmeticError" "ArithmeticError.__new__" "ArithmeticError" "ArithmeticError.__init__" bm_ArithmeticError "value")
   (l : K.lookup fI = some ⟨oc, od, .func (PySem.W.ksFn "__init__" "InvalidNumber.__init__" (defArgs ms_InvalidNumber) (defBody ms_InvalidNumber) (defScope ms_InvalidNumber) .none kV doc pm an (.ref cda) ct cc), osl⟩) (c : PySem.W.codeIn K (.ref cda) "InvalidNumber.__init__" = true) : InitF K P C fI "value" :=
  initF_of T l c (by rfl) (fun s e v => .of_eq rfl) ⟨_, rfl, rfl⟩ (by decide) rfl rfl rfl rfl rfl rfl rfl (by decide +kernel) (by decide) (by decide) (fun L => rfl) (fun env => rfl) (fun env => rfl) (fun L => ⟨_, rfl⟩)
abbrev ms_TooMany : Stmt := clsM (topS 9) 0
theorem iF_TooMany {P : Program} {K : PySem.W.Frag} {C fI cc cda : Addr} {oc : Value} {od an : Option Addr} {osl : Array (Option Value)} {kV doc pm ct : Value} (T : Xc.InitC K P C fI cc cda "OverflowError" "OverflowError.__new__" "OverflowError" "OverflowError.__init__" bm_OverflowError "limit")
   (l : K.lookup fI = some ⟨oc, od, .func (PySem.W.ksFn "__init__" "TooMany.__init__" (defArgs ms_TooMany) (defBody ms_TooMany) (defScope ms_TooMany) .none kV doc pm an (.ref cda) ct cc), osl⟩) (c : PySem.W.codeIn K (.ref cda) "TooMany.__init__" = true) : InitF K P C fI "limit" :=
  initF_of T l c (by rfl) (fun s e v => .of_eq rfl) ⟨_, rfl, rfl⟩ (by decide) rfl rfl rfl rfl rfl rfl rfl (by decide +kernel) (by decide) (by decide) (fun L => rfl) (fun env => rfl) (fun env => rfl) (fun L => ⟨_, rfl⟩)
abbrev ms_NothingToUndo : Stmt := clsM (topS 10) 0
theorem iF_NothingToUndo {P : Program} {K : PySem.W.Frag} {C fI cc cda : Addr} {oc : Value} {od an : Option Addr} {osl : Array (Option Value)} {kV doc pm ct : Value} (T : Xc.InitC K P C fI cc cda "IndexError" "IndexError.__new__" "IndexError" "IndexError.__init__" bm_IndexError "many")
   (l : K.lookup fI = some ⟨oc, od, .func (PySem.W.ksFn "__init__" "NothingToUndo.__init__" (defArgs ms_NothingToUndo) (defBody ms_NothingToUndo) (defScope ms_NothingToUndo) .none kV doc pm an (.ref cda) ct cc), osl⟩) (c : PySem.W.codeIn K (.ref cda) "NothingToUndo.__init__" = true) : InitF K P C fI "many" :=
  initF_of T l c (by rfl) (fun s e v => .of_eq rfl) ⟨_, rfl, rfl⟩ (by decide) rfl rfl rfl rfl rfl rfl rfl (by decide +kernel) (by decide) (by decide) (fun L => rfl) (fun env => rfl) (fun env => rfl) (fun L => ⟨_, rfl⟩)
abbrev ms_Refused : Stmt := clsM (topS 11) 0
theorem iF_Refused {P : Program} {K : PySem.W.Frag} {C fI cc cda : Addr} {oc : Value} {od an : Option Addr} {osl : Array (Option Value)} {kV doc pm ct : Value} (T : Xc.InitC K P C fI cc cda "RuntimeError" "RuntimeError.__new__" "RuntimeError" "RuntimeError.__init__" bm_RuntimeError "reason")
   (l : K.lookup fI = some ⟨oc, od, .func (PySem.W.ksFn "__init__" "Refused.__init__" (defArgs ms_Refused) (defBody ms_Refused) (defScope ms_Refused) .none kV doc pm an (.ref cda) ct cc), osl⟩) (c : PySem.W.codeIn K (.ref cda) "Refused.__init__" = true) : InitF K P C fI "reason" :=
  initF_of T l c (by rfl) (fun s e v => .of_eq rfl) ⟨_, rfl, rfl⟩ (by decide) rfl rfl rfl rfl rfl rfl rfl (by decide +kernel) (by decide) (by decide) (fun L => rfl) (fun env => rfl) (fun env => rfl) (fun L => ⟨_, rfl⟩)
/-! _law_dice -/
abbrev st__law_dice : Stmt := topS 13
theorem sc__law_dice : FnScope ["script", "at", "cell", "great", "left", "mixed"] ["script", "at"] (defScope st__law_dice) := ⟨rfl, rfl, rfl, by decide +kernel, rfl, by decide +kernel, by decide +kernel⟩
def g__law_dice : SM := (seqS (exps (op2 addG (toO (op2 mulG (toO (M.ret (.int 97))) (nameO 1))) (toO (M.ret (.int 53)))) (setV 2))
    (seqS (exps (asB (op2 ltG (nameO 1) (toO (callD (one lenG) (consO (nameO 0) (M.ret [])))))) fun k => if k = true then (exps (op2 ixG (nameO 0) (nameO 1)) (setV 2)) else skipS)
    (seqS (exps (op2 modG (toO (callD (one intF) (consO (toO (callD (one absG) (consO (nameO 2) (M.ret [])))) (M.ret [])))) (toO (op2 powG (toO (op2 powG (toO (M.ret (.int 10))) (toO (M.ret (.int 60))))) (toO (M.ret (.int 10)))))) (setV 3))
    (seqS (exps (op2 fdivG (nameO 3) (toO (op2 powG (toO (M.ret (.int 10))) (toO (M.ret (.int 18)))))) (setV 4))
    (seqS (exps (op2 addG (toO (op2 addG (toO (op2 addG (toO (op2 mulG (toO (op2 modG (nameO 3) (toO (M.ret (.int 2147482951))))) (toO (M.ret (.int 61291))))) (toO (op2 mulG (toO (M.ret (.int 3517))) (nameO 1))))) (toO (op2 mulG (toO (M.ret (.int 71))) (toO (callD (one intF) (consO (toO (op2 ltG (nameO 2) (toO (M.ret (.int 0))))) (M.ret [])))))))) (toO (M.ret (.int 83)))) (setV 5))
    (exps (lstD (consD (frzAt 4) (consD (op2 modG (nameO 5) (toO (M.ret (.int 2147482949)))) (consD (M.ret (.int 0)) (M.ret []))))) fun d ρ => some (.ret (.own d), ρ)))))))
def m__law_dice : FD := fnD 2 6 g__law_dice
theorem good__law_dice : Good m__law_dice := fnD_good 2 6 g__law_dice
section
variable {P : Program} {w : World} {K : PySem.W.Frag} {mg : Str → Option Value} {base : Heap} {cm : Str → Option Addr}
theorem ok__law_dice {a__law_dice : Addr} {d__law_dice : FuncData} (F__law_dice : Fun K "_law_dice" "_law_dice" st__law_dice a__law_dice d__law_dice) (b_int : mg "int" = none) (b_abs : mg "abs" = none) (b_len : mg "len" = none) : Okf P w K mg base cm 1 a__law_dice m__law_dice :=
  okf_of (ps := ["script", "at"]) (ok_def (N := ["script", "at", "cell", "great", "left", "mixed"]) F__law_dice sc__law_dice fun cdv A outer s H E hr =>
    (pss_cons' (psd_set 2 sc__law_dice.nd (pd_op op_addD od_add (po_of (pd_op op_mulD od_mul (po_of pd_int) (po_name 1))) (po_of pd_int)))
    (pss_cons' (psd_if (pb_cmp op_ltC od_cmp (po_name 1) (po_of (pd_callB call_lenS cd_len (by rfl) b_len (by decide +kernel) (pas_cons (po_name 0) pas_nil))) (by with_unfolding_all rfl))
    (pss_one' (psd_set 2 sc__law_dice.nd (pd_ix (po_name 0) (po_name 1))))
    pss_nil')
    (pss_cons' (psd_set 3 sc__law_dice.nd (pd_op op_mod od_mod (po_of (pd_callTy call_int1 cd_int (by rfl) b_int (by decide +kernel) (pas_cons (po_of (pd_callB call_abs cd_abs (by rfl) b_abs (by decide +kernel) (pas_cons (po_name 2) pas_nil))) pas_nil))) (po_of (pd_op op_powW od_pow (po_of (pd_op op_powW od_pow (po_of pd_int) (po_of pd_int))) (po_of pd_int)))))
    (pss_cons' (psd_set 4 sc__law_dice.nd (pd_op op_fdivW od_fdiv (po_name 3) (po_of (pd_op op_powW od_pow (po_of pd_int) (po_of pd_int)))))
    (pss_cons' (psd_set 5 sc__law_dice.nd (pd_op op_addD od_add (po_of (pd_op op_addD od_add (po_of (pd_op op_addD od_add (po_of (pd_op op_mulD od_mul (po_of (pd_op op_mod od_mod (po_name 3) (po_of pd_int))) (po_of pd_int))) (po_of (pd_op op_mulD od_mul (po_of pd_int) (po_name 1))))) (po_of (pd_op op_mulD od_mul (po_of pd_int) (po_of (pd_callTy call_int1 cd_int (by rfl) b_int (by decide +kernel) (pas_cons (po_of (pd_cmp op_ltC od_cmp (po_name 2) (po_of pd_int) (by with_unfolding_all rfl))) pas_nil))))))) (po_of pd_int)))
    (pss_one' (psd_retF (pf_lst (pvs_cons (pd_name 4) (pvs_cons (pd_op op_mod od_mod (po_name 5) (po_of pd_int)) (pvs_cons pd_int pvs_nil)))))))))))) (F__law_dice.binds (ps := ["script", "at"]) fun _ _ _ _ _ _ us hl => match us, hl with | [_, _], _ => rfl)
end
/-! _law_roll -/
abbrev st__law_roll : Stmt := topS 14
theorem sc__law_roll : FnScope ["dice", "total", "size", "one", "two", "drawn"] ["dice", "total"] (defScope st__law_roll) := ⟨rfl, rfl, rfl, by decide +kernel, rfl, by decide +kernel, by decide +kernel⟩
def g__law_roll : SM := (seqS (exps (callD (one intF) (consO (nameO 1) (M.ret []))) (setV 2))
    (seqS (exps (asB (op2 gtG (toO (op2 ixG (nameO 0) (toO (M.ret (.int 0))))) (toO (M.ret (.int 0))))) fun k => if k = true then (seqS (exps (op2 modG (toO (op2 ixG (nameO 0) (toO (M.ret (.int 0))))) (nameO 2)) (setV 5))
    (seqS (storeS 0 setLG (op2 fdivG (toO (op2 ixG (nameO 0) (toO (M.ret (.int 0))))) (nameO 2)) (M.ret (.int 0)))
    (exps (callD (one intF) (consO (nameO 5) (M.ret []))) fun d ρ => some (.ret (.val d), ρ)))) else skipS)
    (seqS (storeS 0 setLG (op2 addG (toO (op2 ixG (nameO 0) (toO (M.ret (.int 2))))) (toO (M.ret (.int 1)))) (M.ret (.int 2)))
    (seqS (exps (op2 modG (toO (op2 addG (toO (op2 ixG (nameO 0) (toO (M.ret (.int 1))))) (toO (op2 mulG (toO (M.ret (.int 1000249))) (toO (op2 ixG (nameO 0) (toO (M.ret (.int 2))))))))) (toO (M.ret (.int 2305843009213693951)))) (setV 3))
    (seqS (exps (op2 addG (toO (op2 mulG (toO (op2 modG (toO (op2 mulG (nameO 3) (nameO 3))) (toO (M.ret (.int 2305843009213693921))))) (nameO 3))) (toO (op2 mulG (toO (M.ret (.int 9437))) (toO (op2 ixG (nameO 0) (toO (M.ret (.int 2)))))))) (setV 4))
    (seqS (exps (op2 modG (nameO 4) (toO (M.ret (.int 2305843009213693907)))) (setV 4))
    (exps (callD (one intF) (consO (toO (op2 modG (toO (op2 fdivG (nameO 4) (toO (M.ret (.int 4096))))) (nameO 2))) (M.ret []))) fun d ρ => some (.ret (.val d), ρ))))))))
def m__law_roll : FD := fnD 2 6 g__law_roll
theorem good__law_roll : Good m__law_roll := fnD_good 2 6 g__law_roll
section
variable {P : Program} {w : World} {K : PySem.W.Frag} {mg : Str → Option Value} {base : Heap} {cm : Str → Option Addr}
theorem ok__law_roll {a__law_roll : Addr} {d__law_roll : FuncData} (F__law_roll : Fun K "_law_roll" "_law_roll" st__law_roll a__law_roll d__law_roll) (b_int : mg "int" = none) : Okf P w K mg base cm 1 a__law_roll m__law_roll :=
  okf_of (ps := ["dice", "total"]) (ok_def (N := ["dice", "total", "size", "one", "two", "drawn"]) F__law_roll sc__law_roll fun cdv A outer s H E hr =>
    (pss_cons' (psd_set 2 sc__law_roll.nd (pd_callTy call_int1 cd_int (by rfl) b_int (by decide +kernel) (pas_cons (po_name 1) pas_nil)))
    (pss_cons' (psd_if (pb_cmp op_gtC od_cmp (po_of (pd_ix (po_name 0) (po_of pd_int))) (po_of pd_int) (by with_unfolding_all rfl))
    (pss_cons' (psd_set 5 sc__law_roll.nd (pd_op op_mod od_mod (po_of (pd_ix (po_name 0) (po_of pd_int))) (po_name 2)))
    (pss_cons' (psd_setIx 0 (pd_op op_fdivW od_fdiv (po_of (pd_ix (po_name 0) (po_of pd_int))) (po_name 2)) pd_int)
    (pss_one' (psd_ret (pd_callTy call_int1 cd_int (by rfl) b_int (by decide +kernel) (pas_cons (po_name 5) pas_nil))))))
    pss_nil')
    (pss_cons' (psd_setIx 0 (pd_op op_addD od_add (po_of (pd_ix (po_name 0) (po_of pd_int))) (po_of pd_int)) pd_int)
    (pss_cons' (psd_set 3 sc__law_roll.nd (pd_op op_mod od_mod (po_of (pd_op op_addD od_add (po_of (pd_ix (po_name 0) (po_of pd_int))) (po_of (pd_op op_mulD od_mul (po_of pd_int) (po_of (pd_ix (po_name 0) (po_of pd_int))))))) (po_of pd_int)))
    (pss_cons' (psd_set 4 sc__law_roll.nd (pd_op op_addD od_add (po_of (pd_op op_mulD od_mul (po_of (pd_op op_mod od_mod (po_of (pd_op op_mulD od_mul (po_name 3) (po_name 3))) (po_of pd_int))) (po_name 3))) (po_of (pd_op op_mulD od_mul (po_of pd_int) (po_of (pd_ix (po_name 0) (po_of pd_int)))))))
    (pss_cons' (psd_set 4 sc__law_roll.nd (pd_op op_mod od_mod (po_name 4) (po_of pd_int)))
    (pss_one' (psd_ret (pd_callTy call_int1 cd_int (by rfl) b_int (by decide +kernel) (pas_cons (po_of (pd_op op_mod od_mod (po_of (pd_op op_fdivW od_fdiv (po_name 4) (po_of pd_int))) (po_name 2))) pas_nil))))))))))) (F__law_roll.binds (ps := ["dice", "total"]) fun _ _ _ _ _ _ us hl => match us, hl with | [_, _], _ => rfl)
end
/-! _law_one_of -/
abbrev st__law_one_of : Stmt := topS 15
theorem sc__law_one_of : FnScope ["dice", "items"] ["dice", "items"] (defScope st__law_one_of) := ⟨rfl, rfl, rfl, by decide +kernel, rfl, by decide +kernel, by decide +kernel⟩
def g__law_one_of : SM := (exps (op2 ixG (nameO 1) (toO (M.bind (callS m__law_roll (consO (nameO 0) (consO (toO (callD (one lenG) (consO (nameO 1) (M.ret [])))) (M.ret [])))) sVal))) fun d ρ => some (.ret (.val d), ρ))
def m__law_one_of : FD := fnD 2 2 g__law_one_of
theorem good__law_one_of : Good m__law_one_of := fnD_good 2 2 g__law_one_of
section
variable {P : Program} {w : World} {K : PySem.W.Frag} {mg : Str → Option Value} {base : Heap} {cm : Str → Option Addr}
theorem ok__law_one_of {a__law_one_of : Addr} {d__law_one_of : FuncData} (F__law_one_of : Fun K "_law_one_of" "_law_one_of" st__law_one_of a__law_one_of d__law_one_of) {a__law_roll : Addr} {d__law_roll : FuncData} (F__law_roll : Fun K "_law_roll" "_law_roll" st__law_roll a__law_roll d__law_roll) (b_int : mg "int" = none) (q__law_roll : mg "_law_roll" = some (.ref a__law_roll)) (k__law_roll : PySem.W.keepIn K (.ref a__law_roll) = true) (b_len : mg "len" = none) : Okf P w K mg base cm 2 a__law_one_of m__law_one_of :=
  okf_of (ps := ["dice", "items"]) (ok_def (N := ["dice", "items"]) F__law_one_of sc__law_one_of fun cdv A outer s H E hr =>
    (pss_one' (psd_ret (pd_ix (po_name 1) (po_of (pd_ofS (psl_callR ((ok__law_roll F__law_roll b_int).mono (by decide)) good__law_roll (takes_of rfl rfl rfl rfl) hr (by rfl) q__law_roll k__law_roll (pas_cons (po_name 0) (pas_cons (po_of (pd_callB call_lenS cd_len (by rfl) b_len (by decide +kernel) (pas_cons (po_name 1) pas_nil))) pas_nil))))))))) (F__law_one_of.binds (ps := ["dice", "items"]) fun _ _ _ _ _ _ us hl => match us, hl with | [_, _], _ => rfl)
end
/-! _law_kinds -/
abbrev st__law_kinds : Stmt := topS 16
theorem sc__law_kinds : FnScope ["error", "told", "one"] ["error"] (defScope st__law_kinds) := ⟨rfl, rfl, rfl, by decide +kernel, rfl, by decide +kernel, by decide +kernel⟩
def s1__law_kinds : GS := gV 2
def e2__law_kinds : M D := ifD (truB (nameO 2)) (M.ret (.str "x")) (M.ret (.str "."))
def l3__law_kinds : M D := compD (walkL (frzAt 1)) (s1__law_kinds) (M.ret true) (e2__law_kinds) [2]
def g__law_kinds : SM := (seqS (exps (lstD (consD (app1 (isxG (tabOf tb_InvalidNet)) (nameO 0)) (consD (app1 (isxG (tabOf tb_InvalidLot)) (nameO 0)) (consD (app1 (isxG (tabOf tb_InvalidParting)) (nameO 0)) (M.ret []))))) (setV 1))
    (seqS (exps (op2 addG (nameO 1) (toO (lstD (consD (app1 (isxG (tabOf tb_InvalidOperation)) (nameO 0)) (consD (app1 (isxG (tabOf tb_ParseError)) (nameO 0)) (consD (app1 (isxG (tabOf tb_NetError)) (nameO 0)) (M.ret []))))))) (setV 1))
    (seqS (exps (op2 addG (nameO 1) (toO (lstD (consD (app1 (isxG (tabOf tb_ValueError)) (nameO 0)) (consD (app1 (isxG (tabOf tb_UnknownPlace)) (nameO 0)) (consD (app1 (isxG (tabOf tb_InvalidNumber)) (nameO 0)) (M.ret []))))))) (setV 1))
    (seqS (exps (op2 addG (nameO 1) (toO (lstD (consD (app1 (isxG (tabOf tb_TooMany)) (nameO 0)) (consD (app1 (isxG (tabOf tb_NothingToUndo)) (nameO 0)) (consD (app1 (isxG (tabOf tb_Refused)) (nameO 0)) (M.ret []))))))) (setV 1))
    (seqS (exps (op2 addG (nameO 1) (toO (lstD (consD (app1 (isxG (tabOf tb_KeyError)) (nameO 0)) (consD (app1 (isxG (tabOf tb_ArithmeticError)) (nameO 0)) (M.ret [])))))) (setV 1))
    (seqS (exps (op2 addG (nameO 1) (toO (lstD (consD (app1 (isxG (tabOf tb_OverflowError)) (nameO 0)) (consD (app1 (isxG (tabOf tb_IndexError)) (nameO 0)) (consD (app1 (isxG (tabOf tb_RuntimeError)) (nameO 0)) (M.ret []))))))) (setV 1))
    (exps (joinD (M.ret (.str "")) (toO (l3__law_kinds))) fun d ρ => some (.ret (.val d), ρ))))))))
def m__law_kinds : FD := fnD 1 3 g__law_kinds
theorem good__law_kinds : Good m__law_kinds := fnD_good 1 3 g__law_kinds
section
variable {P : Program} {w : World} {K : PySem.W.Frag} {mg : Str → Option Value} {base : Heap} {cm : Str → Option Addr}
theorem ok__law_kinds {a__law_kinds : Addr} {d__law_kinds : FuncData} (F__law_kinds : Fun K "_law_kinds" "_law_kinds" st__law_kinds a__law_kinds d__law_kinds) (b_isinstance : mg "isinstance" = none) (E_x : ∀ n C, cm n = some C → ExcC K C) (b_RuntimeError : mg "RuntimeError" = none) (T_RuntimeError : ∀ n C b, cm n = some C → tabOf tb_RuntimeError n = some b → PySem.W.kitOne K (.ref C) (.type "RuntimeError") = some b) (b_IndexError : mg "IndexError" = none) (T_IndexError : ∀ n C b, cm n = some C → tabOf tb_IndexError n = some b → PySem.W.kitOne K (.ref C) (.type "IndexError") = some b) (b_OverflowError : mg "OverflowError" = none) (T_OverflowError : ∀ n C b, cm n = some C → tabOf tb_OverflowError n = some b → PySem.W.kitOne K (.ref C) (.type "OverflowError") = some b) (b_ArithmeticError : mg "ArithmeticError" = none) (T_ArithmeticError : ∀ n C b, cm n = some C → tabOf tb_ArithmeticError n = some b → PySem.W.kitOne K (.ref C) (.type "ArithmeticError") = some b) (b_KeyError : mg "KeyError" = none) (T_KeyError : ∀ n C b, cm n = some C → tabOf tb_KeyError n = some b → PySem.W.kitOne K (.ref C) (.type "KeyError") = some b) {C_Refused : Addr} (cc_Refused : cm "Refused" = some C_Refused) (gc_Refused : mg "Refused" = some (.ref C_Refused)) (kc_Refused : PySem.W.keepIn K (.ref C_Refused) = true) (T_Refused : ∀ n C b, cm n = some C → tabOf tb_Refused n = some b → PySem.W.kitOne K (.ref C) (.ref C_Refused) = some b) {C_NothingToUndo : Addr} (cc_NothingToUndo : cm "NothingToUndo" = some C_NothingToUndo) (gc_NothingToUndo : mg "NothingToUndo" = some (.ref C_NothingToUndo)) (kc_NothingToUndo : PySem.W.keepIn K (.ref C_NothingToUndo) = true) (T_NothingToUndo : ∀ n C b, cm n = some C → tabOf tb_NothingToUndo n = some b → PySem.W.kitOne K (.ref C) (.ref C_NothingToUndo) = some b) {C_TooMany : Addr} (cc_TooMany : cm "TooMany" = some C_TooMany) (gc_TooMany : mg "TooMany" = some (.ref C_TooMany)) (kc_TooMany : PySem.W.keepIn K (.ref C_TooMany) = true) (T_TooMany : ∀ n C b, cm n = some C → tabOf tb_TooMany n = some b → PySem.W.kitOne K (.ref C) (.ref C_TooMany) = some b) {C_InvalidNumber : Addr} (cc_InvalidNumber : cm "InvalidNumber" = some C_InvalidNumber) (gc_InvalidNumber : mg "InvalidNumber" = some (.ref C_InvalidNumber)) (kc_InvalidNumber : PySem.W.keepIn K (.ref C_InvalidNumber) = true) (T_InvalidNumber : ∀ n C b, cm n = some C → tabOf tb_InvalidNumber n = some b → PySem.W.kitOne K (.ref C) (.ref C_InvalidNumber) = some b) {C_UnknownPlace : Addr} (cc_UnknownPlace : cm "UnknownPlace" = some C_UnknownPlace) (gc_UnknownPlace : mg "UnknownPlace" = some (.ref C_UnknownPlace)) (kc_UnknownPlace : PySem.W.keepIn K (.ref C_UnknownPlace) = true) (T_UnknownPlace : ∀ n C b, cm n = some C → tabOf tb_UnknownPlace n = some b → PySem.W.kitOne K (.ref C) (.ref C_UnknownPlace) = some b) (b_ValueError : mg "ValueError" = none) (T_ValueError : ∀ n C b, cm n = some C → tabOf tb_ValueError n = some b → PySem.W.kitOne K (.ref C) (.type "ValueError") = some b) {C_NetError : Addr} (cc_NetError : cm "NetError" = some C_NetError) (gc_NetError : mg "NetError" = some (.ref C_NetError)) (kc_NetError : PySem.W.keepIn K (.ref C_NetError) = true) (T_NetError : ∀ n C b, cm n = some C → tabOf tb_NetError n = some b → PySem.W.kitOne K (.ref C) (.ref C_NetError) = some b) {C_ParseError : Addr} (cc_ParseError : cm "ParseError" = some C_ParseError) (gc_ParseError : mg "ParseError" = some (.ref C_ParseError)) (kc_ParseError : PySem.W.keepIn K (.ref C_ParseError) = true) (T_ParseError : ∀ n C b, cm n = some C → tabOf tb_ParseError n = some b → PySem.W.kitOne K (.ref C) (.ref C_ParseError) = some b) {C_InvalidOperation : Addr} (cc_InvalidOperation : cm "InvalidOperation" = some C_InvalidOperation) (gc_InvalidOperation : mg "InvalidOperation" = some (.ref C_InvalidOperation)) (kc_InvalidOperation : PySem.W.keepIn K (.ref C_InvalidOperation) = true) (T_InvalidOperation : ∀ n C b, cm n = some C → tabOf tb_InvalidOperation n = some b → PySem.W.kitOne K (.ref C) (.ref C_InvalidOperation) = some b) {C_InvalidParting : Addr} (cc_InvalidParting : cm "InvalidParting" = some C_InvalidParting) (gc_InvalidParting : mg "InvalidParting" = some (.ref C_InvalidParting)) (kc_InvalidParting : PySem.W.keepIn K (.ref C_InvalidParting) = true) (T_InvalidParting : ∀ n C b, cm n = some C → tabOf tb_InvalidParting n = some b → PySem.W.kitOne K (.ref C) (.ref C_InvalidParting) = some b) {C_InvalidLot : Addr} (cc_InvalidLot : cm "InvalidLot" = some C_InvalidLot) (gc_InvalidLot : mg "InvalidLot" = some (.ref C_InvalidLot)) (kc_InvalidLot : PySem.W.keepIn K (.ref C_InvalidLot) = true) (T_InvalidLot : ∀ n C b, cm n = some C → tabOf tb_InvalidLot n = some b → PySem.W.kitOne K (.ref C) (.ref C_InvalidLot) = some b) {C_InvalidNet : Addr} (cc_InvalidNet : cm "InvalidNet" = some C_InvalidNet) (gc_InvalidNet : mg "InvalidNet" = some (.ref C_InvalidNet)) (kc_InvalidNet : PySem.W.keepIn K (.ref C_InvalidNet) = true) (T_InvalidNet : ∀ n C b, cm n = some C → tabOf tb_InvalidNet n = some b → PySem.W.kitOne K (.ref C) (.ref C_InvalidNet) = some b) : Okf P w K mg base cm 1 a__law_kinds m__law_kinds :=
  okf_of (ps := ["error"]) (ok_def (N := ["error", "told", "one"]) F__law_kinds sc__law_kinds fun cdv A outer s H E hr =>
    (pss_cons' (psd_set 1 sc__law_kinds.nd (pd_fresh (pf_lst (pvs_cons (pd_isxO (tab := tabOf tb_InvalidNet) E_x T_InvalidNet (by rfl) b_isinstance (by rfl) gc_InvalidNet (po_name 0)) (pvs_cons (pd_isxO (tab := tabOf tb_InvalidLot) E_x T_InvalidLot (by rfl) b_isinstance (by rfl) gc_InvalidLot (po_name 0)) (pvs_cons (pd_isxO (tab := tabOf tb_InvalidParting) E_x T_InvalidParting (by rfl) b_isinstance (by rfl) gc_InvalidParting (po_name 0)) pvs_nil))))))
    (pss_cons' (psd_set 1 sc__law_kinds.nd (pd_op op_addD od_add (po_name 1) (po_of (pd_fresh (pf_lst (pvs_cons (pd_isxO (tab := tabOf tb_InvalidOperation) E_x T_InvalidOperation (by rfl) b_isinstance (by rfl) gc_InvalidOperation (po_name 0)) (pvs_cons (pd_isxO (tab := tabOf tb_ParseError) E_x T_ParseError (by rfl) b_isinstance (by rfl) gc_ParseError (po_name 0)) (pvs_cons (pd_isxO (tab := tabOf tb_NetError) E_x T_NetError (by rfl) b_isinstance (by rfl) gc_NetError (po_name 0)) pvs_nil))))))))
    (pss_cons' (psd_set 1 sc__law_kinds.nd (pd_op op_addD od_add (po_name 1) (po_of (pd_fresh (pf_lst (pvs_cons (pd_isxB (T := "ValueError") (tab := tabOf tb_ValueError) E_x T_ValueError (by rfl) b_isinstance (by rfl) b_ValueError (by decide +kernel) (po_name 0)) (pvs_cons (pd_isxO (tab := tabOf tb_UnknownPlace) E_x T_UnknownPlace (by rfl) b_isinstance (by rfl) gc_UnknownPlace (po_name 0)) (pvs_cons (pd_isxO (tab := tabOf tb_InvalidNumber) E_x T_InvalidNumber (by rfl) b_isinstance (by rfl) gc_InvalidNumber (po_name 0)) pvs_nil))))))))
    (pss_cons' (psd_set 1 sc__law_kinds.nd (pd_op op_addD od_add (po_name 1) (po_of (pd_fresh (pf_lst (pvs_cons (pd_isxO (tab := tabOf tb_TooMany) E_x T_TooMany (by rfl) b_isinstance (by rfl) gc_TooMany (po_name 0)) (pvs_cons (pd_isxO (tab := tabOf tb_NothingToUndo) E_x T_NothingToUndo (by rfl) b_isinstance (by rfl) gc_NothingToUndo (po_name 0)) (pvs_cons (pd_isxO (tab := tabOf tb_Refused) E_x T_Refused (by rfl) b_isinstance (by rfl) gc_Refused (po_name 0)) pvs_nil))))))))
    (pss_cons' (psd_set 1 sc__law_kinds.nd (pd_op op_addD od_add (po_name 1) (po_of (pd_fresh (pf_lst (pvs_cons (pd_isxB (T := "KeyError") (tab := tabOf tb_KeyError) E_x T_KeyError (by rfl) b_isinstance (by rfl) b_KeyError (by decide +kernel) (po_name 0)) (pvs_cons (pd_isxB (T := "ArithmeticError") (tab := tabOf tb_ArithmeticError) E_x T_ArithmeticError (by rfl) b_isinstance (by rfl) b_ArithmeticError (by decide +kernel) (po_name 0)) pvs_nil)))))))
    (pss_cons' (psd_set 1 sc__law_kinds.nd (pd_op op_addD od_add (po_name 1) (po_of (pd_fresh (pf_lst (pvs_cons (pd_isxB (T := "OverflowError") (tab := tabOf tb_OverflowError) E_x T_OverflowError (by rfl) b_isinstance (by rfl) b_OverflowError (by decide +kernel) (po_name 0)) (pvs_cons (pd_isxB (T := "IndexError") (tab := tabOf tb_IndexError) E_x T_IndexError (by rfl) b_isinstance (by rfl) b_IndexError (by decide +kernel) (po_name 0)) (pvs_cons (pd_isxB (T := "RuntimeError") (tab := tabOf tb_RuntimeError) E_x T_RuntimeError (by rfl) b_isinstance (by rfl) b_RuntimeError (by decide +kernel) (po_name 0)) pvs_nil))))))))
    (pss_one' (psd_ret (pd_join pd_str (po_of (pd_fresh (pf_lc [("one", 2)] rfl sc__law_kinds.nd (pid_list (pd_name 1)) (blkOk_by (own := [("one", 2)]) (N := ["error", "told", "one"]) (sc := defScope st__law_kinds) (by decide +kernel)) (fun _ _ _ _ _ => (pgd_name 2 sc__law_kinds.nd)) (fun _ _ _ _ _ => ptsd_nil) (fun _ _ _ _ _ => (pd_ifExp (pb_truth (po_name 2)) pd_str pd_str))))))))))))))) (F__law_kinds.binds (ps := ["error"]) fun _ _ _ _ _ _ us hl => match us, hl with | [_], _ => rfl)
end
/-! _law_right -/
abbrev st__law_right : Stmt := topS 17
theorem sc__law_right : FnScope ["dice", "thing", "base", "due", "none", "others", "kept", "one"] ["dice"] (defScope st__law_right) := ⟨rfl, rfl, rfl, by decide +kernel, rfl, by decide +kernel, by decide +kernel⟩
def s1__law_right : GS := gV 7
def e2__law_right : M D := M.bind (callS m__law_kinds (consO (nameO 7) (M.ret []))) sVal
def l3__law_right : M D := compD (walkL (frzAt 5)) (s1__law_right) (M.ret true) (e2__law_right) [7]
def s4__law_right : GS := gV 7
def e5__law_right : M D := M.bind (callS m__law_kinds (consO (nameO 7) (M.ret []))) sVal
def l6__law_right : M D := compD (walkL (frzAt 4)) (s4__law_right) (M.ret true) (e5__law_right) [7]
def s7__law_right : GS := gV 7
def e8__law_right : M D := M.bind (callS m__law_kinds (consO (nameO 7) (M.ret []))) sVal
def l9__law_right : M D := compD (walkL (frzAt 2)) (s7__law_right) (M.ret true) (e8__law_right) [7]
def g__law_right : SM := (seqS (exps (M.bind (callS m__law_one_of (consO (nameO 0) (consO (toO (lstD (consD (M.ret (.int 0)) (consD (M.ret (.str "")) (consD (M.ret (.str "a")) (consD (M.ret .non) (consD (tupD (M.ret [])) (consD (tupD (consD (M.ret (.str "a")) (consD (M.ret (.int 1)) (M.ret [])))) (consD (op2 powG (toO (M.ret (.int 10))) (toO (M.ret (.int 30)))) (consD (M.ret (.bl true)) (consD (lstD (consD (M.ret (.int 1)) (M.ret []))) (consD (M.ret (.dk [(.inr "a", .tup [])])) (consD (app1 negG (toO (M.ret (.int 7)))) (M.ret [])))))))))))))) (M.ret [])))) sVal) (setV 1))
    (seqS (exps (lstD (consD (app1 (mkX "InvalidNet") (nameO 1)) (consD (app1 (mkX "InvalidLot") (nameO 1)) (consD (app1 (mkX "InvalidParting") (nameO 1)) (consD (app1 (mkX "InvalidOperation") (nameO 1)) (consD (M.bind (frzAt 1) fun d => M.ret (.exn "ParseError" [("line", d)])) (M.ret []))))))) (setOw 2))
    (seqS (exps (ownM 2 "list" appendG (consD (app1 (mkX "NetError") (nameO 1)) (M.ret []))) fun _ => skipS)
    (seqS (exps (lstD (consD (M.ret (.str "x....xx..........")) (consD (M.ret (.str ".x...xx..........")) (consD (M.ret (.str "..x..xx..........")) (consD (M.ret (.str "...x.xx..........")) (M.ret [])))))) (setV 3))
    (seqS (exps (asB (op2 neG (toO (l9__law_right)) (toO (op2 addG (nameO 3) (toO (lstD (consD (M.ret (.str "....xxx..........")) (consD (M.ret (.str ".....xx..........")) (M.ret []))))))))) fun k => if k = true then (exps (M.ret (.bl false)) fun d ρ => some (.ret (.val d), ρ)) else skipS)
    (seqS (exps (lstD (consD (M.ret (.exn "InvalidNet" [])) (consD (M.ret (.exn "InvalidLot" [])) (consD (M.ret (.exn "InvalidParting" [])) (consD (M.ret (.exn "InvalidOperation" [])) (consD (M.ret (.exn "NetError" [])) (M.ret []))))))) (setV 4))
    (seqS (exps (asB (op2 neG (toO (l6__law_right)) (toO (op2 addG (nameO 3) (toO (lstD (consD (M.ret (.str ".....xx..........")) (M.ret [])))))))) fun k => if k = true then (exps (M.ret (.bl false)) fun d ρ => some (.ret (.val d), ρ)) else skipS)
    (seqS (exps (lstD (consD (M.bind (frzAt 1) fun d => M.ret (.exn "UnknownPlace" [("place", d)])) (consD (M.bind (frzAt 1) fun d => M.ret (.exn "InvalidNumber" [("value", d)])) (consD (M.bind (frzAt 1) fun d => M.ret (.exn "TooMany" [("limit", d)])) (consD (M.bind (frzAt 1) fun d => M.ret (.exn "NothingToUndo" [("many", d)])) (consD (M.bind (frzAt 1) fun d => M.ret (.exn "Refused" [("reason", d)])) (M.ret []))))))) (setV 5))
    (seqS (exps (lstD (consD (M.ret (.str ".......x....x....")) (consD (M.ret (.str "........x....x...")) (consD (M.ret (.str ".........x...xx..")) (consD (M.ret (.str "..........x....x.")) (consD (M.ret (.str "...........x....x")) (M.ret []))))))) (setV 3))
    (seqS (exps (asB (op2 neG (toO (l3__law_right)) (nameO 3))) fun k => if k = true then (exps (M.ret (.bl false)) fun d ρ => some (.ret (.val d), ρ)) else skipS)
    (seqS (exps (lstD (consD (app1 (xfG "ParseError" "line") (toO (op2 ixG (nameO 2) (toO (M.ret (.int 4)))))) (consD (app1 (xfG "UnknownPlace" "place") (toO (op2 ixG (nameO 5) (toO (M.ret (.int 0)))))) (consD (app1 (xfG "InvalidNumber" "value") (toO (op2 ixG (nameO 5) (toO (M.ret (.int 1)))))) (consD (app1 (xfG "TooMany" "limit") (toO (op2 ixG (nameO 5) (toO (M.ret (.int 2)))))) (consD (app1 (xfG "NothingToUndo" "many") (toO (op2 ixG (nameO 5) (toO (M.ret (.int 3)))))) (consD (app1 (xfG "Refused" "reason") (toO (op2 ixG (nameO 5) (toO (M.ret (.int 4)))))) (M.ret [])))))))) (setV 6))
    (exps (op2 eqG (toO (app1 reprG (nameO 6))) (toO (app1 reprG (toO (op2 mulG (toO (lstD (consD (frzAt 1) (M.ret [])))) (toO (M.ret (.int 6)))))))) fun d ρ => some (.ret (.val d), ρ)))))))))))))
def m__law_right : FD := fnD 1 8 g__law_right
theorem good__law_right : Good m__law_right := fnD_good 1 8 g__law_right
section
variable {P : Program} {w : World} {K : PySem.W.Frag} {mg : Str → Option Value} {base : Heap} {cm : Str → Option Addr}
theorem ok__law_right {a__law_right : Addr} {d__law_right : FuncData} (F__law_right : Fun K "_law_right" "_law_right" st__law_right a__law_right d__law_right) (b_repr : mg "repr" = none) (H_reason : ∀ C, cm "Refused" = some C → XfC K C ∧ PySem.W.findIn K (.ref C) "reason" = some none) (H_many : ∀ C, cm "NothingToUndo" = some C → XfC K C ∧ PySem.W.findIn K (.ref C) "many" = some none) (H_limit : ∀ C, cm "TooMany" = some C → XfC K C ∧ PySem.W.findIn K (.ref C) "limit" = some none) (H_value : ∀ C, cm "InvalidNumber" = some C → XfC K C ∧ PySem.W.findIn K (.ref C) "value" = some none) (H_place : ∀ C, cm "UnknownPlace" = some C → XfC K C ∧ PySem.W.findIn K (.ref C) "place" = some none) (H_line : ∀ C, cm "ParseError" = some C → XfC K C ∧ PySem.W.findIn K (.ref C) "line" = some none) {a__law_kinds : Addr} {d__law_kinds : FuncData} (F__law_kinds : Fun K "_law_kinds" "_law_kinds" st__law_kinds a__law_kinds d__law_kinds) (b_isinstance : mg "isinstance" = none) (E_x : ∀ n C, cm n = some C → ExcC K C) (b_RuntimeError : mg "RuntimeError" = none) (T_RuntimeError : ∀ n C b, cm n = some C → tabOf tb_RuntimeError n = some b → PySem.W.kitOne K (.ref C) (.type "RuntimeError") = some b) (b_IndexError : mg "IndexError" = none) (T_IndexError : ∀ n C b, cm n = some C → tabOf tb_IndexError n = some b → PySem.W.kitOne K (.ref C) (.type "IndexError") = some b) (b_OverflowError : mg "OverflowError" = none) (T_OverflowError : ∀ n C b, cm n = some C → tabOf tb_OverflowError n = some b → PySem.W.kitOne K (.ref C) (.type "OverflowError") = some b) (b_ArithmeticError : mg "ArithmeticError" = none) (T_ArithmeticError : ∀ n C b, cm n = some C → tabOf tb_ArithmeticError n = some b → PySem.W.kitOne K (.ref C) (.type "ArithmeticError") = some b) (b_KeyError : mg "KeyError" = none) (T_KeyError : ∀ n C b, cm n = some C → tabOf tb_KeyError n = some b → PySem.W.kitOne K (.ref C) (.type "KeyError") = some b) {C_Refused : Addr} (cc_Refused : cm "Refused" = some C_Refused) (gc_Refused : mg "Refused" = some (.ref C_Refused)) (kc_Refused : PySem.W.keepIn K (.ref C_Refused) = true) (T_Refused : ∀ n C b, cm n = some C → tabOf tb_Refused n = some b → PySem.W.kitOne K (.ref C) (.ref C_Refused) = some b) {C_NothingToUndo : Addr} (cc_NothingToUndo : cm "NothingToUndo" = some C_NothingToUndo) (gc_NothingToUndo : mg "NothingToUndo" = some (.ref C_NothingToUndo)) (kc_NothingToUndo : PySem.W.keepIn K (.ref C_NothingToUndo) = true) (T_NothingToUndo : ∀ n C b, cm n = some C → tabOf tb_NothingToUndo n = some b → PySem.W.kitOne K (.ref C) (.ref C_NothingToUndo) = some b) {C_TooMany : Addr} (cc_TooMany : cm "TooMany" = some C_TooMany) (gc_TooMany : mg "TooMany" = some (.ref C_TooMany)) (kc_TooMany : PySem.W.keepIn K (.ref C_TooMany) = true) (T_TooMany : ∀ n C b, cm n = some C → tabOf tb_TooMany n = some b → PySem.W.kitOne K (.ref C) (.ref C_TooMany) = some b) {C_InvalidNumber : Addr} (cc_InvalidNumber : cm "InvalidNumber" = some C_InvalidNumber) (gc_InvalidNumber : mg "InvalidNumber" = some (.ref C_InvalidNumber)) (kc_InvalidNumber : PySem.W.keepIn K (.ref C_InvalidNumber) = true) (T_InvalidNumber : ∀ n C b, cm n = some C → tabOf tb_InvalidNumber n = some b → PySem.W.kitOne K (.ref C) (.ref C_InvalidNumber) = some b) {C_UnknownPlace : Addr} (cc_UnknownPlace : cm "UnknownPlace" = some C_UnknownPlace) (gc_UnknownPlace : mg "UnknownPlace" = some (.ref C_UnknownPlace)) (kc_UnknownPlace : PySem.W.keepIn K (.ref C_UnknownPlace) = true) (T_UnknownPlace : ∀ n C b, cm n = some C → tabOf tb_UnknownPlace n = some b → PySem.W.kitOne K (.ref C) (.ref C_UnknownPlace) = some b) (b_ValueError : mg "ValueError" = none) (T_ValueError : ∀ n C b, cm n = some C → tabOf tb_ValueError n = some b → PySem.W.kitOne K (.ref C) (.type "ValueError") = some b) {C_NetError : Addr} (cc_NetError : cm "NetError" = some C_NetError) (gc_NetError : mg "NetError" = some (.ref C_NetError)) (kc_NetError : PySem.W.keepIn K (.ref C_NetError) = true) (T_NetError : ∀ n C b, cm n = some C → tabOf tb_NetError n = some b → PySem.W.kitOne K (.ref C) (.ref C_NetError) = some b) {C_ParseError : Addr} (cc_ParseError : cm "ParseError" = some C_ParseError) (gc_ParseError : mg "ParseError" = some (.ref C_ParseError)) (kc_ParseError : PySem.W.keepIn K (.ref C_ParseError) = true) (T_ParseError : ∀ n C b, cm n = some C → tabOf tb_ParseError n = some b → PySem.W.kitOne K (.ref C) (.ref C_ParseError) = some b) {C_InvalidOperation : Addr} (cc_InvalidOperation : cm "InvalidOperation" = some C_InvalidOperation) (gc_InvalidOperation : mg "InvalidOperation" = some (.ref C_InvalidOperation)) (kc_InvalidOperation : PySem.W.keepIn K (.ref C_InvalidOperation) = true) (T_InvalidOperation : ∀ n C b, cm n = some C → tabOf tb_InvalidOperation n = some b → PySem.W.kitOne K (.ref C) (.ref C_InvalidOperation) = some b) {C_InvalidParting : Addr} (cc_InvalidParting : cm "InvalidParting" = some C_InvalidParting) (gc_InvalidParting : mg "InvalidParting" = some (.ref C_InvalidParting)) (kc_InvalidParting : PySem.W.keepIn K (.ref C_InvalidParting) = true) (T_InvalidParting : ∀ n C b, cm n = some C → tabOf tb_InvalidParting n = some b → PySem.W.kitOne K (.ref C) (.ref C_InvalidParting) = some b) {C_InvalidLot : Addr} (cc_InvalidLot : cm "InvalidLot" = some C_InvalidLot) (gc_InvalidLot : mg "InvalidLot" = some (.ref C_InvalidLot)) (kc_InvalidLot : PySem.W.keepIn K (.ref C_InvalidLot) = true) (T_InvalidLot : ∀ n C b, cm n = some C → tabOf tb_InvalidLot n = some b → PySem.W.kitOne K (.ref C) (.ref C_InvalidLot) = some b) {C_InvalidNet : Addr} (cc_InvalidNet : cm "InvalidNet" = some C_InvalidNet) (gc_InvalidNet : mg "InvalidNet" = some (.ref C_InvalidNet)) (kc_InvalidNet : PySem.W.keepIn K (.ref C_InvalidNet) = true) (T_InvalidNet : ∀ n C b, cm n = some C → tabOf tb_InvalidNet n = some b → PySem.W.kitOne K (.ref C) (.ref C_InvalidNet) = some b) (q__law_kinds : mg "_law_kinds" = some (.ref a__law_kinds)) (k__law_kinds : PySem.W.keepIn K (.ref a__law_kinds) = true) {fI_Refused : Addr} (I_Refused : InitF K P C_Refused fI_Refused "reason") {fI_NothingToUndo : Addr} (I_NothingToUndo : InitF K P C_NothingToUndo fI_NothingToUndo "many") {fI_TooMany : Addr} (I_TooMany : InitF K P C_TooMany fI_TooMany "limit") {fI_InvalidNumber : Addr} (I_InvalidNumber : InitF K P C_InvalidNumber fI_InvalidNumber "value") {fI_UnknownPlace : Addr} (I_UnknownPlace : InitF K P C_UnknownPlace fI_UnknownPlace "place") (N_NetError : PySem.W.excIn K C_NetError bm_ValueError "ValueError.__new__" = true) (N_InvalidOperation : PySem.W.excIn K C_InvalidOperation bm_ValueError "ValueError.__new__" = true) (N_InvalidParting : PySem.W.excIn K C_InvalidParting bm_ValueError "ValueError.__new__" = true) (N_InvalidLot : PySem.W.excIn K C_InvalidLot bm_ValueError "ValueError.__new__" = true) (N_InvalidNet : PySem.W.excIn K C_InvalidNet bm_ValueError "ValueError.__new__" = true) {fI_ParseError : Addr} (I_ParseError : InitF K P C_ParseError fI_ParseError "line") {a__law_one_of : Addr} {d__law_one_of : FuncData} (F__law_one_of : Fun K "_law_one_of" "_law_one_of" st__law_one_of a__law_one_of d__law_one_of) {a__law_roll : Addr} {d__law_roll : FuncData} (F__law_roll : Fun K "_law_roll" "_law_roll" st__law_roll a__law_roll d__law_roll) (b_int : mg "int" = none) (q__law_roll : mg "_law_roll" = some (.ref a__law_roll)) (k__law_roll : PySem.W.keepIn K (.ref a__law_roll) = true) (b_len : mg "len" = none) (q__law_one_of : mg "_law_one_of" = some (.ref a__law_one_of)) (k__law_one_of : PySem.W.keepIn K (.ref a__law_one_of) = true) : OkG P w K mg base cm 3 a__law_right m__law_right :=
  okG_of (ps := ["dice"]) (N := ["dice", "thing", "base", "due", "none", "others", "kept", "one"]) F__law_right sc__law_right (F__law_right.binds (ps := ["dice"]) fun _ _ _ _ _ _ us hl => match us, hl with | [_], _ => rfl) fun cdv A outer s H E hG hr =>
    (pss_cons' (psd_set 1 sc__law_right.nd (pd_ofS (psl_callR ((ok__law_one_of F__law_one_of F__law_roll b_int q__law_roll k__law_roll b_len).mono (by decide)) good__law_one_of (takes_of rfl rfl rfl rfl) hr (by rfl) q__law_one_of k__law_one_of (pas_cons (po_name 0) (pas_cons (po_of (pd_fresh (pf_lst (pvs_cons pd_int (pvs_cons pd_str (pvs_cons pd_str (pvs_cons pd_non (pvs_cons (pd_tup pvs_nil) (pvs_cons (pd_tup (pvs_cons pd_str (pvs_cons pd_int pvs_nil))) (pvs_cons (pd_op op_powW od_pow (po_of pd_int) (po_of pd_int)) (pvs_cons pd_bl (pvs_cons (pd_fresh (pf_lst (pvs_cons pd_int pvs_nil))) (pvs_cons pd_disp0 (pvs_cons (pd_neg (po_of pd_int)) pvs_nil)))))))))))))) pas_nil)))))
    (pss_cons' (psd_setO 2 sc__law_right.nd (pf_lst (pvs_cons (pd_exnN "InvalidNet" cc_InvalidNet PySem.F.excBase_ValueError N_InvalidNet gc_InvalidNet kc_InvalidNet (by rfl) (po_name 1)) (pvs_cons (pd_exnN "InvalidLot" cc_InvalidLot PySem.F.excBase_ValueError N_InvalidLot gc_InvalidLot kc_InvalidLot (by rfl) (po_name 1)) (pvs_cons (pd_exnN "InvalidParting" cc_InvalidParting PySem.F.excBase_ValueError N_InvalidParting gc_InvalidParting kc_InvalidParting (by rfl) (po_name 1)) (pvs_cons (pd_exnN "InvalidOperation" cc_InvalidOperation PySem.F.excBase_ValueError N_InvalidOperation gc_InvalidOperation kc_InvalidOperation (by rfl) (po_name 1)) (pvs_cons (pd_exnI "ParseError" cc_ParseError I_ParseError gc_ParseError kc_ParseError (by rfl) (hr.mono (by decide)) (pd_name 1)) pvs_nil)))))))
    (pss_cons' (psd_expr (pd_ownM 2 PySem.F.plainAttrs_list PySem.F.slot_list_append PySem.F.type_list_append mt_append mo_append (pvs_cons (pd_exnN "NetError" cc_NetError PySem.F.excBase_ValueError N_NetError gc_NetError kc_NetError (by rfl) (po_name 1)) pvs_nil)))
    (pss_cons' (psd_set 3 sc__law_right.nd (pd_fresh (pf_lst (pvs_cons pd_str (pvs_cons pd_str (pvs_cons pd_str (pvs_cons pd_str pvs_nil)))))))
    (pss_cons' (psd_if (pb_cmp (op_neD hr.units) od_ne (po_of (pd_fresh (pf_lc [("one", 7)] rfl sc__law_right.nd (pid_list (pd_name 2)) (blkOk_by (own := [("one", 7)]) (N := ["dice", "thing", "base", "due", "none", "others", "kept", "one"]) (sc := defScope st__law_right) (by decide +kernel)) (fun _ _ _ _ _ => (pgd_name 7 sc__law_right.nd)) (fun _ _ _ _ _ => ptsd_nil) (fun _ _ _ _ _ => (pd_ofS (psl_callR ((ok__law_kinds F__law_kinds b_isinstance E_x b_RuntimeError T_RuntimeError b_IndexError T_IndexError b_OverflowError T_OverflowError b_ArithmeticError T_ArithmeticError b_KeyError T_KeyError cc_Refused gc_Refused kc_Refused T_Refused cc_NothingToUndo gc_NothingToUndo kc_NothingToUndo T_NothingToUndo cc_TooMany gc_TooMany kc_TooMany T_TooMany cc_InvalidNumber gc_InvalidNumber kc_InvalidNumber T_InvalidNumber cc_UnknownPlace gc_UnknownPlace kc_UnknownPlace T_UnknownPlace b_ValueError T_ValueError cc_NetError gc_NetError kc_NetError T_NetError cc_ParseError gc_ParseError kc_ParseError T_ParseError cc_InvalidOperation gc_InvalidOperation kc_InvalidOperation T_InvalidOperation cc_InvalidParting gc_InvalidParting kc_InvalidParting T_InvalidParting cc_InvalidLot gc_InvalidLot kc_InvalidLot T_InvalidLot cc_InvalidNet gc_InvalidNet kc_InvalidNet T_InvalidNet).mono (by decide)) good__law_kinds takes0 hr (by rfl) q__law_kinds k__law_kinds (pas_cons (po_name 7) pas_nil))))))) (po_of (pd_op op_addD od_add (po_name 3) (po_of (pd_fresh (pf_lst (pvs_cons pd_str (pvs_cons pd_str pvs_nil))))))) (by with_unfolding_all rfl))
    (pss_one' (psd_ret pd_bl))
    pss_nil')
    (pss_cons' (psd_set 4 sc__law_right.nd (pd_fresh (pf_lst (pvs_cons (pd_exnN0 "InvalidNet" cc_InvalidNet PySem.F.excBase_ValueError N_InvalidNet gc_InvalidNet kc_InvalidNet (by rfl)) (pvs_cons (pd_exnN0 "InvalidLot" cc_InvalidLot PySem.F.excBase_ValueError N_InvalidLot gc_InvalidLot kc_InvalidLot (by rfl)) (pvs_cons (pd_exnN0 "InvalidParting" cc_InvalidParting PySem.F.excBase_ValueError N_InvalidParting gc_InvalidParting kc_InvalidParting (by rfl)) (pvs_cons (pd_exnN0 "InvalidOperation" cc_InvalidOperation PySem.F.excBase_ValueError N_InvalidOperation gc_InvalidOperation kc_InvalidOperation (by rfl)) (pvs_cons (pd_exnN0 "NetError" cc_NetError PySem.F.excBase_ValueError N_NetError gc_NetError kc_NetError (by rfl)) pvs_nil))))))))
    (pss_cons' (psd_if (pb_cmp (op_neD hr.units) od_ne (po_of (pd_fresh (pf_lc [("one", 7)] rfl sc__law_right.nd (pid_list (pd_name 4)) (blkOk_by (own := [("one", 7)]) (N := ["dice", "thing", "base", "due", "none", "others", "kept", "one"]) (sc := defScope st__law_right) (by decide +kernel)) (fun _ _ _ _ _ => (pgd_name 7 sc__law_right.nd)) (fun _ _ _ _ _ => ptsd_nil) (fun _ _ _ _ _ => (pd_ofS (psl_callR ((ok__law_kinds F__law_kinds b_isinstance E_x b_RuntimeError T_RuntimeError b_IndexError T_IndexError b_OverflowError T_OverflowError b_ArithmeticError T_ArithmeticError b_KeyError T_KeyError cc_Refused gc_Refused kc_Refused T_Refused cc_NothingToUndo gc_NothingToUndo kc_NothingToUndo T_NothingToUndo cc_TooMany gc_TooMany kc_TooMany T_TooMany cc_InvalidNumber gc_InvalidNumber kc_InvalidNumber T_InvalidNumber cc_UnknownPlace gc_UnknownPlace kc_UnknownPlace T_UnknownPlace b_ValueError T_ValueError cc_NetError gc_NetError kc_NetError T_NetError cc_ParseError gc_ParseError kc_ParseError T_ParseError cc_InvalidOperation gc_InvalidOperation kc_InvalidOperation T_InvalidOperation cc_InvalidParting gc_InvalidParting kc_InvalidParting T_InvalidParting cc_InvalidLot gc_InvalidLot kc_InvalidLot T_InvalidLot cc_InvalidNet gc_InvalidNet kc_InvalidNet T_InvalidNet).mono (by decide)) good__law_kinds takes0 hr (by rfl) q__law_kinds k__law_kinds (pas_cons (po_name 7) pas_nil))))))) (po_of (pd_op op_addD od_add (po_name 3) (po_of (pd_fresh (pf_lst (pvs_cons pd_str pvs_nil)))))) (by with_unfolding_all rfl))
    (pss_one' (psd_ret pd_bl))
    pss_nil')
    (pss_cons' (psd_set 5 sc__law_right.nd (pd_fresh (pf_lst (pvs_cons (pd_exnI "UnknownPlace" cc_UnknownPlace I_UnknownPlace gc_UnknownPlace kc_UnknownPlace (by rfl) (hr.mono (by decide)) (pd_name 1)) (pvs_cons (pd_exnI "InvalidNumber" cc_InvalidNumber I_InvalidNumber gc_InvalidNumber kc_InvalidNumber (by rfl) (hr.mono (by decide)) (pd_name 1)) (pvs_cons (pd_exnI "TooMany" cc_TooMany I_TooMany gc_TooMany kc_TooMany (by rfl) (hr.mono (by decide)) (pd_name 1)) (pvs_cons (pd_exnI "NothingToUndo" cc_NothingToUndo I_NothingToUndo gc_NothingToUndo kc_NothingToUndo (by rfl) (hr.mono (by decide)) (pd_name 1)) (pvs_cons (pd_exnI "Refused" cc_Refused I_Refused gc_Refused kc_Refused (by rfl) (hr.mono (by decide)) (pd_name 1)) pvs_nil))))))))
    (pss_cons' (psd_set 3 sc__law_right.nd (pd_fresh (pf_lst (pvs_cons pd_str (pvs_cons pd_str (pvs_cons pd_str (pvs_cons pd_str (pvs_cons pd_str pvs_nil))))))))
    (pss_cons' (psd_if (pb_cmp (op_neD hr.units) od_ne (po_of (pd_fresh (pf_lc [("one", 7)] rfl sc__law_right.nd (pid_list (pd_name 5)) (blkOk_by (own := [("one", 7)]) (N := ["dice", "thing", "base", "due", "none", "others", "kept", "one"]) (sc := defScope st__law_right) (by decide +kernel)) (fun _ _ _ _ _ => (pgd_name 7 sc__law_right.nd)) (fun _ _ _ _ _ => ptsd_nil) (fun _ _ _ _ _ => (pd_ofS (psl_callR ((ok__law_kinds F__law_kinds b_isinstance E_x b_RuntimeError T_RuntimeError b_IndexError T_IndexError b_OverflowError T_OverflowError b_ArithmeticError T_ArithmeticError b_KeyError T_KeyError cc_Refused gc_Refused kc_Refused T_Refused cc_NothingToUndo gc_NothingToUndo kc_NothingToUndo T_NothingToUndo cc_TooMany gc_TooMany kc_TooMany T_TooMany cc_InvalidNumber gc_InvalidNumber kc_InvalidNumber T_InvalidNumber cc_UnknownPlace gc_UnknownPlace kc_UnknownPlace T_UnknownPlace b_ValueError T_ValueError cc_NetError gc_NetError kc_NetError T_NetError cc_ParseError gc_ParseError kc_ParseError T_ParseError cc_InvalidOperation gc_InvalidOperation kc_InvalidOperation T_InvalidOperation cc_InvalidParting gc_InvalidParting kc_InvalidParting T_InvalidParting cc_InvalidLot gc_InvalidLot kc_InvalidLot T_InvalidLot cc_InvalidNet gc_InvalidNet kc_InvalidNet T_InvalidNet).mono (by decide)) good__law_kinds takes0 hr (by rfl) q__law_kinds k__law_kinds (pas_cons (po_name 7) pas_nil))))))) (po_name 3) (by with_unfolding_all rfl))
    (pss_one' (psd_ret pd_bl))
    pss_nil')
    (pss_cons' (psd_set 6 sc__law_right.nd (pd_fresh (pf_lst (pvs_cons (pd_xfld "ParseError" H_line (po_of (pd_ix (po_name 2) (po_of pd_int)))) (pvs_cons (pd_xfld "UnknownPlace" H_place (po_of (pd_ix (po_name 5) (po_of pd_int)))) (pvs_cons (pd_xfld "InvalidNumber" H_value (po_of (pd_ix (po_name 5) (po_of pd_int)))) (pvs_cons (pd_xfld "TooMany" H_limit (po_of (pd_ix (po_name 5) (po_of pd_int)))) (pvs_cons (pd_xfld "NothingToUndo" H_many (po_of (pd_ix (po_name 5) (po_of pd_int)))) (pvs_cons (pd_xfld "Refused" H_reason (po_of (pd_ix (po_name 5) (po_of pd_int)))) pvs_nil)))))))))
    (pss_one' (psd_ret (pd_cmp (op_eqD hr.units) od_eq (po_of (pd_repr hG hr.units (by rfl) b_repr (po_name 6))) (po_of (pd_repr hG hr.units (by rfl) b_repr (po_of (pd_op op_mulD od_mul (po_of (pd_fresh (pf_lst (pvs_cons (pd_name 1) pvs_nil)))) (po_of pd_int))))) (by with_unfolding_all rfl)))))))))))))))
end
/-! law -/
abbrev st_law : Stmt := topS 18
theorem sc_law : FnScope ["script", "spot", "dice", "turn"] ["script"] (defScope st_law) := ⟨rfl, rfl, rfl, by decide +kernel, rfl, by decide +kernel, by decide +kernel⟩
def s1_law : GS := gV 3
def b2_law : SM := (exps (notB (truB (toO (M.bind (callS m__law_right (consO (nameO 2) (M.ret []))) sVal)))) fun k => if k = true then (exps (M.ret (.bl false)) fun d ρ => some (.ret (.val d), ρ)) else skipS)
def s3_law : GS := gV 1
def b4_law : SM := (seqS (exps (M.bind (callS m__law_dice (consO (nameO 0) (consO (nameO 1) (M.ret [])))) sOwn) (setOw 2))
    (exps (walkR1 (consO (toO (M.ret (.int 4))) (M.ret []))) fun ds => loopF s1_law b2_law ds))
def g_law : SM := (seqS (exps (walkR1 (consO (toO (callD (two max2G) (consO (toO (M.ret (.int 1))) (consO (toO (callD (two min2G) (consO (toO (M.ret (.int 8))) (consO (toO (callD (one lenG) (consO (nameO 0) (M.ret [])))) (M.ret []))))) (M.ret []))))) (M.ret []))) fun ds => loopF s3_law b4_law ds)
    (exps (op2 eqG (toO (lstD (consD (app1 (xfG "ParseError" "line") (toO (M.bind (M.ret .non) fun d => M.ret (.exn "ParseError" [("line", d)])))) (consD (app1 (xfG "ParseError" "line") (toO (M.bind (M.ret (.int 3)) fun d => M.ret (.exn "ParseError" [("line", d)])))) (consD (app1 (xfG "TooMany" "limit") (toO (M.bind (M.ret (.int 60)) fun d => M.ret (.exn "TooMany" [("limit", d)])))) (M.ret [])))))) (toO (lstD (consD (M.ret .non) (consD (M.ret (.int 3)) (consD (M.ret (.int 60)) (M.ret []))))))) fun d ρ => some (.ret (.val d), ρ)))
def m_law : FD := fnD 1 4 g_law
theorem good_law : Good m_law := fnD_good 1 4 g_law
section
variable {P : Program} {w : World} {K : PySem.W.Frag} {mg : Str → Option Value} {base : Heap} {cm : Str → Option Addr}
theorem ok_law {a_law : Addr} {d_law : FuncData} (F_law : Fun K "law" "law" st_law a_law d_law) (H_limit : ∀ C, cm "TooMany" = some C → XfC K C ∧ PySem.W.findIn K (.ref C) "limit" = some none) {C_TooMany : Addr} (cc_TooMany : cm "TooMany" = some C_TooMany) (gc_TooMany : mg "TooMany" = some (.ref C_TooMany)) (kc_TooMany : PySem.W.keepIn K (.ref C_TooMany) = true) {fI_TooMany : Addr} (I_TooMany : InitF K P C_TooMany fI_TooMany "limit") (H_line : ∀ C, cm "ParseError" = some C → XfC K C ∧ PySem.W.findIn K (.ref C) "line" = some none) {C_ParseError : Addr} (cc_ParseError : cm "ParseError" = some C_ParseError) (gc_ParseError : mg "ParseError" = some (.ref C_ParseError)) (kc_ParseError : PySem.W.keepIn K (.ref C_ParseError) = true) {fI_ParseError : Addr} (I_ParseError : InitF K P C_ParseError fI_ParseError "line") (b_range : mg "range" = none) (b_max : mg "max" = none) (b_min : mg "min" = none) (b_len : mg "len" = none) {a__law_right : Addr} {d__law_right : FuncData} (F__law_right : Fun K "_law_right" "_law_right" st__law_right a__law_right d__law_right) (b_repr : mg "repr" = none) (H_reason : ∀ C, cm "Refused" = some C → XfC K C ∧ PySem.W.findIn K (.ref C) "reason" = some none) (H_many : ∀ C, cm "NothingToUndo" = some C → XfC K C ∧ PySem.W.findIn K (.ref C) "many" = some none) (H_value : ∀ C, cm "InvalidNumber" = some C → XfC K C ∧ PySem.W.findIn K (.ref C) "value" = some none) (H_place : ∀ C, cm "UnknownPlace" = some C → XfC K C ∧ PySem.W.findIn K (.ref C) "place" = some none) {a__law_kinds : Addr} {d__law_kinds : FuncData} (F__law_kinds : Fun K "_law_kinds" "_law_kinds" st__law_kinds a__law_kinds d__law_kinds) (b_isinstance : mg "isinstance" = none) (E_x : ∀ n C, cm n = some C → ExcC K C) (b_RuntimeError : mg "RuntimeError" = none) (T_RuntimeError : ∀ n C b, cm n = some C → tabOf tb_RuntimeError n = some b → PySem.W.kitOne K (.ref C) (.type "RuntimeError") = some b) (b_IndexError : mg "IndexError" = none) (T_IndexError : ∀ n C b, cm n = some C → tabOf tb_IndexError n = some b → PySem.W.kitOne K (.ref C) (.type "IndexError") = some b) (b_OverflowError : mg "OverflowError" = none) (T_OverflowError : ∀ n C b, cm n = some C → tabOf tb_OverflowError n = some b → PySem.W.kitOne K (.ref C) (.type "OverflowError") = some b) (b_ArithmeticError : mg "ArithmeticError" = none) (T_ArithmeticError : ∀ n C b, cm n = some C → tabOf tb_ArithmeticError n = some b → PySem.W.kitOne K (.ref C) (.type "ArithmeticError") = some b) (b_KeyError : mg "KeyError" = none) (T_KeyError : ∀ n C b, cm n = some C → tabOf tb_KeyError n = some b → PySem.W.kitOne K (.ref C) (.type "KeyError") = some b) {C_Refused : Addr} (cc_Refused : cm "Refused" = some C_Refused) (gc_Refused : mg "Refused" = some (.ref C_Refused)) (kc_Refused : PySem.W.keepIn K (.ref C_Refused) = true) (T_Refused : ∀ n C b, cm n = some C → tabOf tb_Refused n = some b → PySem.W.kitOne K (.ref C) (.ref C_Refused) = some b) {C_NothingToUndo : Addr} (cc_NothingToUndo : cm "NothingToUndo" = some C_NothingToUndo) (gc_NothingToUndo : mg "NothingToUndo" = some (.ref C_NothingToUndo)) (kc_NothingToUndo : PySem.W.keepIn K (.ref C_NothingToUndo) = true) (T_NothingToUndo : ∀ n C b, cm n = some C → tabOf tb_NothingToUndo n = some b → PySem.W.kitOne K (.ref C) (.ref C_NothingToUndo) = some b) (T_TooMany : ∀ n C b, cm n = some C → tabOf tb_TooMany n = some b → PySem.W.kitOne K (.ref C) (.ref C_TooMany) = some b) {C_InvalidNumber : Addr} (cc_InvalidNumber : cm "InvalidNumber" = some C_InvalidNumber) (gc_InvalidNumber : mg "InvalidNumber" = some (.ref C_InvalidNumber)) (kc_InvalidNumber : PySem.W.keepIn K (.ref C_InvalidNumber) = true) (T_InvalidNumber : ∀ n C b, cm n = some C → tabOf tb_InvalidNumber n = some b → PySem.W.kitOne K (.ref C) (.ref C_InvalidNumber) = some b) {C_UnknownPlace : Addr} (cc_UnknownPlace : cm "UnknownPlace" = some C_UnknownPlace) (gc_UnknownPlace : mg "UnknownPlace" = some (.ref C_UnknownPlace)) (kc_UnknownPlace : PySem.W.keepIn K (.ref C_UnknownPlace) = true) (T_UnknownPlace : ∀ n C b, cm n = some C → tabOf tb_UnknownPlace n = some b → PySem.W.kitOne K (.ref C) (.ref C_UnknownPlace) = some b) (b_ValueError : mg "ValueError" = none) (T_ValueError : ∀ n C b, cm n = some C → tabOf tb_ValueError n = some b → PySem.W.kitOne K (.ref C) (.type "ValueError") = some b) {C_NetError : Addr} (cc_NetError : cm "NetError" = some C_NetError) (gc_NetError : mg "NetError" = some (.ref C_NetError)) (kc_NetError : PySem.W.keepIn K (.ref C_NetError) = true) (T_NetError : ∀ n C b, cm n = some C → tabOf tb_NetError n = some b → PySem.W.kitOne K (.ref C) (.ref C_NetError) = some b) (T_ParseError : ∀ n C b, cm n = some C → tabOf tb_ParseError n = some b → PySem.W.kitOne K (.ref C) (.ref C_ParseError) = some b) {C_InvalidOperation : Addr} (cc_InvalidOperation : cm "InvalidOperation" = some C_InvalidOperation) (gc_InvalidOperation : mg "InvalidOperation" = some (.ref C_InvalidOperation)) (kc_InvalidOperation : PySem.W.keepIn K (.ref C_InvalidOperation) = true) (T_InvalidOperation : ∀ n C b, cm n = some C → tabOf tb_InvalidOperation n = some b → PySem.W.kitOne K (.ref C) (.ref C_InvalidOperation) = some b) {C_InvalidParting : Addr} (cc_InvalidParting : cm "InvalidParting" = some C_InvalidParting) (gc_InvalidParting : mg "InvalidParting" = some (.ref C_InvalidParting)) (kc_InvalidParting : PySem.W.keepIn K (.ref C_InvalidParting) = true) (T_InvalidParting : ∀ n C b, cm n = some C → tabOf tb_InvalidParting n = some b → PySem.W.kitOne K (.ref C) (.ref C_InvalidParting) = some b) {C_InvalidLot : Addr} (cc_InvalidLot : cm "InvalidLot" = some C_InvalidLot) (gc_InvalidLot : mg "InvalidLot" = some (.ref C_InvalidLot)) (kc_InvalidLot : PySem.W.keepIn K (.ref C_InvalidLot) = true) (T_InvalidLot : ∀ n C b, cm n = some C → tabOf tb_InvalidLot n = some b → PySem.W.kitOne K (.ref C) (.ref C_InvalidLot) = some b) {C_InvalidNet : Addr} (cc_InvalidNet : cm "InvalidNet" = some C_InvalidNet) (gc_InvalidNet : mg "InvalidNet" = some (.ref C_InvalidNet)) (kc_InvalidNet : PySem.W.keepIn K (.ref C_InvalidNet) = true) (T_InvalidNet : ∀ n C b, cm n = some C → tabOf tb_InvalidNet n = some b → PySem.W.kitOne K (.ref C) (.ref C_InvalidNet) = some b) (q__law_kinds : mg "_law_kinds" = some (.ref a__law_kinds)) (k__law_kinds : PySem.W.keepIn K (.ref a__law_kinds) = true) {fI_Refused : Addr} (I_Refused : InitF K P C_Refused fI_Refused "reason") {fI_NothingToUndo : Addr} (I_NothingToUndo : InitF K P C_NothingToUndo fI_NothingToUndo "many") {fI_InvalidNumber : Addr} (I_InvalidNumber : InitF K P C_InvalidNumber fI_InvalidNumber "value") {fI_UnknownPlace : Addr} (I_UnknownPlace : InitF K P C_UnknownPlace fI_UnknownPlace "place") (N_NetError : PySem.W.excIn K C_NetError bm_ValueError "ValueError.__new__" = true) (N_InvalidOperation : PySem.W.excIn K C_InvalidOperation bm_ValueError "ValueError.__new__" = true) (N_InvalidParting : PySem.W.excIn K C_InvalidParting bm_ValueError "ValueError.__new__" = true) (N_InvalidLot : PySem.W.excIn K C_InvalidLot bm_ValueError "ValueError.__new__" = true) (N_InvalidNet : PySem.W.excIn K C_InvalidNet bm_ValueError "ValueError.__new__" = true) {a__law_one_of : Addr} {d__law_one_of : FuncData} (F__law_one_of : Fun K "_law_one_of" "_law_one_of" st__law_one_of a__law_one_of d__law_one_of) {a__law_roll : Addr} {d__law_roll : FuncData} (F__law_roll : Fun K "_law_roll" "_law_roll" st__law_roll a__law_roll d__law_roll) (b_int : mg "int" = none) (q__law_roll : mg "_law_roll" = some (.ref a__law_roll)) (k__law_roll : PySem.W.keepIn K (.ref a__law_roll) = true) (q__law_one_of : mg "_law_one_of" = some (.ref a__law_one_of)) (k__law_one_of : PySem.W.keepIn K (.ref a__law_one_of) = true) (q__law_right : mg "_law_right" = some (.ref a__law_right)) (k__law_right : PySem.W.keepIn K (.ref a__law_right) = true) {a__law_dice : Addr} {d__law_dice : FuncData} (F__law_dice : Fun K "_law_dice" "_law_dice" st__law_dice a__law_dice d__law_dice) (b_abs : mg "abs" = none) (q__law_dice : mg "_law_dice" = some (.ref a__law_dice)) (k__law_dice : PySem.W.keepIn K (.ref a__law_dice) = true) : OkG P w K mg base cm 4 a_law m_law :=
  okG_of (ps := ["script"]) (N := ["script", "spot", "dice", "turn"]) F_law sc_law (F_law.binds (ps := ["script"]) fun _ _ _ _ _ _ us hl => match us, hl with | [_], _ => rfl) fun cdv A outer s H E hG hr =>
    (pss_cons' (psd_for (passes_of rfl) rfl (pid_range1 (by rfl) b_range (pas_cons (po_of (pd_callB (call_max2 rfl) cd_max2 (by rfl) b_max (by decide +kernel) (pas_cons (po_of pd_int) (pas_cons (po_of (pd_callB (call_min2 rfl) cd_min2 (by rfl) b_min (by decide +kernel) (pas_cons (po_of pd_int) (pas_cons (po_of (pd_callB call_lenS cd_len (by rfl) b_len (by decide +kernel) (pas_cons (po_name 0) pas_nil))) pas_nil)))) pas_nil)))) pas_nil)) (pgd_name 1 sc_law.nd)
    (pss_cons' (psd_setO 2 sc_law.nd (pf_ofS (psl_callR ((ok__law_dice F__law_dice b_int b_abs b_len).mono (by decide)) good__law_dice (takes_of rfl rfl rfl rfl) hr (by rfl) q__law_dice k__law_dice (pas_cons (po_name 0) (pas_cons (po_name 1) pas_nil)))))
    (pss_one' (psd_for (passes_of rfl) rfl (pid_range1 (by rfl) b_range (pas_cons (po_of pd_int) pas_nil)) (pgd_name 3 sc_law.nd)
    (pss_one' (psd_if (pb_not (pb_truth (po_of (pd_ofS (psl_callG (FnG.mono (ok__law_right F__law_right b_repr H_reason H_many H_limit H_value H_place H_line F__law_kinds b_isinstance E_x b_RuntimeError T_RuntimeError b_IndexError T_IndexError b_OverflowError T_OverflowError b_ArithmeticError T_ArithmeticError b_KeyError T_KeyError cc_Refused gc_Refused kc_Refused T_Refused cc_NothingToUndo gc_NothingToUndo kc_NothingToUndo T_NothingToUndo cc_TooMany gc_TooMany kc_TooMany T_TooMany cc_InvalidNumber gc_InvalidNumber kc_InvalidNumber T_InvalidNumber cc_UnknownPlace gc_UnknownPlace kc_UnknownPlace T_UnknownPlace b_ValueError T_ValueError cc_NetError gc_NetError kc_NetError T_NetError cc_ParseError gc_ParseError kc_ParseError T_ParseError cc_InvalidOperation gc_InvalidOperation kc_InvalidOperation T_InvalidOperation cc_InvalidParting gc_InvalidParting kc_InvalidParting T_InvalidParting cc_InvalidLot gc_InvalidLot kc_InvalidLot T_InvalidLot cc_InvalidNet gc_InvalidNet kc_InvalidNet T_InvalidNet q__law_kinds k__law_kinds I_Refused I_NothingToUndo I_TooMany I_InvalidNumber I_UnknownPlace N_NetError N_InvalidOperation N_InvalidParting N_InvalidLot N_InvalidNet I_ParseError F__law_one_of F__law_roll b_int q__law_roll k__law_roll b_len q__law_one_of k__law_one_of) (by decide)) good__law_right (takes_of rfl rfl rfl rfl) hG hr (by rfl) q__law_right k__law_right (pas_cons (po_name 2) pas_nil))))))
    (pss_one' (psd_ret pd_bl))
    pss_nil'))))))
    (pss_one' (psd_ret (pd_cmp (op_eqD hr.units) od_eq (po_of (pd_fresh (pf_lst (pvs_cons (pd_xfld "ParseError" H_line (po_of (pd_exnI "ParseError" cc_ParseError I_ParseError gc_ParseError kc_ParseError (by rfl) (hr.mono (by decide)) pd_non))) (pvs_cons (pd_xfld "ParseError" H_line (po_of (pd_exnI "ParseError" cc_ParseError I_ParseError gc_ParseError kc_ParseError (by rfl) (hr.mono (by decide)) pd_int))) (pvs_cons (pd_xfld "TooMany" H_limit (po_of (pd_exnI "TooMany" cc_TooMany I_TooMany gc_TooMany kc_TooMany (by rfl) (hr.mono (by decide)) pd_int))) pvs_nil)))))) (po_of (pd_fresh (pf_lst (pvs_cons pd_non (pvs_cons pd_int (pvs_cons pd_int pvs_nil)))))) (by with_unfolding_all rfl)))))
end
end K00
end Pd

namespace Pd
open PySem PySem.Spec L2
namespace K00
/-! the dice -/
abbrev dc (a b c : Int) : D := .lst [.int a, .int b, .int c]
/-- a dice that may be rolled n times more -/
def Dc (n : Nat) (d : D) : Prop := ∃ a b c : Int, d = dc a b c ∧ 0 ≤ b ∧ b < 2 ^ 32 ∧ 0 ≤ c ∧ c + n ≤ 2 ^ 30
theorem Dc.le {n m : Nat} {d : D} (h : Dc n d) (l : m ≤ n) : Dc m d := by
  obtain ⟨a, b, c, e, h1, h2, h3, h4⟩ := h
  exact ⟨a, b, c, e, h1, h2, h3, by omega⟩
theorem roll_ev {n : Nat} {d : D} {t : Int} (h : Dc (n + 1) d) (h0 : 0 < t) (h1 : t < 2 ^ 40) : ∃ (x : Int) (d' : D), 0 ≤ x ∧ x < t ∧ Dc n d' ∧ m__law_roll [.par d, .val (.int t)] = some (.ret (.val (.int x)), [.par d', .val (.int t)]) := by
  obtain ⟨a, b, c, rfl, b0, b1, c0, c1⟩ := h
  by_cases ha : 0 < a
  · refine ⟨a % t, dc (a / t) b c, Int.emod_nonneg _ (by omega), Int.emod_lt_of_pos _ h0, ⟨_, _, _, rfl, b0, b1, c0, by omega⟩, ?_⟩
    have f1 := fun i => fdiv_small (i := i) h0 (by omega)
    simp [List.findIdx?_cons, eqG, neG, eqP, toPy, toPys, SeqAt.shaped, PyData.canLay0, PyData.canLayAll0, PyData.depth, PyData.depthAll, PyData.eqv, PyData.eqvAll, fnD, starD, valsOf, seqS, skipS, exps, M.bind, M.ret, M.fail, M.lift, toO, nameO, frzAt, op2, app2, app1, res, ownOf, callD, appN, resN, consO, consD, one, two, setV, setOw, giveUp, parS, augS, asB, truB, truG, andB, orB, notB, andD, orD, notD, ifD, chain3, tupD, lstD, ixG, strOf, seqOf, lisOf, tupOf, atI, ixN, negG, intG, subG, cmpG, addG, isiG, tyName, lenG, absG, intF, max2G, min2G, callS, callR, callM, argS, slotsOf, putB, toR, sVal, sOwn, inTo, setKind, isS, putC, ownM, ownT, appendG, storeS, setLG, gV, gT, gC, gN, walkL, walkT, walkR1, walkR2, loopF, backA, listG, isBG, joinD, sliceD, rangeL, allG, blsOf, partI, sizeLine, kb_int_int, kb_int_bool, kb_int_tuple, kb_int_str, kb_bool_int, kb_bool_bool, kb_bool_tuple, kb_bool_str, kb_NoneType_int, kb_NoneType_bool, kb_NoneType_tuple, kb_NoneType_str, kb_str_int, kb_str_bool, kb_str_tuple, kb_str_str, kb_tuple_int, kb_tuple_bool, kb_tuple_tuple, kb_tuple_str, kb_list_int, kb_list_bool, kb_list_tuple, kb_list_str, kb_dict_int, kb_dict_bool, kb_dict_tuple, kb_dict_str, m__law_roll, g__law_roll, ha, mod_pos h0, f1]
  · have q1 : (1000249 : Int) * (c + 1) < 2 ^ 64 := by omega
    obtain ⟨u1, e1⟩ : ∃ o, o = (b + 1000249 * (c + 1)) % 2305843009213693951 := ⟨_, rfl⟩
    have o0 : 0 ≤ u1 := by omega
    have o1 : u1 < 2305843009213693951 := by omega
    obtain ⟨u2, e2⟩ : ∃ o, o = u1 * u1 % 2305843009213693921 := ⟨_, rfl⟩
    have t0 : 0 ≤ u2 := by rw [e2]; exact Int.emod_nonneg _ (by decide)
    have t1 : u2 < 2305843009213693921 := by rw [e2]; exact Int.emod_lt_of_pos _ (by decide)
    refine ⟨(u2 * u1 + 9437 * (c + 1)) % 2305843009213693907 / 4096 % t, dc a b (c + 1), Int.emod_nonneg _ (by omega), Int.emod_lt_of_pos _ h0, ⟨_, _, _, rfl, b0, b1, by omega, by omega⟩, ?_⟩
    have m1 := mul_small (i := 1000249) (j := c + 1) (by decide) (by omega)
    have m2 := mul_small (i := u1) (j := u1) (by omega) (by omega)
    have m3 := mul_small (i := u2) (j := u1) (by omega) (by omega)
    have m4 := mul_small (i := 9437) (j := c + 1) (by decide) (by omega)
    have d1 := fun i => mod_pos (i := i) (j := 2305843009213693951) (by decide)
    have d2 := fun i => mod_pos (i := i) (j := 2305843009213693921) (by decide)
    have d3 := fun i => mod_pos (i := i) (j := 2305843009213693907) (by decide)
    have d4 := fun i => fdiv_small (i := i) (j := 4096) (by decide) (by decide)
    simp [List.findIdx?_cons, eqG, neG, eqP, toPy, toPys, SeqAt.shaped, PyData.canLay0, PyData.canLayAll0, PyData.depth, PyData.depthAll, PyData.eqv, PyData.eqvAll, fnD, starD, valsOf, seqS, skipS, exps, M.bind, M.ret, M.fail, M.lift, toO, nameO, frzAt, op2, app2, app1, res, ownOf, callD, appN, resN, consO, consD, one, two, setV, setOw, giveUp, parS, augS, asB, truB, truG, andB, orB, notB, andD, orD, notD, ifD, chain3, tupD, lstD, ixG, strOf, seqOf, lisOf, tupOf, atI, ixN, negG, intG, subG, cmpG, addG, isiG, tyName, lenG, absG, intF, max2G, min2G, callS, callR, callM, argS, slotsOf, putB, toR, sVal, sOwn, inTo, setKind, isS, putC, ownM, ownT, appendG, storeS, setLG, gV, gT, gC, gN, walkL, walkT, walkR1, walkR2, loopF, backA, listG, isBG, joinD, sliceD, rangeL, allG, blsOf, partI, sizeLine, kb_int_int, kb_int_bool, kb_int_tuple, kb_int_str, kb_bool_int, kb_bool_bool, kb_bool_tuple, kb_bool_str, kb_NoneType_int, kb_NoneType_bool, kb_NoneType_tuple, kb_NoneType_str, kb_str_int, kb_str_bool, kb_str_tuple, kb_str_str, kb_tuple_int, kb_tuple_bool, kb_tuple_tuple, kb_tuple_str, kb_list_int, kb_list_bool, kb_list_tuple, kb_list_str, kb_dict_int, kb_dict_bool, kb_dict_tuple, kb_dict_str, m__law_roll, g__law_roll, ha, m1, m2, m3, m4, d1, d2, d3, d4, mod_pos h0, ← e1, ← e2]
theorem oneof_ev {n : Nat} {d : D} {ds : List D} (h : Dc (n + 1) d) (h0 : 0 < ds.length) (h1 : ds.length < 1000) : ∃ (x d' : D), x ∈ ds ∧ Dc n d' ∧ m__law_one_of [.par d, .val (.lst ds)] = some (.ret (.val x), [.par d', .val (.lst ds)]) := by
  obtain ⟨x, d', x0, x1, hd, e⟩ := roll_ev (t := (ds.length : Int)) h (by omega) (by omega)
  have hk : x.toNat < ds.length := by omega
  refine ⟨ds[x.toNat], d', List.getElem_mem .., hd, ?_⟩
  have ix : ixG (.lst ds) (.int x) = some ds[x.toNat] := by
    show (atI ds x) = _
    unfold atI ixN
    rw [if_pos x0, if_pos x1]
    exact List.getElem?_eq_getElem hk
  have hl : lenG (.lst ds) = some (.int ds.length) := rfl
  generalize D.lst ds = T at *
  simp [m__law_one_of, g__law_one_of, fnD, exps, M.bind, M.ret, op2, nameO, toO, callS, consO, callD, appN, resN, res, Pd.one, hl, callR, callM, argS, ownOf, slotsOf, e, putB, List.findIdx?_cons, isS, inTo, setKind, toR, sVal, app2, ix, backA]
theorem pw18 : powG (.int 10) (.int 18) = some (.int 1000000000000000000) := rfl
theorem pw60 : powG (.int 10) (.int 60) = some (.int 1000000000000000000000000000000000000000000000000000000000000) := rfl
theorem pw600 : powG (.int 1000000000000000000000000000000000000000000000000000000000000) (.int 10) = some (.int 1000000000000000000000000000000000000000000000000000000000000000000000000000000000000000000000000000000000000000000000000000000000000000000000000000000000000000000000000000000000000000000000000000000000000000000000000000000000000000000000000000000000000000000000000000000000000000000000000000000000000000000000000000000000000000000000000000000000000000000000000000000000000000000000000000000000000000000000000000000000000000000000000000000000000000000000000000000000000000000000000000000000000000000000000000000000000000000000000000000000000000000000000000000000000000000000000000000000000000000000000) := by
  unfold powG intG
  simp only []
  rw [if_pos (by decide +kernel)]
  have : ((1000000000000000000000000000000000000000000000000000000000000 : Int) ^ (10 : Int).toNat) = 1000000000000000000000000000000000000000000000000000000000000000000000000000000000000000000000000000000000000000000000000000000000000000000000000000000000000000000000000000000000000000000000000000000000000000000000000000000000000000000000000000000000000000000000000000000000000000000000000000000000000000000000000000000000000000000000000000000000000000000000000000000000000000000000000000000000000000000000000000000000000000000000000000000000000000000000000000000000000000000000000000000000000000000000000000000000000000000000000000000000000000000000000000000000000000000000000000000000000000000000000 := by decide +kernel
  rw [this]
theorem dice_ev {ns : List Int} {i : Int} (h0 : 0 ≤ i) (h1 : i < 8) (hn : ns.length ≤ 1000) : ∃ d, Dc 40 d ∧ m__law_dice [.val (.frl (ns.map .int)), .val (.int i)] = some (.ret (.own d), [.val (.frl (ns.map .int)), .val (.int i)]) := by
  obtain ⟨c, hc⟩ : ∃ c : Int, (i < (ns.length : Int) → ixG (.frl (ns.map .int)) (.int i) = some (.int c)) ∧ (¬ i < (ns.length : Int) → c = 97 * i + 53) := by
    by_cases c : i < (ns.length : Int)
    · have hk : i.toNat < ns.length := by omega
      refine ⟨ns[i.toNat], fun _ => ?_, fun z => absurd c z⟩
      show atI (ns.map D.int) i = _
      unfold atI ixN
      rw [if_pos h0, if_pos (by rw [List.length_map]; exact c)]
      show (ns.map D.int)[i.toNat]? = _
      rw [List.getElem?_map, List.getElem?_eq_getElem hk]; rfl
    · exact ⟨97 * i + 53, fun z => absurd z c, fun _ => rfl⟩
  have hl : lenG (.frl (ns.map .int)) = some (.int ns.length) := by show some (D.int ((ns.map D.int).length : Int)) = _; rw [List.length_map]
  generalize D.frl (ns.map .int) = T at *
  obtain ⟨A, hA⟩ : ∃ A : Int, absG (.int c) = some (.int A) := ⟨_, rfl⟩
  obtain ⟨G, hG⟩ : ∃ G : Int, modG (.int A) (.int 1000000000000000000000000000000000000000000000000000000000000000000000000000000000000000000000000000000000000000000000000000000000000000000000000000000000000000000000000000000000000000000000000000000000000000000000000000000000000000000000000000000000000000000000000000000000000000000000000000000000000000000000000000000000000000000000000000000000000000000000000000000000000000000000000000000000000000000000000000000000000000000000000000000000000000000000000000000000000000000000000000000000000000000000000000000000000000000000000000000000000000000000000000000000000000000000000000000000000000000000000) = some (.int G) := ⟨_, mod_pos (by decide)⟩
  obtain ⟨k, hk, hk2⟩ : ∃ k : Int, ((ltG (.int c) (.int 0)).bind intF = some (.int k)) ∧ (k = 0 ∨ k = 1) := by
    by_cases z : c < 0
    · exact ⟨1, by show intF (.bl (decide (c < 0))) = _; rw [decide_eq_true z]; rfl, .inr rfl⟩
    · exact ⟨0, by show intF (.bl (decide (c < 0))) = _; rw [decide_eq_false z]; rfl, .inl rfl⟩
  have hk' : intF (.bl (decide (c < 0))) = some (.int k) := hk
  have q0 := Int.emod_nonneg G (b := 2147482951) (by decide)
  have q1 := Int.emod_lt_of_pos G (b := 2147482951) (by decide)
  have m1 := mul_small (i := 97) (j := i) (by decide) (by omega)
  have m2 := mul_small (i := G % 2147482951) (j := 61291) (by omega) (by decide)
  have m3 := mul_small (i := 3517) (j := i) (by decide) (by omega)
  have m4 := mul_small (i := 71) (j := k) (by decide) (by omega)
  have d1 := fun x => mod_pos (i := x) (j := 2147482951) (by decide)
  have d2 := fun x => mod_pos (i := x) (j := 2147482949) (by decide)
  have d3 := fun x => fdiv_small (i := x) (j := 1000000000000000000) (by decide) (by decide)
  have hlt : ltG (.int c) (.int 0) = some (.bl (decide (c < 0))) := rfl
  refine ⟨dc (G / 1000000000000000000) ((G % 2147482951 * 61291 + 3517 * i + 71 * k + 83) % 2147482949) 0, ⟨_, _, _, rfl, Int.emod_nonneg _ (by decide), by have := Int.emod_lt_of_pos (G % 2147482951 * 61291 + 3517 * i + 71 * k + 83) (b := 2147482949) (by decide); omega, by decide, by decide⟩, ?_⟩
  unfold m__law_dice
  refine fnD_ret (ρ := [.val T, .val (.int i), .val (.int c), .val (.int G), .val (.int (G / 1000000000000000000)), .val (.int (G % 2147482951 * 61291 + 3517 * i + 71 * k + 83))]) rfl ?_ rfl
  show g__law_dice [.val T, .val (.int i), .no, .no, .no, .no] = _
  unfold g__law_dice
  rw [seqS_nx (ρ1 := [.val T, .val (.int i), .val (.int (97 * i + 53)), .no, .no, .no]) (by simp [List.findIdx?_cons, eqG, neG, eqP, toPy, toPys, SeqAt.shaped, PyData.canLay0, PyData.canLayAll0, PyData.depth, PyData.depthAll, PyData.eqv, PyData.eqvAll, fnD, starD, valsOf, seqS, skipS, exps, M.bind, M.ret, M.fail, M.lift, toO, nameO, frzAt, op2, app2, app1, res, ownOf, callD, appN, resN, consO, consD, one, two, setV, setOw, giveUp, parS, augS, asB, truB, truG, andB, orB, notB, andD, orD, notD, ifD, chain3, tupD, lstD, ixG, strOf, seqOf, lisOf, tupOf, atI, ixN, negG, intG, subG, cmpG, addG, isiG, tyName, lenG, absG, intF, max2G, min2G, callS, callR, callM, argS, slotsOf, putB, toR, sVal, sOwn, inTo, setKind, isS, putC, ownM, ownT, appendG, storeS, setLG, gV, gT, gC, gN, walkL, walkT, walkR1, walkR2, loopF, backA, listG, isBG, joinD, sliceD, rangeL, allG, blsOf, partI, sizeLine, kb_int_int, kb_int_bool, kb_int_tuple, kb_int_str, kb_bool_int, kb_bool_bool, kb_bool_tuple, kb_bool_str, kb_NoneType_int, kb_NoneType_bool, kb_NoneType_tuple, kb_NoneType_str, kb_str_int, kb_str_bool, kb_str_tuple, kb_str_str, kb_tuple_int, kb_tuple_bool, kb_tuple_tuple, kb_tuple_str, kb_list_int, kb_list_bool, kb_list_tuple, kb_list_str, kb_dict_int, kb_dict_bool, kb_dict_tuple, kb_dict_str, m1])]
  rw [seqS_nx (ρ1 := [.val T, .val (.int i), .val (.int c), .no, .no, .no]) (by
    by_cases z : i < (ns.length : Int)
    · simp [exps, asB, op2, nameO, toO, M.bind, M.ret, callD, consO, appN, resN, res, Pd.one, hl, app2, cmpG, z, hc.1 z, setV]
    · have e := hc.2 z
      subst e
      simp [exps, asB, op2, nameO, toO, M.bind, M.ret, callD, consO, appN, resN, res, Pd.one, hl, app2, cmpG, z, setV, skipS])]
  have pa := pw600
  have pb := pw60
  have hi : intF (.int A) = some (.int A) := rfl
  rw [seqS_nx (ρ1 := [.val T, .val (.int i), .val (.int c), .val (.int G), .no, .no]) (by
    generalize D.int 1000000000000000000000000000000000000000000000000000000000000000000000000000000000000000000000000000000000000000000000000000000000000000000000000000000000000000000000000000000000000000000000000000000000000000000000000000000000000000000000000000000000000000000000000000000000000000000000000000000000000000000000000000000000000000000000000000000000000000000000000000000000000000000000000000000000000000000000000000000000000000000000000000000000000000000000000000000000000000000000000000000000000000000000000000000000000000000000000000000000000000000000000000000000000000000000000000000000000000000000000 = P6 at *
    generalize D.int 1000000000000000000000000000000000000000000000000000000000000 = P5 at *
    simp [exps, op2, nameO, toO, M.bind, M.ret, callD, consO, appN, resN, res, Pd.one, app2, hA, hi, pa, pb, hG, setV])]
  rw [seqS_nx (ρ1 := [.val T, .val (.int i), .val (.int c), .val (.int G), .val (.int (G / 1000000000000000000)), .no]) (by
    simp [List.findIdx?_cons, eqG, neG, eqP, toPy, toPys, SeqAt.shaped, PyData.canLay0, PyData.canLayAll0, PyData.depth, PyData.depthAll, PyData.eqv, PyData.eqvAll, fnD, starD, valsOf, seqS, skipS, exps, M.bind, M.ret, M.fail, M.lift, toO, nameO, frzAt, op2, app2, app1, res, ownOf, callD, appN, resN, consO, consD, one, two, setV, setOw, giveUp, parS, augS, asB, truB, truG, andB, orB, notB, andD, orD, notD, ifD, chain3, tupD, lstD, ixG, strOf, seqOf, lisOf, tupOf, atI, ixN, negG, intG, subG, cmpG, addG, isiG, tyName, lenG, absG, intF, max2G, min2G, callS, callR, callM, argS, slotsOf, putB, toR, sVal, sOwn, inTo, setKind, isS, putC, ownM, ownT, appendG, storeS, setLG, gV, gT, gC, gN, walkL, walkT, walkR1, walkR2, loopF, backA, listG, isBG, joinD, sliceD, rangeL, allG, blsOf, partI, sizeLine, kb_int_int, kb_int_bool, kb_int_tuple, kb_int_str, kb_bool_int, kb_bool_bool, kb_bool_tuple, kb_bool_str, kb_NoneType_int, kb_NoneType_bool, kb_NoneType_tuple, kb_NoneType_str, kb_str_int, kb_str_bool, kb_str_tuple, kb_str_str, kb_tuple_int, kb_tuple_bool, kb_tuple_tuple, kb_tuple_str, kb_list_int, kb_list_bool, kb_list_tuple, kb_list_str, kb_dict_int, kb_dict_bool, kb_dict_tuple, kb_dict_str, pw18, d3])]
  rw [seqS_nx (ρ1 := [.val T, .val (.int i), .val (.int c), .val (.int G), .val (.int (G / 1000000000000000000)), .val (.int (G % 2147482951 * 61291 + 3517 * i + 71 * k + 83))]) (by
    simp [exps, op2, nameO, toO, M.bind, M.ret, callD, consO, appN, resN, res, Pd.one, app2, hlt, hk', m2, m3, m4, d1, setV, addG])]
  simp [List.findIdx?_cons, eqG, neG, eqP, toPy, toPys, SeqAt.shaped, PyData.canLay0, PyData.canLayAll0, PyData.depth, PyData.depthAll, PyData.eqv, PyData.eqvAll, fnD, starD, valsOf, seqS, skipS, exps, M.bind, M.ret, M.fail, M.lift, toO, nameO, frzAt, op2, app2, app1, res, ownOf, callD, appN, resN, consO, consD, one, two, setV, setOw, giveUp, parS, augS, asB, truB, truG, andB, orB, notB, andD, orD, notD, ifD, chain3, tupD, lstD, ixG, strOf, seqOf, lisOf, tupOf, atI, ixN, negG, intG, subG, cmpG, addG, isiG, tyName, lenG, absG, intF, max2G, min2G, callS, callR, callM, argS, slotsOf, putB, toR, sVal, sOwn, inTo, setKind, isS, putC, ownM, ownT, appendG, storeS, setLG, gV, gT, gC, gN, walkL, walkT, walkR1, walkR2, loopF, backA, listG, isBG, joinD, sliceD, rangeL, allG, blsOf, partI, sizeLine, kb_int_int, kb_int_bool, kb_int_tuple, kb_int_str, kb_bool_int, kb_bool_bool, kb_bool_tuple, kb_bool_str, kb_NoneType_int, kb_NoneType_bool, kb_NoneType_tuple, kb_NoneType_str, kb_str_int, kb_str_bool, kb_str_tuple, kb_str_str, kb_tuple_int, kb_tuple_bool, kb_tuple_tuple, kb_tuple_str, kb_list_int, kb_list_bool, kb_list_tuple, kb_list_str, kb_dict_int, kb_dict_bool, kb_dict_tuple, kb_dict_str, d2]
end K00
end Pd

namespace Pd
open PySem PySem.Spec L2
namespace K00
theorem fnD_map {np n : Nat} {g : SM} {ss t : List Sl} {s : Sl} (h0 : ss.length = np) (hm : (g (ss ++ List.replicate (n - ss.length) .no)).map (fun p => (p.1, backA ss p.2)) = some (.ret s, some t)) : fnD np n g ss = some (.ret s, t) := by
  unfold fnD
  rw [if_pos h0]
  cases q : g (ss ++ List.replicate (n - ss.length) .no) with
  | none => rw [q] at hm; cases hm
  | some p =>
    obtain ⟨r, ρ⟩ := p
    rw [q] at hm
    have hm : some (r, backA ss ρ) = some (SR.ret s, some t) := hm
    have h1 : r = .ret s := congrArg Prod.fst (Option.some.inj hm)
    have h2 : backA ss ρ = some t := congrArg Prod.snd (Option.some.inj hm)
    subst h1
    show (backA ss ρ).map (fun t => (SR.ret s, t)) = _
    rw [h2]; rfl
abbrev ten30 : Int := 1000000000000000000000000000000
theorem pw30 : powG (.int 10) (.int 30) = some (.int ten30) := rfl
abbrev things : List D := [.int 0, .str "", .str "a", .non, .tup [], .tup [.str "a", .int 1], .int ten30, .bl true, .lst [.int 1], .dk [(.inr "a", .tup [])], .int (-7)]
theorem right_ev {n : Nat} {d : D} (h : Dc (n + 1) d) : ∃ d', Dc n d' ∧ m__law_right [.par d] = some (.ret (.val (.bl true)), [.par d']) := by
  obtain ⟨t, d', ht, hd, e⟩ := oneof_ev (ds := things) h (by decide) (by decide)
  refine ⟨d', hd, fnD_map rfl ?_⟩
  show (g__law_right [.par d, .no, .no, .no, .no, .no, .no, .no]).map _ = _
  unfold g__law_right
  rw [seqS_nx (ρ1 := [.par d', .val t, .no, .no, .no, .no, .no, .no]) (by simp [List.findIdx?_cons, eqG, neG, eqP, toPy, toPys, SeqAt.shaped, PyData.canLay0, PyData.canLayAll0, PyData.depth, PyData.depthAll, PyData.eqv, PyData.eqvAll, fnD, starD, valsOf, seqS, skipS, exps, M.bind, M.ret, M.fail, M.lift, toO, nameO, frzAt, op2, app2, app1, res, ownOf, callD, appN, resN, consO, consD, one, two, setV, setOw, giveUp, parS, augS, asB, truB, truG, andB, orB, notB, andD, orD, notD, ifD, chain3, tupD, lstD, ixG, strOf, seqOf, lisOf, tupOf, atI, ixN, negG, intG, subG, cmpG, addG, isiG, tyName, lenG, absG, intF, max2G, min2G, callS, callR, callM, argS, slotsOf, putB, toR, sVal, sOwn, inTo, setKind, isS, putC, ownM, ownT, appendG, storeS, setLG, gV, gT, gC, gN, walkL, walkT, walkR1, walkR2, loopF, backA, listG, isBG, joinD, sliceD, rangeL, allG, blsOf, partI, sizeLine, kb_int_int, kb_int_bool, kb_int_tuple, kb_int_str, kb_bool_int, kb_bool_bool, kb_bool_tuple, kb_bool_str, kb_NoneType_int, kb_NoneType_bool, kb_NoneType_tuple, kb_NoneType_str, kb_str_int, kb_str_bool, kb_str_tuple, kb_str_str, kb_tuple_int, kb_tuple_bool, kb_tuple_tuple, kb_tuple_str, kb_list_int, kb_list_bool, kb_list_tuple, kb_list_str, kb_dict_int, kb_dict_bool, kb_dict_tuple, kb_dict_str, e, pw30])]
  simp only [things, List.mem_cons, List.not_mem_nil, or_false] at ht
  rcases ht with rfl | rfl | rfl | rfl | rfl | rfl | rfl | rfl | rfl | rfl | rfl
  all_goals kernel_rfl
end K00
end Pd

namespace Pd
open PySem PySem.Spec L2
namespace K00
theorem inner {T I : Sl} : ∀ (xs : List D) (d : D) (u : Sl), Dc (xs.length + 1) d → ∃ d' v, loopF s1_law b2_law xs [T, I, .own d, u] = some (.nx, [T, I, .own d', v])
  | [], d, u, _ => ⟨d, u, rfl⟩
  | x :: xs, d, u, h => by
    obtain ⟨d1, h1, e1⟩ := right_ev (n := xs.length + 1) (h.le (by simp))
    obtain ⟨d2, v, e2⟩ := inner xs d1 (.val x) h1
    refine ⟨d2, v, ?_⟩
    rw [loopF_nx (ρ1 := [T, I, .own d, .val x]) (ρ2 := [T, I, .own d1, .val x]) (by simp [List.findIdx?_cons, eqG, neG, eqP, toPy, toPys, SeqAt.shaped, PyData.canLay0, PyData.canLayAll0, PyData.depth, PyData.depthAll, PyData.eqv, PyData.eqvAll, fnD, starD, valsOf, seqS, skipS, exps, M.bind, M.ret, M.fail, M.lift, toO, nameO, frzAt, op2, app2, app1, res, ownOf, callD, appN, resN, consO, consD, one, two, setV, setOw, giveUp, parS, augS, asB, truB, truG, andB, orB, notB, andD, orD, notD, ifD, chain3, tupD, lstD, ixG, strOf, seqOf, lisOf, tupOf, atI, ixN, negG, intG, subG, cmpG, addG, isiG, tyName, lenG, absG, intF, max2G, min2G, callS, callR, callM, argS, slotsOf, putB, toR, sVal, sOwn, inTo, setKind, isS, putC, ownM, ownT, appendG, storeS, setLG, gV, gT, gC, gN, walkL, walkT, walkR1, walkR2, loopF, backA, listG, isBG, joinD, sliceD, rangeL, allG, blsOf, partI, sizeLine, kb_int_int, kb_int_bool, kb_int_tuple, kb_int_str, kb_bool_int, kb_bool_bool, kb_bool_tuple, kb_bool_str, kb_NoneType_int, kb_NoneType_bool, kb_NoneType_tuple, kb_NoneType_str, kb_str_int, kb_str_bool, kb_str_tuple, kb_str_str, kb_tuple_int, kb_tuple_bool, kb_tuple_tuple, kb_tuple_str, kb_list_int, kb_list_bool, kb_list_tuple, kb_list_str, kb_dict_int, kb_dict_bool, kb_dict_tuple, kb_dict_str, s1_law]) (by simp [List.findIdx?_cons, eqG, neG, eqP, toPy, toPys, SeqAt.shaped, PyData.canLay0, PyData.canLayAll0, PyData.depth, PyData.depthAll, PyData.eqv, PyData.eqvAll, fnD, starD, valsOf, seqS, skipS, exps, M.bind, M.ret, M.fail, M.lift, toO, nameO, frzAt, op2, app2, app1, res, ownOf, callD, appN, resN, consO, consD, one, two, setV, setOw, giveUp, parS, augS, asB, truB, truG, andB, orB, notB, andD, orD, notD, ifD, chain3, tupD, lstD, ixG, strOf, seqOf, lisOf, tupOf, atI, ixN, negG, intG, subG, cmpG, addG, isiG, tyName, lenG, absG, intF, max2G, min2G, callS, callR, callM, argS, slotsOf, putB, toR, sVal, sOwn, inTo, setKind, isS, putC, ownM, ownT, appendG, storeS, setLG, gV, gT, gC, gN, walkL, walkT, walkR1, walkR2, loopF, backA, listG, isBG, joinD, sliceD, rangeL, allG, blsOf, partI, sizeLine, kb_int_int, kb_int_bool, kb_int_tuple, kb_int_str, kb_bool_int, kb_bool_bool, kb_bool_tuple, kb_bool_str, kb_NoneType_int, kb_NoneType_bool, kb_NoneType_tuple, kb_NoneType_str, kb_str_int, kb_str_bool, kb_str_tuple, kb_str_str, kb_tuple_int, kb_tuple_bool, kb_tuple_tuple, kb_tuple_str, kb_list_int, kb_list_bool, kb_list_tuple, kb_list_str, kb_dict_int, kb_dict_bool, kb_dict_tuple, kb_dict_str, b2_law, e1])]
    exact e2
theorem law_true (ns : List Int) (hn : ns.length ≤ 63) : ∃ ss', m_law [.val (.frl (ns.map .int))] = some (.ret (.val (.bl true)), ss') := by
  have hl : lenG (.frl (ns.map .int)) = some (.int ns.length) := by show some (D.int ((ns.map D.int).length : Int)) = _; rw [List.length_map]
  have hd := fun i h0 h1 => dice_ev (ns := ns) (i := i) h0 h1 (by omega)
  generalize D.frl (ns.map .int) = T at *
  obtain ⟨m, hm⟩ : ∃ m : Int, m = (if (ns.length : Int) < 8 then (ns.length : Int) else 8) := ⟨_, rfl⟩
  obtain ⟨k, hk⟩ : ∃ k : Int, k = (if m > 1 then m else 1) := ⟨_, rfl⟩
  have h8 : k ≤ 8 := by
    have : m ≤ 8 := by rw [hm]; split <;> omega
    rw [hk]; split <;> omega
  have mn : min2G (.int 8) (.int ns.length) = some (.int m) := by rw [hm]; rfl
  have mx : max2G (.int 1) (.int m) = some (.int k) := by rw [hk]; rfl
  obtain ⟨ρ', e, u, v, w, rfl⟩ := loopF_inv (gs := s3_law) (b := b4_law) (fun ρ => ∃ u v w : Sl, ρ = [.val T, u, v, w]) (rngI 0 k.toNat) [.val T, .no, .no, .no] ⟨_, _, _, rfl⟩ (by
    rintro x mx ρ ⟨u, v, w, rfl⟩
    obtain ⟨i, hi, rfl⟩ := List.mem_map.mp mx
    have hi := List.mem_range.mp hi
    have i8 : (0 : Int) + (i : Int) < 8 := by omega
    obtain ⟨d, hdc, ed⟩ := hd (0 + (i : Int)) (by omega) i8
    generalize (0 : Int) + (i : Int) = I at *
    obtain ⟨d1, z, e1⟩ := inner (T := .val T) (I := .val (.int I)) (rngI 0 4) d w (hdc.le (by decide))
    refine ⟨[.val T, .val (.int I), v, w], [.val T, .val (.int I), .own d1, z], by simp [List.findIdx?_cons, eqG, neG, eqP, toPy, toPys, SeqAt.shaped, PyData.canLay0, PyData.canLayAll0, PyData.depth, PyData.depthAll, PyData.eqv, PyData.eqvAll, fnD, starD, valsOf, seqS, skipS, exps, M.bind, M.ret, M.fail, M.lift, toO, nameO, frzAt, op2, app2, app1, res, ownOf, callD, appN, resN, consO, consD, one, two, setV, setOw, giveUp, parS, augS, asB, truB, truG, andB, orB, notB, andD, orD, notD, ifD, chain3, tupD, lstD, ixG, strOf, seqOf, lisOf, tupOf, atI, ixN, negG, intG, subG, cmpG, addG, isiG, tyName, lenG, absG, intF, max2G, min2G, callS, callR, callM, argS, slotsOf, putB, toR, sVal, sOwn, inTo, setKind, isS, putC, ownM, ownT, appendG, storeS, setLG, gV, gT, gC, gN, walkL, walkT, walkR1, walkR2, loopF, backA, listG, isBG, joinD, sliceD, rangeL, allG, blsOf, partI, sizeLine, kb_int_int, kb_int_bool, kb_int_tuple, kb_int_str, kb_bool_int, kb_bool_bool, kb_bool_tuple, kb_bool_str, kb_NoneType_int, kb_NoneType_bool, kb_NoneType_tuple, kb_NoneType_str, kb_str_int, kb_str_bool, kb_str_tuple, kb_str_str, kb_tuple_int, kb_tuple_bool, kb_tuple_tuple, kb_tuple_str, kb_list_int, kb_list_bool, kb_list_tuple, kb_list_str, kb_dict_int, kb_dict_bool, kb_dict_tuple, kb_dict_str, s3_law], ?_, _, _, _, rfl⟩
    unfold b4_law
    rw [seqS_nx (ρ1 := [.val T, .val (.int I), .own d, w]) (by simp [List.findIdx?_cons, eqG, neG, eqP, toPy, toPys, SeqAt.shaped, PyData.canLay0, PyData.canLayAll0, PyData.depth, PyData.depthAll, PyData.eqv, PyData.eqvAll, fnD, starD, valsOf, seqS, skipS, exps, M.bind, M.ret, M.fail, M.lift, toO, nameO, frzAt, op2, app2, app1, res, ownOf, callD, appN, resN, consO, consD, one, two, setV, setOw, giveUp, parS, augS, asB, truB, truG, andB, orB, notB, andD, orD, notD, ifD, chain3, tupD, lstD, ixG, strOf, seqOf, lisOf, tupOf, atI, ixN, negG, intG, subG, cmpG, addG, isiG, tyName, lenG, absG, intF, max2G, min2G, callS, callR, callM, argS, slotsOf, putB, toR, sVal, sOwn, inTo, setKind, isS, putC, ownM, ownT, appendG, storeS, setLG, gV, gT, gC, gN, walkL, walkT, walkR1, walkR2, loopF, backA, listG, isBG, joinD, sliceD, rangeL, allG, blsOf, partI, sizeLine, kb_int_int, kb_int_bool, kb_int_tuple, kb_int_str, kb_bool_int, kb_bool_bool, kb_bool_tuple, kb_bool_str, kb_NoneType_int, kb_NoneType_bool, kb_NoneType_tuple, kb_NoneType_str, kb_str_int, kb_str_bool, kb_str_tuple, kb_str_str, kb_tuple_int, kb_tuple_bool, kb_tuple_tuple, kb_tuple_str, kb_list_int, kb_list_bool, kb_list_tuple, kb_list_str, kb_dict_int, kb_dict_bool, kb_dict_tuple, kb_dict_str, ed])]
    rw [exps_ev (a := rngI 0 4) (ρ1 := [.val T, .val (.int I), .own d, w]) (by rfl)]
    exact e1)
  refine ⟨[.val T], fnD_map rfl ?_⟩
  show (g_law [.val T, .no, .no, .no]).map _ = _
  unfold g_law
  rw [seqS_nx (ρ1 := [.val T, u, v, w]) (by
    rw [exps_ev (a := rngI 0 k.toNat) (ρ1 := [.val T, .no, .no, .no]) (by
      have k62 : k < 2 ^ 62 := by omega
      have k63 : -(2 ^ 62) ≤ k := by
        rw [hk]; split <;> omega
      simp [walkR1, callD, consO, toO, M.bind, M.ret, nameO, appN, resN, res, Pd.one, Pd.two, hl, mn, mx]
      try omega)]
    exact e)]
  kernel_rfl
end K00
end Pd

namespace Pd
open PySem PySem.Spec L2
open PyProof.Rows (envOfC)
namespace K00
theorem all_mk {l : PySem.W.OpenLaw} {w : World} {K : PySem.W.Frag} {h : Heap} {mg : Str → Option Value} {fa : Addr} (X : K.In h) (G : h.Ns mainGlobals mg) (hfa : mg "law" = some (.ref fa))
    {C_TooMany : Addr}
    (ac_TooMany : PySem.W.nsIn K mainGlobals "TooMany" = some (some (.ref C_TooMany)))
    {C_ParseError : Addr}
    (ac_ParseError : PySem.W.nsIn K mainGlobals "ParseError" = some (some (.ref C_ParseError)))
    {C_Refused : Addr}
    (ac_Refused : PySem.W.nsIn K mainGlobals "Refused" = some (some (.ref C_Refused)))
    {C_NothingToUndo : Addr}
    (ac_NothingToUndo : PySem.W.nsIn K mainGlobals "NothingToUndo" = some (some (.ref C_NothingToUndo)))
    {C_InvalidNumber : Addr}
    (ac_InvalidNumber : PySem.W.nsIn K mainGlobals "InvalidNumber" = some (some (.ref C_InvalidNumber)))
    {C_UnknownPlace : Addr}
    (ac_UnknownPlace : PySem.W.nsIn K mainGlobals "UnknownPlace" = some (some (.ref C_UnknownPlace)))
    {C_NetError : Addr}
    (ac_NetError : PySem.W.nsIn K mainGlobals "NetError" = some (some (.ref C_NetError)))
    {C_InvalidOperation : Addr}
    (ac_InvalidOperation : PySem.W.nsIn K mainGlobals "InvalidOperation" = some (some (.ref C_InvalidOperation)))
    {C_InvalidParting : Addr}
    (ac_InvalidParting : PySem.W.nsIn K mainGlobals "InvalidParting" = some (some (.ref C_InvalidParting)))
    {C_InvalidLot : Addr}
    (ac_InvalidLot : PySem.W.nsIn K mainGlobals "InvalidLot" = some (some (.ref C_InvalidLot)))
    {C_InvalidNet : Addr}
    (ac_InvalidNet : PySem.W.nsIn K mainGlobals "InvalidNet" = some (some (.ref C_InvalidNet)))
    {oc_law kV_law dc_law pm_law cd_law ct_law : Value}
    {od_law an_law : Option Addr}
    {sl_law : Array (Option Value)}
    {f_law : Addr}
    (a_law : PySem.W.nsIn K mainGlobals "law" = some (some (.ref f_law)))
    (l_law : K.lookup f_law = some ⟨oc_law, od_law, .func (PySem.W.fnOf "law" "law" (defArgs st_law) (defBody st_law) (defScope st_law) .none kV_law dc_law pm_law an_law cd_law ct_law), sl_law⟩)
    (c_law : PySem.W.codeIn K cd_law "law" = true)
    (k_law : PySem.W.keepIn K (.ref f_law) = true)
    (h_limit : xfCB K C_TooMany "limit" = true)
    (kc_TooMany : PySem.W.keepIn K (.ref C_TooMany) = true)
    {fI_TooMany cf_TooMany cda_TooMany : Addr}
    {oc_TooMany kV_TooMany dc_TooMany pm_TooMany ct_TooMany : Value}
    {od_TooMany an_TooMany : Option Addr}
    {sl_TooMany : Array (Option Value)}
    {cl_TooMany ccl_TooMany : Value}
    {cld_TooMany cdd_TooMany : Option Addr}
    {csl_TooMany ccs_TooMany : Array (Option Value)}
    {vs_TooMany : Array Value}
    {file_TooMany : Str}
    {tf_TooMany : Tok}
    (i1_TooMany : PySem.W.findIn K (.ref C_TooMany) "__init__" = some (some (.ref fI_TooMany)))
    (i2_TooMany : K.lookup fI_TooMany = some ⟨oc_TooMany, od_TooMany, .func (PySem.W.ksFn "__init__" "TooMany.__init__" (defArgs ms_TooMany) (defBody ms_TooMany) (defScope ms_TooMany) .none kV_TooMany dc_TooMany pm_TooMany an_TooMany (.ref cda_TooMany) ct_TooMany cf_TooMany), sl_TooMany⟩)
    (i3_TooMany : PySem.W.codeIn K (.ref cda_TooMany) "TooMany.__init__" = true)
    (i4_TooMany : K.lookup cf_TooMany = some ⟨cl_TooMany, cld_TooMany, .cell (some (.ref C_TooMany)), csl_TooMany⟩)
    (i5_TooMany : K.lookup cda_TooMany = some ⟨ccl_TooMany, cdd_TooMany, .fields vs_TooMany, ccs_TooMany⟩)
    (i6_TooMany : vs_TooMany[2]? = some (.str file_TooMany tf_TooMany))
    (i7_TooMany : ((l.prog.main.file : Str) == file_TooMany) = true)
    (i8_TooMany : PySem.W.excInitIn K C_TooMany bm_OverflowError "OverflowError.__new__" = true)
    (i9_TooMany : PySem.W.excOver K C_TooMany bm_OverflowError = true)
    (j1_TooMany : PySem.W.hasDictIn K C_TooMany = true)
    (j2_TooMany : PySem.W.findIn K (.ref C_TooMany) "__setattr__" = some (some (.builtin "object.__setattr__")))
    (j3_TooMany : PySem.W.findIn K (.ref C_TooMany) "limit" = some none)
    (j4_TooMany : PySem.W.ks_superIn K C_TooMany C_TooMany "__init__" = some (some (.builtin "OverflowError.__init__")))
    (j5_TooMany : PySem.W.subIn K (.ref C_TooMany) (.type "OverflowError") = some true)
    (j6_TooMany : PySem.W.mroIn K C_TooMany (.ref C_TooMany) = some true)
    (j9_TooMany : PySem.W.typeIn K (.ref fI_TooMany) = some (.type "function"))
    (j7 : PySem.W.nsIn K cStatics "thirdparty.any" = some none)
    (j8 : PySem.W.nsIn K mainGlobals "super" = some none)
    (jt : (l.prog.main.scope.names.lookup ("super" : Str)).isSome = false)
    (h_line : xfCB K C_ParseError "line" = true)
    (kc_ParseError : PySem.W.keepIn K (.ref C_ParseError) = true)
    {fI_ParseError cf_ParseError cda_ParseError : Addr}
    {oc_ParseError kV_ParseError dc_ParseError pm_ParseError ct_ParseError : Value}
    {od_ParseError an_ParseError : Option Addr}
    {sl_ParseError : Array (Option Value)}
    {cl_ParseError ccl_ParseError : Value}
    {cld_ParseError cdd_ParseError : Option Addr}
    {csl_ParseError ccs_ParseError : Array (Option Value)}
    {vs_ParseError : Array Value}
    {file_ParseError : Str}
    {tf_ParseError : Tok}
    (i1_ParseError : PySem.W.findIn K (.ref C_ParseError) "__init__" = some (some (.ref fI_ParseError)))
    (i2_ParseError : K.lookup fI_ParseError = some ⟨oc_ParseError, od_ParseError, .func (PySem.W.ksFn "__init__" "ParseError.__init__" (defArgs ms_ParseError) (defBody ms_ParseError) (defScope ms_ParseError) .none kV_ParseError dc_ParseError pm_ParseError an_ParseError (.ref cda_ParseError) ct_ParseError cf_ParseError), sl_ParseError⟩)
    (i3_ParseError : PySem.W.codeIn K (.ref cda_ParseError) "ParseError.__init__" = true)
    (i4_ParseError : K.lookup cf_ParseError = some ⟨cl_ParseError, cld_ParseError, .cell (some (.ref C_ParseError)), csl_ParseError⟩)
    (i5_ParseError : K.lookup cda_ParseError = some ⟨ccl_ParseError, cdd_ParseError, .fields vs_ParseError, ccs_ParseError⟩)
    (i6_ParseError : vs_ParseError[2]? = some (.str file_ParseError tf_ParseError))
    (i7_ParseError : ((l.prog.main.file : Str) == file_ParseError) = true)
    (i8_ParseError : PySem.W.excInitIn K C_ParseError bm_ValueError "ValueError.__new__" = true)
    (i9_ParseError : PySem.W.excOver K C_ParseError bm_ValueError = true)
    (j1_ParseError : PySem.W.hasDictIn K C_ParseError = true)
    (j2_ParseError : PySem.W.findIn K (.ref C_ParseError) "__setattr__" = some (some (.builtin "object.__setattr__")))
    (j3_ParseError : PySem.W.findIn K (.ref C_ParseError) "line" = some none)
    (j4_ParseError : PySem.W.ks_superIn K C_ParseError C_ParseError "__init__" = some (some (.builtin "ValueError.__init__")))
    (j5_ParseError : PySem.W.subIn K (.ref C_ParseError) (.type "ValueError") = some true)
    (j6_ParseError : PySem.W.mroIn K C_ParseError (.ref C_ParseError) = some true)
    (j9_ParseError : PySem.W.typeIn K (.ref fI_ParseError) = some (.type "function"))
    (b_range : PySem.W.nsIn K mainGlobals "range" = some none)
    (b_max : PySem.W.nsIn K mainGlobals "max" = some none)
    (b_min : PySem.W.nsIn K mainGlobals "min" = some none)
    (b_len : PySem.W.nsIn K mainGlobals "len" = some none)
    {oc__law_right kV__law_right dc__law_right pm__law_right cd__law_right ct__law_right : Value}
    {od__law_right an__law_right : Option Addr}
    {sl__law_right : Array (Option Value)}
    {f__law_right : Addr}
    (a__law_right : PySem.W.nsIn K mainGlobals "_law_right" = some (some (.ref f__law_right)))
    (l__law_right : K.lookup f__law_right = some ⟨oc__law_right, od__law_right, .func (PySem.W.fnOf "_law_right" "_law_right" (defArgs st__law_right) (defBody st__law_right) (defScope st__law_right) .none kV__law_right dc__law_right pm__law_right an__law_right cd__law_right ct__law_right), sl__law_right⟩)
    (c__law_right : PySem.W.codeIn K cd__law_right "_law_right" = true)
    (k__law_right : PySem.W.keepIn K (.ref f__law_right) = true)
    (b_repr : PySem.W.nsIn K mainGlobals "repr" = some none)
    (h_reason : xfCB K C_Refused "reason" = true)
    (h_many : xfCB K C_NothingToUndo "many" = true)
    (h_value : xfCB K C_InvalidNumber "value" = true)
    (h_place : xfCB K C_UnknownPlace "place" = true)
    {oc__law_kinds kV__law_kinds dc__law_kinds pm__law_kinds cd__law_kinds ct__law_kinds : Value}
    {od__law_kinds an__law_kinds : Option Addr}
    {sl__law_kinds : Array (Option Value)}
    {f__law_kinds : Addr}
    (a__law_kinds : PySem.W.nsIn K mainGlobals "_law_kinds" = some (some (.ref f__law_kinds)))
    (l__law_kinds : K.lookup f__law_kinds = some ⟨oc__law_kinds, od__law_kinds, .func (PySem.W.fnOf "_law_kinds" "_law_kinds" (defArgs st__law_kinds) (defBody st__law_kinds) (defScope st__law_kinds) .none kV__law_kinds dc__law_kinds pm__law_kinds an__law_kinds cd__law_kinds ct__law_kinds), sl__law_kinds⟩)
    (c__law_kinds : PySem.W.codeIn K cd__law_kinds "_law_kinds" = true)
    (k__law_kinds : PySem.W.keepIn K (.ref f__law_kinds) = true)
    (b_isinstance : PySem.W.nsIn K mainGlobals "isinstance" = some none)
    (e_x : ([("TooMany", C_TooMany), ("ParseError", C_ParseError), ("Refused", C_Refused), ("NothingToUndo", C_NothingToUndo), ("InvalidNumber", C_InvalidNumber), ("UnknownPlace", C_UnknownPlace), ("NetError", C_NetError), ("InvalidOperation", C_InvalidOperation), ("InvalidParting", C_InvalidParting), ("InvalidLot", C_InvalidLot), ("InvalidNet", C_InvalidNet)].all fun p => excCB K p.2) = true)
    (b_RuntimeError : PySem.W.nsIn K mainGlobals "RuntimeError" = some none)
    (t_RuntimeError : kitB2 K (.type "RuntimeError") [("TooMany", C_TooMany), ("ParseError", C_ParseError), ("Refused", C_Refused), ("NothingToUndo", C_NothingToUndo), ("InvalidNumber", C_InvalidNumber), ("UnknownPlace", C_UnknownPlace), ("NetError", C_NetError), ("InvalidOperation", C_InvalidOperation), ("InvalidParting", C_InvalidParting), ("InvalidLot", C_InvalidLot), ("InvalidNet", C_InvalidNet)] tb_RuntimeError = true)
    (b_IndexError : PySem.W.nsIn K mainGlobals "IndexError" = some none)
    (t_IndexError : kitB2 K (.type "IndexError") [("TooMany", C_TooMany), ("ParseError", C_ParseError), ("Refused", C_Refused), ("NothingToUndo", C_NothingToUndo), ("InvalidNumber", C_InvalidNumber), ("UnknownPlace", C_UnknownPlace), ("NetError", C_NetError), ("InvalidOperation", C_InvalidOperation), ("InvalidParting", C_InvalidParting), ("InvalidLot", C_InvalidLot), ("InvalidNet", C_InvalidNet)] tb_IndexError = true)
    (b_OverflowError : PySem.W.nsIn K mainGlobals "OverflowError" = some none)
    (t_OverflowError : kitB2 K (.type "OverflowError") [("TooMany", C_TooMany), ("ParseError", C_ParseError), ("Refused", C_Refused), ("NothingToUndo", C_NothingToUndo), ("InvalidNumber", C_InvalidNumber), ("UnknownPlace", C_UnknownPlace), ("NetError", C_NetError), ("InvalidOperation", C_InvalidOperation), ("InvalidParting", C_InvalidParting), ("InvalidLot", C_InvalidLot), ("InvalidNet", C_InvalidNet)] tb_OverflowError = true)
    (b_ArithmeticError : PySem.W.nsIn K mainGlobals "ArithmeticError" = some none)
    (t_ArithmeticError : kitB2 K (.type "ArithmeticError") [("TooMany", C_TooMany), ("ParseError", C_ParseError), ("Refused", C_Refused), ("NothingToUndo", C_NothingToUndo), ("InvalidNumber", C_InvalidNumber), ("UnknownPlace", C_UnknownPlace), ("NetError", C_NetError), ("InvalidOperation", C_InvalidOperation), ("InvalidParting", C_InvalidParting), ("InvalidLot", C_InvalidLot), ("InvalidNet", C_InvalidNet)] tb_ArithmeticError = true)
    (b_KeyError : PySem.W.nsIn K mainGlobals "KeyError" = some none)
    (t_KeyError : kitB2 K (.type "KeyError") [("TooMany", C_TooMany), ("ParseError", C_ParseError), ("Refused", C_Refused), ("NothingToUndo", C_NothingToUndo), ("InvalidNumber", C_InvalidNumber), ("UnknownPlace", C_UnknownPlace), ("NetError", C_NetError), ("InvalidOperation", C_InvalidOperation), ("InvalidParting", C_InvalidParting), ("InvalidLot", C_InvalidLot), ("InvalidNet", C_InvalidNet)] tb_KeyError = true)
    (kc_Refused : PySem.W.keepIn K (.ref C_Refused) = true)
    (t_Refused : kitB2 K (.ref C_Refused) [("TooMany", C_TooMany), ("ParseError", C_ParseError), ("Refused", C_Refused), ("NothingToUndo", C_NothingToUndo), ("InvalidNumber", C_InvalidNumber), ("UnknownPlace", C_UnknownPlace), ("NetError", C_NetError), ("InvalidOperation", C_InvalidOperation), ("InvalidParting", C_InvalidParting), ("InvalidLot", C_InvalidLot), ("InvalidNet", C_InvalidNet)] tb_Refused = true)
    (kc_NothingToUndo : PySem.W.keepIn K (.ref C_NothingToUndo) = true)
    (t_NothingToUndo : kitB2 K (.ref C_NothingToUndo) [("TooMany", C_TooMany), ("ParseError", C_ParseError), ("Refused", C_Refused), ("NothingToUndo", C_NothingToUndo), ("InvalidNumber", C_InvalidNumber), ("UnknownPlace", C_UnknownPlace), ("NetError", C_NetError), ("InvalidOperation", C_InvalidOperation), ("InvalidParting", C_InvalidParting), ("InvalidLot", C_InvalidLot), ("InvalidNet", C_InvalidNet)] tb_NothingToUndo = true)
    (t_TooMany : kitB2 K (.ref C_TooMany) [("TooMany", C_TooMany), ("ParseError", C_ParseError), ("Refused", C_Refused), ("NothingToUndo", C_NothingToUndo), ("InvalidNumber", C_InvalidNumber), ("UnknownPlace", C_UnknownPlace), ("NetError", C_NetError), ("InvalidOperation", C_InvalidOperation), ("InvalidParting", C_InvalidParting), ("InvalidLot", C_InvalidLot), ("InvalidNet", C_InvalidNet)] tb_TooMany = true)
    (kc_InvalidNumber : PySem.W.keepIn K (.ref C_InvalidNumber) = true)
    (t_InvalidNumber : kitB2 K (.ref C_InvalidNumber) [("TooMany", C_TooMany), ("ParseError", C_ParseError), ("Refused", C_Refused), ("NothingToUndo", C_NothingToUndo), ("InvalidNumber", C_InvalidNumber), ("UnknownPlace", C_UnknownPlace), ("NetError", C_NetError), ("InvalidOperation", C_InvalidOperation), ("InvalidParting", C_InvalidParting), ("InvalidLot", C_InvalidLot), ("InvalidNet", C_InvalidNet)] tb_InvalidNumber = true)
    (kc_UnknownPlace : PySem.W.keepIn K (.ref C_UnknownPlace) = true)
    (t_UnknownPlace : kitB2 K (.ref C_UnknownPlace) [("TooMany", C_TooMany), ("ParseError", C_ParseError), ("Refused", C_Refused), ("NothingToUndo", C_NothingToUndo), ("InvalidNumber", C_InvalidNumber), ("UnknownPlace", C_UnknownPlace), ("NetError", C_NetError), ("InvalidOperation", C_InvalidOperation), ("InvalidParting", C_InvalidParting), ("InvalidLot", C_InvalidLot), ("InvalidNet", C_InvalidNet)] tb_UnknownPlace = true)
    (b_ValueError : PySem.W.nsIn K mainGlobals "ValueError" = some none)
    (t_ValueError : kitB2 K (.type "ValueError") [("TooMany", C_TooMany), ("ParseError", C_ParseError), ("Refused", C_Refused), ("NothingToUndo", C_NothingToUndo), ("InvalidNumber", C_InvalidNumber), ("UnknownPlace", C_UnknownPlace), ("NetError", C_NetError), ("InvalidOperation", C_InvalidOperation), ("InvalidParting", C_InvalidParting), ("InvalidLot", C_InvalidLot), ("InvalidNet", C_InvalidNet)] tb_ValueError = true)
    (kc_NetError : PySem.W.keepIn K (.ref C_NetError) = true)
    (t_NetError : kitB2 K (.ref C_NetError) [("TooMany", C_TooMany), ("ParseError", C_ParseError), ("Refused", C_Refused), ("NothingToUndo", C_NothingToUndo), ("InvalidNumber", C_InvalidNumber), ("UnknownPlace", C_UnknownPlace), ("NetError", C_NetError), ("InvalidOperation", C_InvalidOperation), ("InvalidParting", C_InvalidParting), ("InvalidLot", C_InvalidLot), ("InvalidNet", C_InvalidNet)] tb_NetError = true)
    (t_ParseError : kitB2 K (.ref C_ParseError) [("TooMany", C_TooMany), ("ParseError", C_ParseError), ("Refused", C_Refused), ("NothingToUndo", C_NothingToUndo), ("InvalidNumber", C_InvalidNumber), ("UnknownPlace", C_UnknownPlace), ("NetError", C_NetError), ("InvalidOperation", C_InvalidOperation), ("InvalidParting", C_InvalidParting), ("InvalidLot", C_InvalidLot), ("InvalidNet", C_InvalidNet)] tb_ParseError = true)
    (kc_InvalidOperation : PySem.W.keepIn K (.ref C_InvalidOperation) = true)
    (t_InvalidOperation : kitB2 K (.ref C_InvalidOperation) [("TooMany", C_TooMany), ("ParseError", C_ParseError), ("Refused", C_Refused), ("NothingToUndo", C_NothingToUndo), ("InvalidNumber", C_InvalidNumber), ("UnknownPlace", C_UnknownPlace), ("NetError", C_NetError), ("InvalidOperation", C_InvalidOperation), ("InvalidParting", C_InvalidParting), ("InvalidLot", C_InvalidLot), ("InvalidNet", C_InvalidNet)] tb_InvalidOperation = true)
    (kc_InvalidParting : PySem.W.keepIn K (.ref C_InvalidParting) = true)
    (t_InvalidParting : kitB2 K (.ref C_InvalidParting) [("TooMany", C_TooMany), ("ParseError", C_ParseError), ("Refused", C_Refused), ("NothingToUndo", C_NothingToUndo), ("InvalidNumber", C_InvalidNumber), ("UnknownPlace", C_UnknownPlace), ("NetError", C_NetError), ("InvalidOperation", C_InvalidOperation), ("InvalidParting", C_InvalidParting), ("InvalidLot", C_InvalidLot), ("InvalidNet", C_InvalidNet)] tb_InvalidParting = true)
    (kc_InvalidLot : PySem.W.keepIn K (.ref C_InvalidLot) = true)
    (t_InvalidLot : kitB2 K (.ref C_InvalidLot) [("TooMany", C_TooMany), ("ParseError", C_ParseError), ("Refused", C_Refused), ("NothingToUndo", C_NothingToUndo), ("InvalidNumber", C_InvalidNumber), ("UnknownPlace", C_UnknownPlace), ("NetError", C_NetError), ("InvalidOperation", C_InvalidOperation), ("InvalidParting", C_InvalidParting), ("InvalidLot", C_InvalidLot), ("InvalidNet", C_InvalidNet)] tb_InvalidLot = true)
    (kc_InvalidNet : PySem.W.keepIn K (.ref C_InvalidNet) = true)
    (t_InvalidNet : kitB2 K (.ref C_InvalidNet) [("TooMany", C_TooMany), ("ParseError", C_ParseError), ("Refused", C_Refused), ("NothingToUndo", C_NothingToUndo), ("InvalidNumber", C_InvalidNumber), ("UnknownPlace", C_UnknownPlace), ("NetError", C_NetError), ("InvalidOperation", C_InvalidOperation), ("InvalidParting", C_InvalidParting), ("InvalidLot", C_InvalidLot), ("InvalidNet", C_InvalidNet)] tb_InvalidNet = true)
    {fI_Refused cf_Refused cda_Refused : Addr}
    {oc_Refused kV_Refused dc_Refused pm_Refused ct_Refused : Value}
    {od_Refused an_Refused : Option Addr}
    {sl_Refused : Array (Option Value)}
    {cl_Refused ccl_Refused : Value}
    {cld_Refused cdd_Refused : Option Addr}
    {csl_Refused ccs_Refused : Array (Option Value)}
    {vs_Refused : Array Value}
    {file_Refused : Str}
    {tf_Refused : Tok}
    (i1_Refused : PySem.W.findIn K (.ref C_Refused) "__init__" = some (some (.ref fI_Refused)))
    (i2_Refused : K.lookup fI_Refused = some ⟨oc_Refused, od_Refused, .func (PySem.W.ksFn "__init__" "Refused.__init__" (defArgs ms_Refused) (defBody ms_Refused) (defScope ms_Refused) .none kV_Refused dc_Refused pm_Refused an_Refused (.ref cda_Refused) ct_Refused cf_Refused), sl_Refused⟩)
    (i3_Refused : PySem.W.codeIn K (.ref cda_Refused) "Refused.__init__" = true)
    (i4_Refused : K.lookup cf_Refused = some ⟨cl_Refused, cld_Refused, .cell (some (.ref C_Refused)), csl_Refused⟩)
    (i5_Refused : K.lookup cda_Refused = some ⟨ccl_Refused, cdd_Refused, .fields vs_Refused, ccs_Refused⟩)
    (i6_Refused : vs_Refused[2]? = some (.str file_Refused tf_Refused))
    (i7_Refused : ((l.prog.main.file : Str) == file_Refused) = true)
    (i8_Refused : PySem.W.excInitIn K C_Refused bm_RuntimeError "RuntimeError.__new__" = true)
    (i9_Refused : PySem.W.excOver K C_Refused bm_RuntimeError = true)
    (j1_Refused : PySem.W.hasDictIn K C_Refused = true)
    (j2_Refused : PySem.W.findIn K (.ref C_Refused) "__setattr__" = some (some (.builtin "object.__setattr__")))
    (j3_Refused : PySem.W.findIn K (.ref C_Refused) "reason" = some none)
    (j4_Refused : PySem.W.ks_superIn K C_Refused C_Refused "__init__" = some (some (.builtin "RuntimeError.__init__")))
    (j5_Refused : PySem.W.subIn K (.ref C_Refused) (.type "RuntimeError") = some true)
    (j6_Refused : PySem.W.mroIn K C_Refused (.ref C_Refused) = some true)
    (j9_Refused : PySem.W.typeIn K (.ref fI_Refused) = some (.type "function"))
    {fI_NothingToUndo cf_NothingToUndo cda_NothingToUndo : Addr}
    {oc_NothingToUndo kV_NothingToUndo dc_NothingToUndo pm_NothingToUndo ct_NothingToUndo : Value}
    {od_NothingToUndo an_NothingToUndo : Option Addr}
    {sl_NothingToUndo : Array (Option Value)}
    {cl_NothingToUndo ccl_NothingToUndo : Value}
    {cld_NothingToUndo cdd_NothingToUndo : Option Addr}
    {csl_NothingToUndo ccs_NothingToUndo : Array (Option Value)}
    {vs_NothingToUndo : Array Value}
    {file_NothingToUndo : Str}
    {tf_NothingToUndo : Tok}
    (i1_NothingToUndo : PySem.W.findIn K (.ref C_NothingToUndo) "__init__" = some (some (.ref fI_NothingToUndo)))
    (i2_NothingToUndo : K.lookup fI_NothingToUndo = some ⟨oc_NothingToUndo, od_NothingToUndo, .func (PySem.W.ksFn "__init__" "NothingToUndo.__init__" (defArgs ms_NothingToUndo) (defBody ms_NothingToUndo) (defScope ms_NothingToUndo) .none kV_NothingToUndo dc_NothingToUndo pm_NothingToUndo an_NothingToUndo (.ref cda_NothingToUndo) ct_NothingToUndo cf_NothingToUndo), sl_NothingToUndo⟩)
    (i3_NothingToUndo : PySem.W.codeIn K (.ref cda_NothingToUndo) "NothingToUndo.__init__" = true)
    (i4_NothingToUndo : K.lookup cf_NothingToUndo = some ⟨cl_NothingToUndo, cld_NothingToUndo, .cell (some (.ref C_NothingToUndo)), csl_NothingToUndo⟩)
    (i5_NothingToUndo : K.lookup cda_NothingToUndo = some ⟨ccl_NothingToUndo, cdd_NothingToUndo, .fields vs_NothingToUndo, ccs_NothingToUndo⟩)
    (i6_NothingToUndo : vs_NothingToUndo[2]? = some (.str file_NothingToUndo tf_NothingToUndo))
    (i7_NothingToUndo : ((l.prog.main.file : Str) == file_NothingToUndo) = true)
    (i8_NothingToUndo : PySem.W.excInitIn K C_NothingToUndo bm_IndexError "IndexError.__new__" = true)
    (i9_NothingToUndo : PySem.W.excOver K C_NothingToUndo bm_IndexError = true)
    (j1_NothingToUndo : PySem.W.hasDictIn K C_NothingToUndo = true)
    (j2_NothingToUndo : PySem.W.findIn K (.ref C_NothingToUndo) "__setattr__" = some (some (.builtin "object.__setattr__")))
    (j3_NothingToUndo : PySem.W.findIn K (.ref C_NothingToUndo) "many" = some none)
    (j4_NothingToUndo : PySem.W.ks_superIn K C_NothingToUndo C_NothingToUndo "__init__" = some (some (.builtin "IndexError.__init__")))
    (j5_NothingToUndo : PySem.W.subIn K (.ref C_NothingToUndo) (.type "IndexError") = some true)
    (j6_NothingToUndo : PySem.W.mroIn K C_NothingToUndo (.ref C_NothingToUndo) = some true)
    (j9_NothingToUndo : PySem.W.typeIn K (.ref fI_NothingToUndo) = some (.type "function"))
    {fI_InvalidNumber cf_InvalidNumber cda_InvalidNumber : Addr}
    {oc_InvalidNumber kV_InvalidNumber dc_InvalidNumber pm_InvalidNumber ct_InvalidNumber : Value}
    {od_InvalidNumber an_InvalidNumber : Option Addr}
    {sl_InvalidNumber : Array (Option Value)}
    {cl_InvalidNumber ccl_InvalidNumber : Value}
    {cld_InvalidNumber cdd_InvalidNumber : Option Addr}
    {csl_InvalidNumber ccs_InvalidNumber : Array (Option Value)}
    {vs_InvalidNumber : Array Value}
    {file_InvalidNumber : Str}
    {tf_InvalidNumber : Tok}
    (i1_InvalidNumber : PySem.W.findIn K (.ref C_InvalidNumber) "__init__" = some (some (.ref fI_InvalidNumber)))
    (i2_InvalidNumber : K.lookup fI_InvalidNumber = some ⟨oc_InvalidNumber, od_InvalidNumber, .func (PySem.W.ksFn "__init__" "InvalidNumber.__init__" (defArgs ms_InvalidNumber) (defBody ms_InvalidNumber) (defScope ms_InvalidNumber) .none kV_InvalidNumber dc_InvalidNumber pm_InvalidNumber an_InvalidNumber (.ref cda_InvalidNumber) ct_InvalidNumber cf_InvalidNumber), sl_InvalidNumber⟩)
    (i3_InvalidNumber : PySem.W.codeIn K (.ref cda_InvalidNumber) "InvalidNumber.__init__" = true)
    (i4_InvalidNumber : K.lookup cf_InvalidNumber = some ⟨cl_InvalidNumber, cld_InvalidNumber, .cell (some (.ref C_InvalidNumber)), csl_InvalidNumber⟩)
    (i5_InvalidNumber : K.lookup cda_InvalidNumber = some ⟨ccl_InvalidNumber, cdd_InvalidNumber, .fields vs_InvalidNumber, ccs_InvalidNumber⟩)
    (i6_InvalidNumber : vs_InvalidNumber[2]? = some (.str file_InvalidNumber tf_InvalidNumber))
    (i7_InvalidNumber : ((l.prog.main.file : Str) == file_InvalidNumber) = true)
    (i8_InvalidNumber : PySem.W.excInitIn K C_InvalidNumber bm_ArithmeticError "ArithmeticError.__new__" = true)
    (i9_InvalidNumber : PySem.W.excOver K C_InvalidNumber bm_ArithmeticError = true)
    (j1_InvalidNumber : PySem.W.hasDictIn K C_InvalidNumber = true)
    (j2_InvalidNumber : PySem.W.findIn K (.ref C_InvalidNumber) "__setattr__" = some (some (.builtin "object.__setattr__")))
    (j3_InvalidNumber : PySem.W.findIn K (.ref C_InvalidNumber) "value" = some none)
    (j4_InvalidNumber : PySem.W.ks_superIn K C_InvalidNumber C_InvalidNumber "__init__" = some (some (.builtin "ArithmeticError.__init__")))
    (j5_InvalidNumber : PySem.W.subIn K (.ref C_InvalidNumber) (.type "ArithmeticError") = some true)
    (j6_InvalidNumber : PySem.W.mroIn K C_InvalidNumber (.ref C_InvalidNumber) = some true)
    (j9_InvalidNumber : PySem.W.typeIn K (.ref fI_InvalidNumber) = some (.type "function"))
    {fI_UnknownPlace cf_UnknownPlace cda_UnknownPlace : Addr}
    {oc_UnknownPlace kV_UnknownPlace dc_UnknownPlace pm_UnknownPlace ct_UnknownPlace : Value}
    {od_UnknownPlace an_UnknownPlace : Option Addr}
    {sl_UnknownPlace : Array (Option Value)}
    {cl_UnknownPlace ccl_UnknownPlace : Value}
    {cld_UnknownPlace cdd_UnknownPlace : Option Addr}
    {csl_UnknownPlace ccs_UnknownPlace : Array (Option Value)}
    {vs_UnknownPlace : Array Value}
    {file_UnknownPlace : Str}
    {tf_UnknownPlace : Tok}
    (i1_UnknownPlace : PySem.W.findIn K (.ref C_UnknownPlace) "__init__" = some (some (.ref fI_UnknownPlace)))
    (i2_UnknownPlace : K.lookup fI_UnknownPlace = some ⟨oc_UnknownPlace, od_UnknownPlace, .func (PySem.W.ksFn "__init__" "UnknownPlace.__init__" (defArgs ms_UnknownPlace) (defBody ms_UnknownPlace) (defScope ms_UnknownPlace) .none kV_UnknownPlace dc_UnknownPlace pm_UnknownPlace an_UnknownPlace (.ref cda_UnknownPlace) ct_UnknownPlace cf_UnknownPlace), sl_UnknownPlace⟩)
    (i3_UnknownPlace : PySem.W.codeIn K (.ref cda_UnknownPlace) "UnknownPlace.__init__" = true)
    (i4_UnknownPlace : K.lookup cf_UnknownPlace = some ⟨cl_UnknownPlace, cld_UnknownPlace, .cell (some (.ref C_UnknownPlace)), csl_UnknownPlace⟩)
    (i5_UnknownPlace : K.lookup cda_UnknownPlace = some ⟨ccl_UnknownPlace, cdd_UnknownPlace, .fields vs_UnknownPlace, ccs_UnknownPlace⟩)
    (i6_UnknownPlace : vs_UnknownPlace[2]? = some (.str file_UnknownPlace tf_UnknownPlace))
    (i7_UnknownPlace : ((l.prog.main.file : Str) == file_UnknownPlace) = true)
    (i8_UnknownPlace : PySem.W.excInitIn K C_UnknownPlace bm_KeyError "LookupError.__new__" = true)
    (i9_UnknownPlace : PySem.W.excOver K C_UnknownPlace bm_KeyError = true)
    (j1_UnknownPlace : PySem.W.hasDictIn K C_UnknownPlace = true)
    (j2_UnknownPlace : PySem.W.findIn K (.ref C_UnknownPlace) "__setattr__" = some (some (.builtin "object.__setattr__")))
    (j3_UnknownPlace : PySem.W.findIn K (.ref C_UnknownPlace) "place" = some none)
    (j4_UnknownPlace : PySem.W.ks_superIn K C_UnknownPlace C_UnknownPlace "__init__" = some (some (.builtin "KeyError.__init__")))
    (j5_UnknownPlace : PySem.W.subIn K (.ref C_UnknownPlace) (.type "KeyError") = some true)
    (j6_UnknownPlace : PySem.W.mroIn K C_UnknownPlace (.ref C_UnknownPlace) = some true)
    (j9_UnknownPlace : PySem.W.typeIn K (.ref fI_UnknownPlace) = some (.type "function"))
    (n_NetError : PySem.W.excIn K C_NetError bm_ValueError "ValueError.__new__" = true)
    (n_InvalidOperation : PySem.W.excIn K C_InvalidOperation bm_ValueError "ValueError.__new__" = true)
    (n_InvalidParting : PySem.W.excIn K C_InvalidParting bm_ValueError "ValueError.__new__" = true)
    (n_InvalidLot : PySem.W.excIn K C_InvalidLot bm_ValueError "ValueError.__new__" = true)
    (n_InvalidNet : PySem.W.excIn K C_InvalidNet bm_ValueError "ValueError.__new__" = true)
    {oc__law_one_of kV__law_one_of dc__law_one_of pm__law_one_of cd__law_one_of ct__law_one_of : Value}
    {od__law_one_of an__law_one_of : Option Addr}
    {sl__law_one_of : Array (Option Value)}
    {f__law_one_of : Addr}
    (a__law_one_of : PySem.W.nsIn K mainGlobals "_law_one_of" = some (some (.ref f__law_one_of)))
    (l__law_one_of : K.lookup f__law_one_of = some ⟨oc__law_one_of, od__law_one_of, .func (PySem.W.fnOf "_law_one_of" "_law_one_of" (defArgs st__law_one_of) (defBody st__law_one_of) (defScope st__law_one_of) .none kV__law_one_of dc__law_one_of pm__law_one_of an__law_one_of cd__law_one_of ct__law_one_of), sl__law_one_of⟩)
    (c__law_one_of : PySem.W.codeIn K cd__law_one_of "_law_one_of" = true)
    (k__law_one_of : PySem.W.keepIn K (.ref f__law_one_of) = true)
    {oc__law_roll kV__law_roll dc__law_roll pm__law_roll cd__law_roll ct__law_roll : Value}
    {od__law_roll an__law_roll : Option Addr}
    {sl__law_roll : Array (Option Value)}
    {f__law_roll : Addr}
    (a__law_roll : PySem.W.nsIn K mainGlobals "_law_roll" = some (some (.ref f__law_roll)))
    (l__law_roll : K.lookup f__law_roll = some ⟨oc__law_roll, od__law_roll, .func (PySem.W.fnOf "_law_roll" "_law_roll" (defArgs st__law_roll) (defBody st__law_roll) (defScope st__law_roll) .none kV__law_roll dc__law_roll pm__law_roll an__law_roll cd__law_roll ct__law_roll), sl__law_roll⟩)
    (c__law_roll : PySem.W.codeIn K cd__law_roll "_law_roll" = true)
    (k__law_roll : PySem.W.keepIn K (.ref f__law_roll) = true)
    (b_int : PySem.W.nsIn K mainGlobals "int" = some none)
    {oc__law_dice kV__law_dice dc__law_dice pm__law_dice cd__law_dice ct__law_dice : Value}
    {od__law_dice an__law_dice : Option Addr}
    {sl__law_dice : Array (Option Value)}
    {f__law_dice : Addr}
    (a__law_dice : PySem.W.nsIn K mainGlobals "_law_dice" = some (some (.ref f__law_dice)))
    (l__law_dice : K.lookup f__law_dice = some ⟨oc__law_dice, od__law_dice, .func (PySem.W.fnOf "_law_dice" "_law_dice" (defArgs st__law_dice) (defBody st__law_dice) (defScope st__law_dice) .none kV__law_dice dc__law_dice pm__law_dice an__law_dice cd__law_dice ct__law_dice), sl__law_dice⟩)
    (c__law_dice : PySem.W.codeIn K cd__law_dice "_law_dice" = true)
    (k__law_dice : PySem.W.keepIn K (.ref f__law_dice) = true)
    (b_abs : PySem.W.nsIn K mainGlobals "abs" = some none) :
    ∀ base : Heap, K.In base → base.Ns mainGlobals mg → FnG l.prog w K mg base 4 fa (spLaw K) := by
  have e := hfa.symm.trans (PySem.W.mg_of X G a_law)
  cases e
  exact fun base _ _ => law_endG (cm := fun n => List.lookup n [("TooMany", C_TooMany), ("ParseError", C_ParseError), ("Refused", C_Refused), ("NothingToUndo", C_NothingToUndo), ("InvalidNumber", C_InvalidNumber), ("UnknownPlace", C_UnknownPlace), ("NetError", C_NetError), ("InvalidOperation", C_InvalidOperation), ("InvalidParting", C_InvalidParting), ("InvalidLot", C_InvalidLot), ("InvalidNet", C_InvalidNet)]) (ok_law (fun_mk (st := st_law) l_law c_law k_law) (fun C e => xfCB_ok (by cases (show some C_TooMany = some C from e); exact h_limit)) (by rfl) (PySem.W.mg_of X G ac_TooMany) kc_TooMany (iF_TooMany ⟨Xc.base_OverflowError, i8_TooMany, i9_TooMany, j1_TooMany, j2_TooMany, j3_TooMany, j4_TooMany, j5_TooMany, j6_TooMany, j7, j8, ⟨_, _, _, i4_TooMany⟩, ⟨_, _, _, _, _, _, i5_TooMany, i6_TooMany, i7_TooMany⟩, jt, i1_TooMany, j9_TooMany⟩ i2_TooMany i3_TooMany) (fun C e => xfCB_ok (by cases (show some C_ParseError = some C from e); exact h_line)) (by rfl) (PySem.W.mg_of X G ac_ParseError) kc_ParseError (iF_ParseError ⟨Xc.base_ValueError, i8_ParseError, i9_ParseError, j1_ParseError, j2_ParseError, j3_ParseError, j4_ParseError, j5_ParseError, j6_ParseError, j7, j8, ⟨_, _, _, i4_ParseError⟩, ⟨_, _, _, _, _, _, i5_ParseError, i6_ParseError, i7_ParseError⟩, jt, i1_ParseError, j9_ParseError⟩ i2_ParseError i3_ParseError) (PySem.W.mg_none_of X G b_range) (PySem.W.mg_none_of X G b_max) (PySem.W.mg_none_of X G b_min) (PySem.W.mg_none_of X G b_len) (fun_mk (st := st__law_right) l__law_right c__law_right k__law_right) (PySem.W.mg_none_of X G b_repr) (fun C e => xfCB_ok (by cases (show some C_Refused = some C from e); exact h_reason)) (fun C e => xfCB_ok (by cases (show some C_NothingToUndo = some C from e); exact h_many)) (fun C e => xfCB_ok (by cases (show some C_InvalidNumber = some C from e); exact h_value)) (fun C e => xfCB_ok (by cases (show some C_UnknownPlace = some C from e); exact h_place)) (fun_mk (st := st__law_kinds) l__law_kinds c__law_kinds k__law_kinds) (PySem.W.mg_none_of X G b_isinstance) (excAll_ok e_x) (PySem.W.mg_none_of X G b_RuntimeError) (kitB2_ok t_RuntimeError) (PySem.W.mg_none_of X G b_IndexError) (kitB2_ok t_IndexError) (PySem.W.mg_none_of X G b_OverflowError) (kitB2_ok t_OverflowError) (PySem.W.mg_none_of X G b_ArithmeticError) (kitB2_ok t_ArithmeticError) (PySem.W.mg_none_of X G b_KeyError) (kitB2_ok t_KeyError) (by rfl) (PySem.W.mg_of X G ac_Refused) kc_Refused (kitB2_ok t_Refused) (by rfl) (PySem.W.mg_of X G ac_NothingToUndo) kc_NothingToUndo (kitB2_ok t_NothingToUndo) (kitB2_ok t_TooMany) (by rfl) (PySem.W.mg_of X G ac_InvalidNumber) kc_InvalidNumber (kitB2_ok t_InvalidNumber) (by rfl) (PySem.W.mg_of X G ac_UnknownPlace) kc_UnknownPlace (kitB2_ok t_UnknownPlace) (PySem.W.mg_none_of X G b_ValueError) (kitB2_ok t_ValueError) (by rfl) (PySem.W.mg_of X G ac_NetError) kc_NetError (kitB2_ok t_NetError) (kitB2_ok t_ParseError) (by rfl) (PySem.W.mg_of X G ac_InvalidOperation) kc_InvalidOperation (kitB2_ok t_InvalidOperation) (by rfl) (PySem.W.mg_of X G ac_InvalidParting) kc_InvalidParting (kitB2_ok t_InvalidParting) (by rfl) (PySem.W.mg_of X G ac_InvalidLot) kc_InvalidLot (kitB2_ok t_InvalidLot) (by rfl) (PySem.W.mg_of X G ac_InvalidNet) kc_InvalidNet (kitB2_ok t_InvalidNet) (PySem.W.mg_of X G a__law_kinds) k__law_kinds (iF_Refused ⟨Xc.base_RuntimeError, i8_Refused, i9_Refused, j1_Refused, j2_Refused, j3_Refused, j4_Refused, j5_Refused, j6_Refused, j7, j8, ⟨_, _, _, i4_Refused⟩, ⟨_, _, _, _, _, _, i5_Refused, i6_Refused, i7_Refused⟩, jt, i1_Refused, j9_Refused⟩ i2_Refused i3_Refused) (iF_NothingToUndo ⟨Xc.base_IndexError, i8_NothingToUndo, i9_NothingToUndo, j1_NothingToUndo, j2_NothingToUndo, j3_NothingToUndo, j4_NothingToUndo, j5_NothingToUndo, j6_NothingToUndo, j7, j8, ⟨_, _, _, i4_NothingToUndo⟩, ⟨_, _, _, _, _, _, i5_NothingToUndo, i6_NothingToUndo, i7_NothingToUndo⟩, jt, i1_NothingToUndo, j9_NothingToUndo⟩ i2_NothingToUndo i3_NothingToUndo) (iF_InvalidNumber ⟨Xc.base_ArithmeticError, i8_InvalidNumber, i9_InvalidNumber, j1_InvalidNumber, j2_InvalidNumber, j3_InvalidNumber, j4_InvalidNumber, j5_InvalidNumber, j6_InvalidNumber, j7, j8, ⟨_, _, _, i4_InvalidNumber⟩, ⟨_, _, _, _, _, _, i5_InvalidNumber, i6_InvalidNumber, i7_InvalidNumber⟩, jt, i1_InvalidNumber, j9_InvalidNumber⟩ i2_InvalidNumber i3_InvalidNumber) (iF_UnknownPlace ⟨Xc.base_KeyError, i8_UnknownPlace, i9_UnknownPlace, j1_UnknownPlace, j2_UnknownPlace, j3_UnknownPlace, j4_UnknownPlace, j5_UnknownPlace, j6_UnknownPlace, j7, j8, ⟨_, _, _, i4_UnknownPlace⟩, ⟨_, _, _, _, _, _, i5_UnknownPlace, i6_UnknownPlace, i7_UnknownPlace⟩, jt, i1_UnknownPlace, j9_UnknownPlace⟩ i2_UnknownPlace i3_UnknownPlace) n_NetError n_InvalidOperation n_InvalidParting n_InvalidLot n_InvalidNet (fun_mk (st := st__law_one_of) l__law_one_of c__law_one_of k__law_one_of) (fun_mk (st := st__law_roll) l__law_roll c__law_roll k__law_roll) (PySem.W.mg_none_of X G b_int) (PySem.W.mg_of X G a__law_roll) k__law_roll (PySem.W.mg_of X G a__law_one_of) k__law_one_of (PySem.W.mg_of X G a__law_right) k__law_right (fun_mk (st := st__law_dice) l__law_dice c__law_dice k__law_dice) (PySem.W.mg_none_of X G b_abs) (PySem.W.mg_of X G a__law_dice) k__law_dice) law_true
end K00
end Pd

open PySem PySem.W PyProof.Rows
set_option maxRecDepth 100000 in
set_option maxHeartbeats 0 in
theorem PySem.Challenge.cw_waysapart_k00_errors_and_what_they_keep_holds : PySem.Challenge.rw_waysapart_k00_errors_and_what_they_keep.Holds := by
  w_on; o_law; k_head; (case hw => w_witness2)
  k_fill
  refine Pd.walkG (l := PySem.Challenge.rw_waysapart_k00_errors_and_what_they_keep) (n := 63) (k := 4) (sp := fun w => Pd.spLaw _) rfl (by decide) rfl ⟨rfl, by decide, by decide⟩ (fun w h Y => PySem.W.kIn_of Y) ?F (fun _ _ a ns hl _ hS => ⟨a, ns, rfl, hl, hS, fun _ => rfl⟩)
  case F =>
    intro w mg fa h KX G hmg
    refine' Pd.K00.all_mk KX G hmg ?ac_TooMany ?ac_ParseError ?ac_Refused ?ac_NothingToUndo ?ac_InvalidNumber ?ac_UnknownPlace ?ac_NetError ?ac_InvalidOperation ?ac_InvalidParting ?ac_InvalidLot ?ac_InvalidNet ?a_law ?l_law ?c_law ?k_law ?h_limit ?kc_TooMany ?i1_TooMany ?i2_TooMany ?i3_TooMany ?i4_TooMany ?i5_TooMany ?i6_TooMany ?i7_TooMany ?i8_TooMany ?i9_TooMany ?j1_TooMany ?j2_TooMany ?j3_TooMany ?j4_TooMany ?j5_TooMany ?j6_TooMany ?j9_TooMany ?j7 ?j8 ?jt ?h_line ?kc_ParseError ?i1_ParseError ?i2_ParseError ?i3_ParseError ?i4_ParseError ?i5_ParseError ?i6_ParseError ?i7_ParseError ?i8_ParseError ?i9_ParseError ?j1_ParseError ?j2_ParseError ?j3_ParseError ?j4_ParseError ?j5_ParseError ?j6_ParseError ?j9_ParseError ?b_range ?b_max ?b_min ?b_len ?a__law_right ?l__law_right ?c__law_right ?k__law_right ?b_repr ?h_reason ?h_many ?h_value ?h_place ?a__law_kinds ?l__law_kinds ?c__law_kinds ?k__law_kinds ?b_isinstance ?e_x ?b_RuntimeError ?t_RuntimeError ?b_IndexError ?t_IndexError ?b_OverflowError ?t_OverflowError ?b_ArithmeticError ?t_ArithmeticError ?b_KeyError ?t_KeyError ?kc_Refused ?t_Refused ?kc_NothingToUndo ?t_NothingToUndo ?t_TooMany ?kc_InvalidNumber ?t_InvalidNumber ?kc_UnknownPlace ?t_UnknownPlace ?b_ValueError ?t_ValueError ?kc_NetError ?t_NetError ?t_ParseError ?kc_InvalidOperation ?t_InvalidOperation ?kc_InvalidParting ?t_InvalidParting ?kc_InvalidLot ?t_InvalidLot ?kc_InvalidNet ?t_InvalidNet ?i1_Refused ?i2_Refused ?i3_Refused ?i4_Refused ?i5_Refused ?i6_Refused ?i7_Refused ?i8_Refused ?i9_Refused ?j1_Refused ?j2_Refused ?j3_Refused ?j4_Refused ?j5_Refused ?j6_Refused ?j9_Refused ?i1_NothingToUndo ?i2_NothingToUndo ?i3_NothingToUndo ?i4_NothingToUndo ?i5_NothingToUndo ?i6_NothingToUndo ?i7_NothingToUndo ?i8_NothingToUndo ?i9_NothingToUndo ?j1_NothingToUndo ?j2_NothingToUndo ?j3_NothingToUndo ?j4_NothingToUndo ?j5_NothingToUndo ?j6_NothingToUndo ?j9_NothingToUndo ?i1_InvalidNumber ?i2_InvalidNumber ?i3_InvalidNumber ?i4_InvalidNumber ?i5_InvalidNumber ?i6_InvalidNumber ?i7_InvalidNumber ?i8_InvalidNumber ?i9_InvalidNumber ?j1_InvalidNumber ?j2_InvalidNumber ?j3_InvalidNumber ?j4_InvalidNumber ?j5_InvalidNumber ?j6_InvalidNumber ?j9_InvalidNumber ?i1_UnknownPlace ?i2_UnknownPlace ?i3_UnknownPlace ?i4_UnknownPlace ?i5_UnknownPlace ?i6_UnknownPlace ?i7_UnknownPlace ?i8_UnknownPlace ?i9_UnknownPlace ?j1_UnknownPlace ?j2_UnknownPlace ?j3_UnknownPlace ?j4_UnknownPlace ?j5_UnknownPlace ?j6_UnknownPlace ?j9_UnknownPlace ?n_NetError ?n_InvalidOperation ?n_InvalidParting ?n_InvalidLot ?n_InvalidNet ?a__law_one_of ?l__law_one_of ?c__law_one_of ?k__law_one_of ?a__law_roll ?l__law_roll ?c__law_roll ?k__law_roll ?b_int ?a__law_dice ?l__law_dice ?c__law_dice ?k__law_dice ?b_abs
    (case ac_TooMany => k_is)
    (case ac_ParseError => k_is)
    (case ac_Refused => k_is)
    (case ac_NothingToUndo => k_is)
    (case ac_InvalidNumber => k_is)
    (case ac_UnknownPlace => k_is)
    (case ac_NetError => k_is)
    (case ac_InvalidOperation => k_is)
    (case ac_InvalidParting => k_is)
    (case ac_InvalidLot => k_is)
    (case ac_InvalidNet => k_is)
    (case a_law => k_is)
    (case l_law => k_is)
    (case c_law => k_is)
    (case k_law => k_is)
    (case h_limit => kernel_rfl)
    (case kc_TooMany => k_is)
    (case i1_TooMany => k_is)
    (case i2_TooMany => k_is)
    (case i3_TooMany => k_is)
    (case i4_TooMany => k_is)
    (case i5_TooMany => k_is)
    (case i6_TooMany => exact rfl)
    (case i7_TooMany => first | kernel_rfl | rfl)
    (case i8_TooMany => kernel_rfl)
    (case i9_TooMany => kernel_rfl)
    (case j1_TooMany => k_is)
    (case j2_TooMany => k_is)
    (case j3_TooMany => k_is)
    (case j4_TooMany => kernel_rfl)
    (case j5_TooMany => k_is)
    (case j6_TooMany => k_is)
    (case j9_TooMany => k_is)
    (case j7 => k_is)
    (case j8 => k_is)
    (case jt => first | rfl | kernel_rfl)
    (case h_line => kernel_rfl)
    (case kc_ParseError => k_is)
    (case i1_ParseError => k_is)
    (case i2_ParseError => k_is)
    (case i3_ParseError => k_is)
    (case i4_ParseError => k_is)
    (case i5_ParseError => k_is)
    (case i6_ParseError => exact rfl)
    (case i7_ParseError => first | kernel_rfl | rfl)
    (case i8_ParseError => kernel_rfl)
    (case i9_ParseError => kernel_rfl)
    (case j1_ParseError => k_is)
    (case j2_ParseError => k_is)
    (case j3_ParseError => k_is)
    (case j4_ParseError => kernel_rfl)
    (case j5_ParseError => k_is)
    (case j6_ParseError => k_is)
    (case j9_ParseError => k_is)
    (case b_range => k_is)
    (case b_max => k_is)
    (case b_min => k_is)
    (case b_len => k_is)
    (case a__law_right => k_is)
    (case l__law_right => k_is)
    (case c__law_right => k_is)
    (case k__law_right => k_is)
    (case b_repr => k_is)
    (case h_reason => kernel_rfl)
    (case h_many => kernel_rfl)
    (case h_value => kernel_rfl)
    (case h_place => kernel_rfl)
    (case a__law_kinds => k_is)
    (case l__law_kinds => k_is)
    (case c__law_kinds => k_is)
    (case k__law_kinds => k_is)
    (case b_isinstance => k_is)
    (case e_x => kernel_rfl)
    (case b_RuntimeError => k_is)
    (case t_RuntimeError => kernel_rfl)
    (case b_IndexError => k_is)
    (case t_IndexError => kernel_rfl)
    (case b_OverflowError => k_is)
    (case t_OverflowError => kernel_rfl)
    (case b_ArithmeticError => k_is)
    (case t_ArithmeticError => kernel_rfl)
    (case b_KeyError => k_is)
    (case t_KeyError => kernel_rfl)
    (case kc_Refused => k_is)
    (case t_Refused => kernel_rfl)
    (case kc_NothingToUndo => k_is)
    (case t_NothingToUndo => kernel_rfl)
    (case t_TooMany => kernel_rfl)
    (case kc_InvalidNumber => k_is)
    (case t_InvalidNumber => kernel_rfl)
    (case kc_UnknownPlace => k_is)
    (case t_UnknownPlace => kernel_rfl)
    (case b_ValueError => k_is)
    (case t_ValueError => kernel_rfl)
    (case kc_NetError => k_is)
    (case t_NetError => kernel_rfl)
    (case t_ParseError => kernel_rfl)
    (case kc_InvalidOperation => k_is)
    (case t_InvalidOperation => kernel_rfl)
    (case kc_InvalidParting => k_is)
    (case t_InvalidParting => kernel_rfl)
    (case kc_InvalidLot => k_is)
    (case t_InvalidLot => kernel_rfl)
    (case kc_InvalidNet => k_is)
    (case t_InvalidNet => kernel_rfl)
    (case i1_Refused => k_is)
    (case i2_Refused => k_is)
    (case i3_Refused => k_is)
    (case i4_Refused => k_is)
    (case i5_Refused => k_is)
    (case i6_Refused => exact rfl)
    (case i7_Refused => first | kernel_rfl | rfl)
    (case i8_Refused => kernel_rfl)
    (case i9_Refused => kernel_rfl)
    (case j1_Refused => k_is)
    (case j2_Refused => k_is)
    (case j3_Refused => k_is)
    (case j4_Refused => kernel_rfl)
    (case j5_Refused => k_is)
    (case j6_Refused => k_is)
    (case j9_Refused => k_is)
    (case i1_NothingToUndo => k_is)
    (case i2_NothingToUndo => k_is)
    (case i3_NothingToUndo => k_is)
    (case i4_NothingToUndo => k_is)
    (case i5_NothingToUndo => k_is)
    (case i6_NothingToUndo => exact rfl)
    (case i7_NothingToUndo => first | kernel_rfl | rfl)
    (case i8_NothingToUndo => kernel_rfl)
    (case i9_NothingToUndo => kernel_rfl)
    (case j1_NothingToUndo => k_is)
    (case j2_NothingToUndo => k_is)
    (case j3_NothingToUndo => k_is)
    (case j4_NothingToUndo => kernel_rfl)
    (case j5_NothingToUndo => k_is)
    (case j6_NothingToUndo => k_is)
    (case j9_NothingToUndo => k_is)
    (case i1_InvalidNumber => k_is)
    (case i2_InvalidNumber => k_is)
    (case i3_InvalidNumber => k_is)
    (case i4_InvalidNumber => k_is)
    (case i5_InvalidNumber => k_is)
    (case i6_InvalidNumber => exact rfl)
    (case i7_InvalidNumber => first | kernel_rfl | rfl)
    (case i8_InvalidNumber => kernel_rfl)
    (case i9_InvalidNumber => kernel_rfl)
    (case j1_InvalidNumber => k_is)
    (case j2_InvalidNumber => k_is)
    (case j3_InvalidNumber => k_is)
    (case j4_InvalidNumber => kernel_rfl)
    (case j5_InvalidNumber => k_is)
    (case j6_InvalidNumber => k_is)
    (case j9_InvalidNumber => k_is)
    (case i1_UnknownPlace => k_is)
    (case i2_UnknownPlace => k_is)
    (case i3_UnknownPlace => k_is)
    (case i4_UnknownPlace => k_is)
    (case i5_UnknownPlace => k_is)
    (case i6_UnknownPlace => exact rfl)
    (case i7_UnknownPlace => first | kernel_rfl | rfl)
    (case i8_UnknownPlace => kernel_rfl)
    (case i9_UnknownPlace => kernel_rfl)
    (case j1_UnknownPlace => k_is)
    (case j2_UnknownPlace => k_is)
    (case j3_UnknownPlace => k_is)
    (case j4_UnknownPlace => kernel_rfl)
    (case j5_UnknownPlace => k_is)
    (case j6_UnknownPlace => k_is)
    (case j9_UnknownPlace => k_is)
    (case n_NetError => kernel_rfl)
    (case n_InvalidOperation => kernel_rfl)
    (case n_InvalidParting => kernel_rfl)
    (case n_InvalidLot => kernel_rfl)
    (case n_InvalidNet => kernel_rfl)
    (case a__law_one_of => k_is)
    (case l__law_one_of => k_is)
    (case c__law_one_of => k_is)
    (case k__law_one_of => k_is)
    (case a__law_roll => k_is)
    (case l__law_roll => k_is)
    (case c__law_roll => k_is)
    (case k__law_roll => k_is)
    (case b_int => k_is)
    (case a__law_dice => k_is)
    (case l__law_dice => k_is)
    (case c__law_dice => k_is)
    (case k__law_dice => k_is)
    (case b_abs => k_is)
