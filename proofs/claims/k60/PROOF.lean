import PyProof.Rows.All
import Wide.All
import OpenK.AllK
import Wide.FinOn
import HandS.ForMost
import HandS.ForExc
import HandS.Walk
import HandS.Deep
import HandS.IsInst
import HandS.CallSlots
import HandS.TupAny
import HandS.TupMul
import HandS.Wide
import HandS.NoneIn
import HandS.Rev
import HandS.Flow
import HandS.SetKeys
import HandS.Style
import KE.DataEq
import HandS.StrMore
import HandS.StrSplit
import HandS.Defaults
import KE.KStateDown
import HandS.Ends
import HandS.Head0
import HandS.Head1
import HandS.Head2
import HandS.HeadEnd
import HandS.HeadHook1
import HandS.HeadHook2
import PySem.Challenge.RW_slidewires_k60_words_on_wires
set_option Elab.async false
set_option linter.all false
set_option autoImplicit false
set_option maxRecDepth 100000
set_option maxHeartbeats 0
/-! SwA: values of the mirror, what represents them, the state's relation. -/
namespace Sw
open PySem PySem.Spec PyProof.Rows L2

abbrev D := PyData

/-- what a slot holds: a thing that stands still, or an owned list, dict, dict of lists, instance; a caught exception -/
inductive M where
  | fz (d : D)
  | ol (xs : List D)
  | od (kvs : List (D × D))
  | odl (kvs : List (D × List D))
  | ob (C : Str) (fs : List (Str × M))
  | ex (C : Str) (n : Option D)

abbrev Env := List (Option M)
/-- an exception: its class's name, its number -/
abbrev Ex := Str × Option D

def StrW (x : Str) : Prop := PyData.strOk x = true ∧ x.length ≤ sizeLine

def keyD : Key → D
  | .inl i => .int i
  | .inr x => .str x

mutual
inductive Rep (K : PySem.W.Frag) (H : Hp) : V → D → Prop
  | non : Rep K H .non .none
  | bl (b : Bool) : Rep K H (.bl b) (.bool b)
  | int (i : Int) : Rep K H (.int i) (.int i)
  | str (x : Str) : StrW x → Rep K H (.str x) (.str x)
  | lst {a : Addr} {xs : List V} {ds : List D} : SqL K H a xs → xs.length ≤ sizeLine → RepAll K H xs ds → Rep K H (.ref a) (.list ds)
  | tup {a : Addr} {xs : List V} {ds : List D} : SqT K H a xs → xs.length ≤ sizeLine → RepAll K H xs ds → Rep K H (.ref a) (.tuple ds)
  | dK {a : Addr} {kvs : List (Key × V)} {ds : List (D × D)} : H a = some (.dK kvs) → RepKv K H kvs ds → Rep K H (.ref a) (.dict ds)
  | dT {a : Addr} {kvs : List (List Key × V)} {ds : List (D × D)} : H a = some (.dT kvs) → RepKt K H kvs ds → Rep K H (.ref a) (.dict ds)
inductive RepAll (K : PySem.W.Frag) (H : Hp) : List V → List D → Prop
  | nil : RepAll K H [] []
  | cons {v : V} {vs : List V} {d : D} {ds : List D} : Rep K H v d → RepAll K H vs ds → RepAll K H (v :: vs) (d :: ds)
inductive RepKv (K : PySem.W.Frag) (H : Hp) : List (Key × V) → List (D × D) → Prop
  | nil : RepKv K H [] []
  | cons {k : Key} {v : V} {vs : List (Key × V)} {d : D} {ds : List (D × D)} : Rep K H v d → RepKv K H vs ds → RepKv K H ((k, v) :: vs) ((keyD k, d) :: ds)
inductive RepKt (K : PySem.W.Frag) (H : Hp) : List (List Key × V) → List (D × D) → Prop
  | nil : RepKt K H [] []
  | cons {k : List Key} {v : V} {vs : List (List Key × V)} {d : D} {ds : List (D × D)} : Rep K H v d → RepKt K H vs ds → RepKt K H ((k, v) :: vs) ((.tuple (k.map keyD), d) :: ds)
end

theorem Same.sqT {K : PySem.W.Frag} {H H' : Hp} {a : Addr} {xs : List V} (e : Same H H') (h : SqT K H a xs) : SqT K H' a xs := by
  rcases h with (h | ⟨o, h⟩) | h
  · exact .inl (.inl (e _ _ h))
  · exact .inl (.inr ⟨o, e _ _ h⟩)
  · exact .inr h
theorem Same.sqL {K : PySem.W.Frag} {H H' : Hp} {a : Addr} {xs : List V} (e : Same H H') (h : SqL K H a xs) : SqL K H' a xs := by
  rcases h with (h | ⟨o, h⟩) | h
  · exact .inl (.inl (e _ _ h))
  · exact .inl (.inr ⟨o, e _ _ h⟩)
  · exact .inr h
theorem Same.rd {H H' : Hp} {a : Addr} {o : HO} (e : Same H H') (h : Rd H a o) : Rd H' a o := by
  rcases h with h | ⟨o, h⟩
  · exact .inl (e _ _ h)
  · exact .inr ⟨o, e _ _ h⟩
section
variable {K : PySem.W.Frag} {H H' : Hp}
mutual
theorem Rep.mono (s : Same H H') : ∀ {v : V} {d : D}, Rep K H v d → Rep K H' v d
  | _, _, .non => .non
  | _, _, .bl b => .bl b
  | _, _, .int i => .int i
  | _, _, .str x h => .str x h
  | _, _, .lst a z b => .lst (Same.sqL s a) z (RepAll.mono s b)
  | _, _, .tup a z b => .tup (Same.sqT s a) z (RepAll.mono s b)
  | _, _, .dK a b => .dK (s _ _ a) (RepKv.mono s b)
  | _, _, .dT a b => .dT (s _ _ a) (RepKt.mono s b)
theorem RepAll.mono (s : Same H H') : ∀ {v : List V} {d : List D}, RepAll K H v d → RepAll K H' v d
  | _, _, .nil => .nil
  | _, _, .cons a b => .cons (Rep.mono s a) (RepAll.mono s b)
theorem RepKv.mono (s : Same H H') : ∀ {v : List (Key × V)} {d : List (D × D)}, RepKv K H v d → RepKv K H' v d
  | _, _, .nil => .nil
  | _, _, .cons a b => .cons (Rep.mono s a) (RepKv.mono s b)
theorem RepKt.mono (s : Same H H') : ∀ {v : List (List Key × V)} {d : List (D × D)}, RepKt K H v d → RepKt K H' v d
  | _, _, .nil => .nil
  | _, _, .cons a b => .cons (Rep.mono s a) (RepKt.mono s b)
end
theorem RepAll.length : ∀ {vs : List V} {ds : List D}, RepAll K H vs ds → vs.length = ds.length
  | _, _, .nil => rfl
  | _, _, .cons _ t => congrArg (· + 1) (RepAll.length t)
theorem RepAll.get : ∀ {vs : List V} {ds : List D} {i : Nat} {d : D}, RepAll K H vs ds → ds[i]? = some d → ∃ v, vs[i]? = some v ∧ Rep K H v d
  | _, _, _, _, .nil, e => by simp at e
  | _, _, 0, _, .cons h _, e => by simp at e; subst e; exact ⟨_, rfl, h⟩
  | _, _, i + 1, d, .cons _ t, e => by
    obtain ⟨v, h1, h2⟩ := RepAll.get (i := i) (d := d) t (by simpa using e)
    exact ⟨v, by simpa using h1, h2⟩
theorem RepAll.append : ∀ {xs ys : List V} {ds es : List D}, RepAll K H xs ds → RepAll K H ys es → RepAll K H (xs ++ ys) (ds ++ es)
  | _, _, _, _, .nil, s => s
  | _, _, _, _, .cons h t, s => .cons h (RepAll.append t s)
theorem RepAll.take : ∀ {vs : List V} {ds : List D} (n : Nat), RepAll K H vs ds → RepAll K H (vs.take n) (ds.take n)
  | _, _, 0, _ => .nil
  | _, _, _ + 1, .nil => .nil
  | _, _, n + 1, .cons h t => .cons h (RepAll.take n t)
theorem RepAll.drop : ∀ {vs : List V} {ds : List D} (n : Nat), RepAll K H vs ds → RepAll K H (vs.drop n) (ds.drop n)
  | _, _, 0, h => h
  | _, _, _ + 1, .nil => .nil
  | _, _, n + 1, .cons _ t => RepAll.drop n t
theorem RepAll.set : ∀ {vs : List V} {ds : List D} {v : V} {d : D} (n : Nat), RepAll K H vs ds → Rep K H v d → RepAll K H (vs.set n v) (ds.set n d)
  | _, _, _, _, _, .nil, _ => .nil
  | _, _, _, _, 0, .cons _ t, h => .cons h t
  | _, _, _, _, n + 1, .cons a t, h => .cons a (RepAll.set n t h)
theorem RepAll.reverse : ∀ {vs : List V} {ds : List D}, RepAll K H vs ds → RepAll K H vs.reverse ds.reverse
  | _, _, .nil => .nil
  | _, _, .cons h t => by
    rw [List.reverse_cons, List.reverse_cons]
    exact (RepAll.reverse t).append (.cons h .nil)
end

/-- what the owner of m at v holds: fp are its own objects; things that stand still stand in F -/
inductive DicAt (K : PySem.W.Frag) (F H : Hp) (a : Addr) (ds : List (D × D)) : Prop
  | dK {kvs : List (Key × V)} : H a = some (.dK kvs) → RepKv K F kvs ds → DicAt K F H a ds
  | dT {kvs : List (List Key × V)} : H a = some (.dT kvs) → RepKt K F kvs ds → DicAt K F H a ds

structure Glob where
  K : PySem.W.Frag
  mg : Str → Option Value

mutual
inductive Own (G : Glob) (F H : Hp) : V → M → List Addr → Prop
  | fz {v : V} {d : D} : Rep G.K F v d → Own G F H v (.fz d) []
  | ol {a : Addr} {vs : List V} {ds : List D} : H a = some (.lst vs) → vs.length ≤ sizeLine → RepAll G.K F vs ds → Own G F H (.ref a) (.ol ds) [a]
  | od {a : Addr} {ds : List (D × D)} : DicAt G.K F H a ds → Own G F H (.ref a) (.od ds) [a]
  | ob {a dx Ca : Addr} {C : Str} {vf : List (Str × V)} {ms : List (Str × M)} {fp : List Addr} : H a = some (.ins Ca dx vf) → H dx = some (.own a) → G.mg C = some (.ref Ca) → Cls G.K Ca →
      OwnFs G F H vf ms fp → (a :: dx :: fp).Nodup → Own G F H (.ref a) (.ob C ms) (a :: dx :: fp)
inductive OwnFs (G : Glob) (F H : Hp) : List (Str × V) → List (Str × M) → List Addr → Prop
  | nil : OwnFs G F H [] [] []
  | cons {f : Str} {v : V} {vs : List (Str × V)} {m : M} {ms : List (Str × M)} {p q : List Addr} : Own G F H v m p → OwnFs G F H vs ms q → OwnFs G F H ((f, v) :: vs) ((f, m) :: ms) (p ++ q)
end

section
variable {G : Glob} {F F' H H' : Hp}
theorem DicAt.mono {K : PySem.W.Frag} {a : Addr} {ds : List (D × D)} (sF : Same F F') (e : H' a = H a) : DicAt K F H a ds → DicAt K F' H' a ds
  | .dK h r => .dK (e.trans h) (r.mono sF)
  | .dT h r => .dT (e.trans h) (r.mono sF)
mutual
theorem Own.mono (sF : Same F F') : ∀ {v : V} {m : M} {fp : List Addr}, (∀ a ∈ fp, H' a = H a) → Own G F H v m fp → Own G F' H' v m fp
  | _, _, _, _, .fz r => .fz (r.mono sF)
  | _, _, _, e, .ol h z r => .ol ((e _ List.mem_cons_self).trans h) z (r.mono sF)
  | _, _, _, e, .od h => .od (h.mono sF (e _ List.mem_cons_self))
  | _, _, _, e, .ob h1 h2 h3 h4 r n => .ob ((e _ List.mem_cons_self).trans h1) ((e _ (List.mem_cons_of_mem _ List.mem_cons_self)).trans h2) h3 h4
      (OwnFs.mono sF (fun a h => e a (List.mem_cons_of_mem _ (List.mem_cons_of_mem _ h))) r) n
theorem OwnFs.mono (sF : Same F F') : ∀ {v : List (Str × V)} {m : List (Str × M)} {fp : List Addr}, (∀ a ∈ fp, H' a = H a) → OwnFs G F H v m fp → OwnFs G F' H' v m fp
  | _, _, _, _, .nil => .nil
  | _, _, _, e, .cons h t => .cons (Own.mono sF (fun a z => e a (List.mem_append_left _ z)) h) (OwnFs.mono sF (fun a z => e a (List.mem_append_right _ z)) t)
end
mutual
theorem Own.tracked : ∀ {v : V} {m : M} {fp : List Addr}, Own G F H v m fp → ∀ a ∈ fp, H a ≠ none
  | _, _, _, .fz _, a, h => by cases h
  | _, _, _, .ol e _ _, a, h => by
    rw [List.mem_singleton] at h
    rw [h, e]
    exact Option.some_ne_none _
  | _, _, _, .od e, a, h => by
    rw [List.mem_singleton] at h
    cases e with
    | dK e _ => rw [h, e]; exact Option.some_ne_none _
    | dT e _ => rw [h, e]; exact Option.some_ne_none _
  | _, _, _, .ob h1 h2 _ _ r _, a, h => by
    rcases List.mem_cons.mp h with h | h
    · rw [h, h1]; exact Option.some_ne_none _
    · rcases List.mem_cons.mp h with h | h
      · rw [h, h2]; exact Option.some_ne_none _
      · exact OwnFs.tracked r a h
theorem OwnFs.tracked : ∀ {v : List (Str × V)} {m : List (Str × M)} {fp : List Addr}, OwnFs G F H v m fp → ∀ a ∈ fp, H a ≠ none
  | _, _, _, .nil, a, h => by cases h
  | _, _, _, .cons x t, a, h => by
    rcases List.mem_append.mp h with h | h
    · exact Own.tracked x a h
    · exact OwnFs.tracked t a h
end
theorem Own.rep {v : V} {d : D} {fp : List Addr} : Own G F H v (.fz d) fp → Rep G.K F v d ∧ fp = []
  | .fz r => ⟨r, rfl⟩
end

/-- the state: slots and what they hold -/
structure Rel (G : Glob) (P F0 F : Hp) (ε : Env) (σ : L2.St) (H : Hp) (fp : Nat → List Addr) : Prop where
  len : ε.length = σ.length
  own : ∀ i m, ε[i]? = some (some m) → ∃ v, σ[i]? = some (some v) ∧ Own G F H v m (fp i)
  dis : ∀ i j a, a ∈ fp i → a ∈ fp j → i = j
  nof : ∀ i a, a ∈ fp i → F a = none ∧ P a = none
  trk : ∀ i a, a ∈ fp i → H a ≠ none
  pH : Same P H
  fH : Same F H
  f0 : Same F0 F
  new : ∀ a o, F a = some o → F0 a = some o ∨ P a = none

/-- what grows when things are made -/
structure Grow (F H F' H' : Hp) (fp : List Addr) : Prop where
  sH : Same H H'
  sF : Same F F'
  fH : Same F' H'
  fn : ∀ a o, F' a = some o → F a = some o ∨ H a = none
  fpn : ∀ a ∈ fp, H a = none ∧ F' a = none

theorem Grow.refl {F H : Hp} (h : Same F H) : Grow F H F H [] := ⟨.refl _, .refl _, h, fun _ _ e => .inl e, fun _ h => by cases h⟩
/-- a new thing that stands still -/
theorem Grow.fz {F H : Hp} {p : Addr} {o : HO} (h : Same F H) (hp : H p = none) : Grow F H (upd F p o) (upd H p o) [] := by
  have hF : F p = none := h.free hp
  refine ⟨fun b u e => ?_, fun b u e => ?_, fun b u e => ?_, fun a u e => ?_, fun _ h => by cases h⟩
  · rw [upd_ne (ne_of_none e hp)]; exact e
  · rw [upd_ne (ne_of_none e hF)]; exact e
  · by_cases hb : b = p
    · subst hb; rw [upd_same] at e ⊢; exact e
    · rw [upd_ne hb] at e ⊢; exact h _ _ e
  · by_cases hb : a = p
    · subst hb; exact .inr hp
    · rw [upd_ne hb] at e; exact .inl e
/-- a new owned thing -/
theorem Grow.new {F H : Hp} {p : Addr} {o : HO} (h : Same F H) (hp : H p = none) : Grow F H F (upd H p o) [p] := by
  have hF : F p = none := h.free hp
  refine ⟨fun b u e => ?_, .refl _, fun b u e => ?_, fun a u e => .inl e, fun a ha => ?_⟩
  · rw [upd_ne (ne_of_none e hp)]; exact e
  · rw [upd_ne (ne_of_none (h _ _ e) hp)]; exact h _ _ e
  · rw [List.mem_singleton] at ha; subst ha; exact ⟨hp, hF⟩
theorem Grow.trans {F H F1 H1 F2 H2 : Hp} {p q : List Addr} (a : Grow F H F1 H1 p) (b : Grow F1 H1 F2 H2 q) : Grow F H F2 H2 q := by
  refine ⟨a.sH.trans b.sH, a.sF.trans b.sF, b.fH, fun c o e => ?_, fun c hc => ⟨a.sH.free (b.fpn c hc).1, (b.fpn c hc).2⟩⟩
  rcases b.fn c o e with h | h
  · exact a.fn c o h
  · exact .inr (a.sH.free h)

def lastFp (n : Nat) (fp : Nat → List Addr) (q : List Addr) : Nat → List Addr := fun i => if i < n then fp i else if i = n then q else []
section
variable {G : Glob} {P F0 F H : Hp} {ε : Env} {σ : L2.St} {fp : Nat → List Addr}
/-- things are made, and one of them is put on top -/
theorem Rel.push {F' H' : Hp} {v : V} {m : M} {q : List Addr} (R : Rel G P F0 F ε σ H fp) (g : Grow F H F' H' q) (o : Own G F' H' v m q) :
    Rel G P F0 F' (ε ++ [some m]) (σ ++ [some v]) H' (lastFp ε.length fp q) := by
  have keep : ∀ i a, a ∈ fp i → H' a = H a := fun i a h => by
    cases e : H a with
    | none => exact absurd e (R.trk i a h)
    | some u => exact g.sH a u e
  have mem : ∀ i a, a ∈ lastFp ε.length fp q i → a ∈ fp i ∧ i < ε.length ∨ a ∈ q ∧ i = ε.length := fun i a h => by
    unfold lastFp at h
    split at h
    · exact .inl ⟨h, ‹_›⟩
    · split at h
      · exact .inr ⟨h, ‹_›⟩
      · cases h
  have newP : ∀ a, H a = none → P a = none := fun a h => R.pH.free h
  refine ⟨by rw [List.length_append, List.length_append, R.len]; rfl, fun i k e => ?_, fun i j a hi hj => ?_, fun i a hi => ?_, fun i a hi => ?_, R.pH.trans g.sH, g.fH, R.f0.trans g.sF, fun a u e => ?_⟩
  · by_cases hi : i < ε.length
    · rw [List.getElem?_append_left hi] at e
      obtain ⟨w, h1, h2⟩ := R.own i k e
      refine ⟨w, by rw [List.getElem?_append_left (by rw [← R.len]; exact hi)]; exact h1, ?_⟩
      show Own G F' H' w k (if i < ε.length then fp i else _)
      rw [if_pos hi]
      exact h2.mono g.sF fun a h => keep i a h
    · have hi' : i = ε.length := by
        have := (List.getElem?_eq_some_iff.mp e).1
        rw [List.length_append, List.length_singleton] at this
        omega
      subst hi'
      rw [List.getElem?_append_right (Nat.le_refl _), Nat.sub_self] at e
      simp at e
      subst e
      refine ⟨v, by rw [R.len, List.getElem?_append_right (Nat.le_refl _), Nat.sub_self]; rfl, ?_⟩
      show Own G F' H' v m (if ε.length < ε.length then _ else if ε.length = ε.length then q else [])
      rw [if_neg (Nat.lt_irrefl _), if_pos rfl]
      exact o
  · rcases mem i a hi with ⟨h1, h2⟩ | ⟨h1, h2⟩ <;> rcases mem j a hj with ⟨h3, h4⟩ | ⟨h3, h4⟩
    · exact R.dis i j a h1 h3
    · exact absurd (g.fpn a h3).1 (R.trk i a h1)
    · exact absurd (g.fpn a h1).1 (R.trk j a h3)
    · rw [h2, h4]
  · rcases mem i a hi with ⟨h1, h2⟩ | ⟨h1, h2⟩
    · refine ⟨?_, (R.nof i a h1).2⟩
      cases e : F' a with
      | none => rfl
      | some u =>
        rcases g.fn a u e with z | z
        · rw [(R.nof i a h1).1] at z; cases z
        · exact absurd z (R.trk i a h1)
    · exact ⟨(g.fpn a h1).2, newP a (g.fpn a h1).1⟩
  · rcases mem i a hi with ⟨h1, h2⟩ | ⟨h1, h2⟩
    · rw [keep i a h1]; exact R.trk i a h1
    · exact o.tracked a h1
  · rcases g.fn a u e with z | z
    · exact R.new a u z
    · exact .inr (newP a z)
/-- a mark on top -/
theorem Rel.pushN (R : Rel G P F0 F ε σ H fp) (x : Option V) : Rel G P F0 F (ε ++ [none]) (σ ++ [x]) H (lastFp ε.length fp []) := by
  have mem : ∀ i a, a ∈ lastFp ε.length fp [] i → a ∈ fp i := fun i a h => by
    unfold lastFp at h
    split at h
    · exact h
    · split at h <;> cases h
  refine ⟨by rw [List.length_append, List.length_append, R.len]; rfl, fun i k e => ?_, fun i j a hi hj => R.dis i j a (mem i a hi) (mem j a hj), fun i a hi => R.nof i a (mem i a hi), fun i a hi => R.trk i a (mem i a hi), R.pH, R.fH, R.f0, R.new⟩
  by_cases hi : i < ε.length
  · rw [List.getElem?_append_left hi] at e
    obtain ⟨w, h1, h2⟩ := R.own i k e
    refine ⟨w, by rw [List.getElem?_append_left (by rw [← R.len]; exact hi)]; exact h1, ?_⟩
    show Own G F H w k (if i < ε.length then fp i else _)
    rw [if_pos hi]
    exact h2
  · have hi' : i = ε.length := by
      have := (List.getElem?_eq_some_iff.mp e).1
      rw [List.length_append, List.length_singleton] at this
      omega
    subst hi'
    rw [List.getElem?_append_right (Nat.le_refl _), Nat.sub_self] at e
    simp at e
/-- what is on top is dropped -/
theorem Rel.pop {ts : Env} {vs : L2.St} (hl : ε.length = σ.length) (R : Rel G P F0 F (ε ++ ts) (σ ++ vs) H fp) : Rel G P F0 F ε σ H fp := by
  refine ⟨hl, fun i k e => ?_, R.dis, R.nof, R.trk, R.pH, R.fH, R.f0, R.new⟩
  have hi : i < ε.length := (List.getElem?_eq_some_iff.mp e).1
  obtain ⟨w, h1, h2⟩ := R.own i k (by rw [List.getElem?_append_left hi]; exact e)
  exact ⟨w, by rw [List.getElem?_append_left (by rw [← hl]; exact hi)] at h1; exact h1, h2⟩
/-- some slots are forgotten -/
theorem Rel.weak {ε' : Env} (R : Rel G P F0 F ε σ H fp) (hl : ε'.length = ε.length) (h : ∀ (i : Nat) (m : M), ε'[i]? = some (some m) → ε[i]? = some (some m)) : Rel G P F0 F ε' σ H fp :=
  ⟨hl.trans R.len, fun i m e => R.own i m (h i m e), R.dis, R.nof, R.trk, R.pH, R.fH, R.f0, R.new⟩
end
end Sw

/-! SwB: the judgements of the mirror: expressions, tests, arguments, statements; names, constants, operators. -/
namespace Sw
open PySem PySem.Spec PyProof.Rows L2

inductive Rs (α : Type) where
  | ok (a : α) (ε : Env)
  | exc (x : Ex) (ε : Env)
  | no
def Rs.bind {α β : Type} (r : Rs α) (f : α → Env → Rs β) : Rs β :=
  match r with
  | .ok a ε => f a ε
  | .exc x ε => .exc x ε
  | .no => .no
/-- a value in hand: a thing of its own, or the name at a slot -/
inductive T where
  | val (m : M)
  | var (i : Nat)
def T.slot : T → Option M
  | .val m => some m
  | .var _ => none
def look (ε : Env) : T → Option M
  | .val m => some m
  | .var i => (ε[i]?).join
abbrev Ev := Env → Rs T
abbrev Tv := Env → Rs Bool
abbrev Av := Env → Rs (List T)
inductive SR where
  | nx (ε : Env)
  | rt (m : M) (ε : Env)
  | bk (ε : Env)
  | ct (ε : Env)
  | ex (x : Ex) (ε : Env)
  | no
abbrev Sv := Env → SR
def liftO {α : Type} (o : Option α) (f : α → Rs T) : Rs T :=
  match o with
  | some a => f a
  | none => .no

abbrev gl (X : L2.Cx) : Glob := ⟨X.K, X.mg⟩

def ExOk (G : Glob) (x : Ex) (cls : Value) (d : Option Addr) (H : Hp) : Prop :=
  ∃ Ca, G.mg x.1 = some (.ref Ca) ∧ cls = .ref Ca ∧ match x.2 with
    | none => d = none
    | some n => ∃ a v, d = some a ∧ H a = some (.xd [("number", v)]) ∧ Rep G.K H v n

def TOk (σ : L2.St) (t : T) (v : V) : Prop := ∀ i, t = .var i → σ[i]? = some (some v)

/-- what is wanted of a run's end; an exception's wish is for any state -/
def Got {α : Type} (G : Glob) (W : WX) (P F0 : Hp) (ts : Env) (vs σ : L2.St) (r : Rs α) (K : α → Env → Prop) : Prop :=
  match r with
  | .ok a ε' => K a ε'
  | .exc x ε' => ∀ F' H' fp' cls d, ε'.length = σ.length → Rel G P F0 F' (ε' ++ ts) (σ ++ vs) H' fp' → ExOk G x cls d H' → W cls d σ H'
  | .no => False
/-- an expression's reading by its mirror -/
def tE (G : Glob) (W : WX) (ev : Ev) : TE := fun σ H Q => ∃ (P F0 F : Hp) (fp : Nat → List Addr) (ε ts : Env) (vs : L2.St),
  Rel G P F0 F (ε ++ ts) (σ ++ vs) H fp ∧ ε.length = σ.length ∧ Got G W P F0 ts vs σ (ev ε) fun t ε' =>
    ∀ F' H' fp' v, ε'.length = σ.length → Rel G P F0 F' (ε' ++ (ts ++ [t.slot])) (σ ++ (vs ++ [some v])) H' fp' → TOk σ t v → Q v H'
def tT (G : Glob) (W : WX) (cv : Tv) : TT := fun σ H Q => ∃ (P F0 F : Hp) (fp : Nat → List Addr) (ε ts : Env) (vs : L2.St),
  Rel G P F0 F (ε ++ ts) (σ ++ vs) H fp ∧ ε.length = σ.length ∧ Got G W P F0 ts vs σ (cv ε) fun b ε' =>
    ∀ F' H' fp', ε'.length = σ.length → Rel G P F0 F' (ε' ++ ts) (σ ++ vs) H' fp' → Q b H'
def tA (G : Glob) (W : WX) (av : Av) : TA := fun σ H Q => ∃ (P F0 F : Hp) (fp : Nat → List Addr) (ε ts : Env) (vs : L2.St),
  Rel G P F0 F (ε ++ ts) (σ ++ vs) H fp ∧ ε.length = σ.length ∧ Got G W P F0 ts vs σ (av ε) fun l ε' =>
    ∀ F' H' fp' us, ε'.length = σ.length → Rel G P F0 F' (ε' ++ (ts ++ l.map T.slot)) (σ ++ (vs ++ us.map some)) H' fp' → Paired (TOk σ) l us → Q us H'
def Keeps (A : List Nat) (σ σ' : L2.St) : Prop := σ'.length = σ.length ∧ ∀ i, i ∉ A → σ'[i]? = σ[i]?
/-- what is wanted of a statement's end; A: the slots it may store to -/
def GotS (G : Glob) (W : WX) (A : List Nat) (P F0 : Hp) (ts : Env) (vs σ : L2.St) (D : Ends) (r : SR) : Prop :=
  match r with
  | .nx ε' => ∀ F' H' fp' σ', ε'.length = σ.length → Keeps A σ σ' → Rel G P F0 F' (ε' ++ ts) (σ' ++ vs) H' fp' → D.nx σ' H'
  | .bk ε' => ∀ F' H' fp' σ', ε'.length = σ.length → Keeps A σ σ' → Rel G P F0 F' (ε' ++ ts) (σ' ++ vs) H' fp' → D.bk σ' H'
  | .ct ε' => ∀ F' H' fp' σ', ε'.length = σ.length → Keeps A σ σ' → Rel G P F0 F' (ε' ++ ts) (σ' ++ vs) H' fp' → D.ct σ' H'
  | .rt m ε' => ∀ F' H' fp' σ' v, ε'.length = σ.length → Keeps A σ σ' → Rel G P F0 F' (ε' ++ (ts ++ [some m])) (σ' ++ (vs ++ [some v])) H' fp' → D.rt v H'
  | .ex x ε' => ∀ F' H' fp' σ' cls d, ε'.length = σ.length → Keeps A σ σ' → Rel G P F0 F' (ε' ++ ts) (σ' ++ vs) H' fp' → ExOk G x cls d H' → W cls d σ' H'
  | .no => False
def tS (G : Glob) (W : WX) (A : List Nat) (sv : Sv) : TS := fun D σ H => ∃ (P F0 F : Hp) (fp : Nat → List Addr) (ε ts : Env) (vs : L2.St),
  Rel G P F0 F (ε ++ ts) (σ ++ vs) H fp ∧ ε.length = σ.length ∧ GotS G W A P F0 ts vs σ D (sv ε)

theorem Keeps.refl (A : List Nat) (σ : L2.St) : Keeps A σ σ := ⟨rfl, fun _ _ => rfl⟩
theorem Keeps.trans {A : List Nat} {a b c : L2.St} (h : Keeps A a b) (k : Keeps A b c) : Keeps A a c := ⟨k.1.trans h.1, fun i n => (k.2 i n).trans (h.2 i n)⟩
theorem Keeps.set {A : List Nat} {σ : L2.St} {i : Nat} {x : Option V} (h : i ∈ A) : Keeps A σ (σ.set i x) := ⟨List.length_set, fun j n => List.getElem?_set_ne (fun e => by subst e; exact n h)⟩

theorem PE.imp {X : L2.Cx} {e : Expr} {t t' : TE} (h : PE X e t) (k : ∀ σ H Q, t' σ H Q → t σ H Q) : PE X e t' := ⟨fun pins s σ H Q I hw => h.run pins s σ H Q I (k σ H Q hw)⟩
theorem PT.imp {X : L2.Cx} {e : Expr} {t t' : TT} (h : PT X e t) (k : ∀ σ H Q, t' σ H Q → t σ H Q) : PT X e t' := ⟨fun pins s σ H Q I hw => h.run pins s σ H Q I (k σ H Q hw)⟩
theorem PW.imp {X : L2.Cx} {e : Expr} {t t' : TT} (h : PW X e t) (k : ∀ σ H Q, t' σ H Q → t σ H Q) : PW X e t' := ⟨fun whole pins s σ H Q I hw => h.run whole pins s σ H Q I (k σ H Q hw)⟩
theorem PA.imp {X : L2.Cx} {e : List Expr} {t t' : TA} (h : PA X e t) (k : ∀ σ H Q, t' σ H Q → t σ H Q) : PA X e t' := ⟨fun pos pins s σ H Q I hw => h.run pos pins s σ H Q I (k σ H Q hw)⟩
theorem PS.imp {X : L2.Cx} {e : Stmt} {t t' : TS} (h : PS X e t) (k : ∀ D σ H, t' D σ H → t D σ H) : PS X e t' := ⟨fun pins s σ H D I hw => h.run pins s σ H D I (k D σ H hw)⟩
theorem PSs.imp {X : L2.Cx} {e : List Stmt} {t t' : TS} (h : PSs X e t) (k : ∀ D σ H, t' D σ H → t D σ H) : PSs X e t' := ⟨fun pins s σ H D I hw => h.run pins s σ H D I (k D σ H hw)⟩

section
variable {G : Glob} {P F0 F H : Hp} {ε ts : Env} {σ vs : L2.St} {fp : Nat → List Addr}
theorem get_ts (hl : ε.length = σ.length) {j : Nat} {t : T} {v : V} {m : M} (R : Rel G P F0 F (ε ++ ts) (σ ++ vs) H fp) (h1 : ts[j]? = some t.slot) (h2 : vs[j]? = some (some v)) (ok : TOk σ t v) (e : look ε t = some m) :
    ∃ p, Own G F H v m p := by
  cases t with
  | val k =>
    cases (show some k = some m from e)
    obtain ⟨w, q1, q2⟩ := R.own (ε.length + j) m (by
      rw [List.getElem?_append_right (Nat.le_add_right _ _), Nat.add_sub_cancel_left]
      exact h1)
    rw [hl, List.getElem?_append_right (Nat.le_add_right _ _), Nat.add_sub_cancel_left, h2] at q1
    cases q1
    exact ⟨_, q2⟩
  | var i =>
    have hv := ok i rfl
    have hi : i < σ.length := (List.getElem?_eq_some_iff.mp hv).1
    have e' : ε[i]? = some (some m) := by
      have e : (ε[i]?).join = some m := e
      cases q : ε[i]? with
      | none => rw [q] at e; cases e
      | some o =>
        rw [q] at e
        simp at e
        rw [e]
    obtain ⟨w, q1, q2⟩ := R.own i m (by rw [List.getElem?_append_left (by rw [hl]; exact hi)]; exact e')
    rw [List.getElem?_append_left hi, hv] at q1
    cases q1
    exact ⟨_, q2⟩
theorem get_last (hl : ε.length = σ.length) {t : T} {v : V} {m : M} (R : Rel G P F0 F (ε ++ (ts ++ [t.slot])) (σ ++ (vs ++ [some v])) H fp) (ok : TOk σ t v) (e : look ε t = some m) : ∃ p, Own G F H v m p := by
  have hz : (ts ++ [t.slot]).length = (vs ++ [some v]).length := by
    have := R.len
    simp only [List.length_append] at this ⊢
    omega
  have hz' : ts.length = vs.length := by
    simp only [List.length_append, List.length_singleton] at hz
    omega
  refine get_ts hl (j := ts.length) R ?_ ?_ ok e
  · rw [List.getElem?_append_right (Nat.le_refl _), Nat.sub_self]
    rfl
  · rw [hz', List.getElem?_append_right (Nat.le_refl _), Nat.sub_self]
    rfl
theorem slot_val (t : T) (m : M) (h : t = .val m) : t.slot = some m := by rw [h]; rfl
theorem Rel.drop1 {x : Option M} {y : Option V} (hl : ε.length = σ.length) (R : Rel G P F0 F (ε ++ (ts ++ [x])) (σ ++ (vs ++ [y])) H fp) : Rel G P F0 F (ε ++ ts) (σ ++ vs) H fp := by
  have hz := R.len
  rw [List.length_append, List.length_append, List.length_append, List.length_append] at hz
  rw [← List.append_assoc, ← List.append_assoc] at R
  refine Rel.pop ?_ R
  rw [List.length_append, List.length_append]
  simp at hz
  omega
theorem Rel.push' {F' H' : Hp} {v : V} {m : M} {q : List Addr} (R : Rel G P F0 F (ε ++ ts) (σ ++ vs) H fp) (g : Grow F H F' H' q) (o : Own G F' H' v m q) :
    ∃ fp', Rel G P F0 F' (ε ++ (ts ++ [some m])) (σ ++ (vs ++ [some v])) H' fp' := by
  have := R.push g o
  rw [List.append_assoc, List.append_assoc] at this
  exact ⟨_, this⟩
theorem Rel.pushN' (R : Rel G P F0 F (ε ++ ts) (σ ++ vs) H fp) (x : Option V) : ∃ fp', Rel G P F0 F (ε ++ (ts ++ [none])) (σ ++ (vs ++ [x])) H fp' := by
  have := R.pushN x
  rw [List.append_assoc, List.append_assoc] at this
  exact ⟨_, this⟩
/-- a scalar on top -/
theorem Rel.pushS {v : V} {d : D} (R : Rel G P F0 F (ε ++ ts) (σ ++ vs) H fp) (r : Rep G.K F v d) : ∃ fp', Rel G P F0 F (ε ++ (ts ++ [some (.fz d)])) (σ ++ (vs ++ [some v])) H fp' :=
  R.push' (Grow.refl R.fH) (.fz r)
end

section
variable {α β : Type} {G : Glob} {W : WX} {P F0 : Hp} {ts : Env} {vs σ : L2.St}
theorem Got.mono {r : Rs α} {K K' : α → Env → Prop} (h : Got G W P F0 ts vs σ r K) (k : ∀ a ε, K a ε → K' a ε) : Got G W P F0 ts vs σ r K' := by
  cases r with
  | ok a ε => exact k a ε h
  | exc x ε => exact h
  | no => exact h
theorem Got.bind {r : Rs α} {f : α → Env → Rs β} {K : β → Env → Prop} (h : Got G W P F0 ts vs σ (r.bind f) K) : Got G W P F0 ts vs σ r fun a ε => Got G W P F0 ts vs σ (f a ε) K := by
  cases r with
  | ok a ε => exact h
  | exc x ε => exact h
  | no => exact h
theorem Got.drop1 {r : Rs α} {K : α → Env → Prop} {x : Option M} {y : Option V} (h : Got G W P F0 ts vs σ r K) : Got G W P F0 (ts ++ [x]) (vs ++ [y]) σ r K := by
  cases r with
  | ok a ε => exact h
  | exc x ε => exact fun F' H' fp' cls d l R e => h F' H' fp' cls d l (R.drop1 l) e
  | no => exact h
end
/-! ### names and constants -/
section
variable {X : L2.Cx} {W : WX}
def eVar (i : Nat) : Ev := fun ε => match ε[i]? with
  | some (some _) => .ok (.var i) ε
  | _ => .no
theorem se_var {i : Nat} {x : Str} {pos : Pos} (hN : X.N[i]? = some x) (hv : Vis X.env.scope x) (hd : (x == ("__debug__" : Str)) = false := by decide) (hcd : (x == ("__classdict__" : Str)) = false := by decide) : PE X (.Name x pos) (tE (gl X) W (eVar i)) := by
  refine PE.imp (pe_var hN hv hd hcd) fun σ H Q h => ?_
  obtain ⟨P, F0, F, fp, ε, ts, vs, R, hl, h⟩ := h
  unfold eVar at h
  rcases e : ε[i]? with _ | _ | m
  · rw [e] at h
    exact h.elim
  · rw [e] at h
    exact h.elim
  · rw [e] at h
    dsimp only at h
    have hi : i < ε.length := (List.getElem?_eq_some_iff.mp e).1
    obtain ⟨v, q1, q2⟩ := R.own i m (by rw [List.getElem?_append_left hi]; exact e)
    rw [List.getElem?_append_left (by rw [← hl]; exact hi)] at q1
    obtain ⟨fp', R'⟩ := R.pushN' (some v)
    exact ⟨v, q1, h F H fp' v hl R' fun j hj => by cases hj; exact q1⟩
def eC (d : D) : Ev := fun ε => .ok (.val (.fz d)) ε
theorem tC_E {G : Glob} {v : V} {d : D} (r : ∀ H, Rep G.K H v d) (σ : L2.St) (H : Hp) (Q : VK) (h : tE G W (eC d) σ H Q) : tC v σ H Q := by
  obtain ⟨P, F0, F, fp, ε, ts, vs, R, hl, h⟩ := h
  obtain ⟨fp', R'⟩ := R.pushS (r F)
  exact h F H fp' v hl R' fun j hj => by cases hj
theorem se_int {i : Int} {j : Nat} {pos : Pos} : PE X (.Constant (.int i) j pos) (tE (gl X) W (eC (.int i))) := PE.imp pe_int (tC_E fun _ => .int i)
theorem se_bl {b : Bool} {j : Nat} {pos : Pos} : PE X (.Constant (.bool b) j pos) (tE (gl X) W (eC (.bool b))) := PE.imp pe_bl (tC_E fun _ => .bl b)
theorem se_non {j : Nat} {pos : Pos} : PE X (.Constant .none j pos) (tE (gl X) W (eC .none)) := PE.imp pe_non (tC_E fun _ => .non)
theorem se_str {x : Str} {j : Nat} {pos : Pos} (hx : PyData.strOk x = true ∧ decide (x.length ≤ sizeLine) = true) : PE X (.Constant (.str x) j pos) (tE (gl X) W (eC (.str x))) := PE.imp pe_str (tC_E fun _ => .str x ⟨hx.1, of_decide_eq_true hx.2⟩)
/-- a constant of the module -/
theorem se_glob {x : Str} {v : V} {u : Value} {d : D} {pos : Pos} (hg : Gl X x) (hm : X.mg x = some u) (r : RelV v u) (hr : ∀ H, Rep X.K H v d) (hd : (x == ("__debug__" : Str)) = false := by decide) : PE X (.Name x pos) (tE (gl X) W (eC d)) :=
  PE.imp (pe_glob hg hm r hd) (tC_E hr)
end

/-! ### two operands -/
def Spec2 (G : Glob) (r : R2) (f : M → M → Option M) : Prop := ∀ (F H : Hp) (x y : V) (m n k : M) (p q : List Addr) (Q : VK), Same F H → Own G F H x m p → Own G F H y n q → f m n = some k →
  (∀ F' H' v fp, Grow F H F' H' fp → Own G F' H' v k fp → Q v H') → r x y H Q
def app2 (f : M → M → Option M) (ε : Env) (t u : T) : Option M :=
  match look ε t, look ε u with
  | some m, some n => f m n
  | _, _ => none
def retO (ε : Env) : Option M → Rs T
  | some k => .ok (.val k) ε
  | none => .no
def eBin (f : M → M → Option M) (a b : Ev) : Ev := fun ε => (a ε).bind fun t ε1 => (b ε1).bind fun u ε2 => retO ε2 (app2 f ε2 t u)
theorem app2_some {f : M → M → Option M} {ε : Env} {t u : T} {k : M} (h : app2 f ε t u = some k) : ∃ m n, look ε t = some m ∧ look ε u = some n ∧ f m n = some k := by
  unfold app2 at h
  cases e1 : look ε t with
  | none => rw [e1] at h; cases h
  | some m =>
    cases e2 : look ε u with
    | none => rw [e1, e2] at h; cases h
    | some n => rw [e1, e2] at h; exact ⟨m, n, rfl, rfl, h⟩
theorem Got.retO {G : Glob} {W : WX} {P F0 : Hp} {ts : Env} {vs σ : L2.St} {ε : Env} {o : Option M} {K : T → Env → Prop} (h : Got G W P F0 ts vs σ (retO ε o) K) : ∃ k, o = some k ∧ K (.val k) ε := by
  cases o with
  | none => exact h.elim
  | some k => exact ⟨k, rfl, h⟩
theorem eBin_run {G : Glob} {W : WX} {r : R2} {f : M → M → Option M} (sp : Spec2 G r f) {a b : Ev} (σ : L2.St) (H : Hp) (Q : VK) (h : tE G W (eBin f a b) σ H Q) : tOp r (tE G W a) (tE G W b) σ H Q := by
  obtain ⟨P, F0, F, fp, ε, ts, vs, R, hl, h⟩ := h
  refine ⟨P, F0, F, fp, ε, ts, vs, R, hl, Got.mono (Got.bind h) fun t ε1 h F1 H1 fp1 v1 l1 R1 ok1 => ?_⟩
  refine ⟨P, F0, F1, fp1, ε1, ts ++ [t.slot], vs ++ [some v1], R1, l1, Got.drop1 (Got.mono (Got.bind h) fun u ε2 h F2 H2 fp2 v2 l2 R2 ok2 => ?_)⟩
  obtain ⟨k, ek, h⟩ := Got.retO h
  obtain ⟨m, n, em, en, ek⟩ := app2_some ek
  have R3 := R2.drop1 l2
  obtain ⟨p, o1⟩ := get_last l2 R3 ok1 em
  obtain ⟨q, o2⟩ := get_last l2 R2 ok2 en
  refine sp F2 H2 v1 v2 m n k p q Q R2.fH o1 o2 ek fun F' H' v fp' g o => ?_
  obtain ⟨fp4, R4⟩ := (R3.drop1 l2).push' g o
  exact h F' H' fp4 v l2 R4 fun j hj => by cases hj
section
variable {X : L2.Cx} {W : WX} {a b : Expr} {va vb : Ev} {pos : Pos} {f : M → M → Option M} {r : R2}
theorem se_bin {op : Operator} (ho : OpR X (binaryOp op) r) (sp : Spec2 (gl X) r f) (ha : PE X a (tE (gl X) W va)) (hb : PE X b (tE (gl X) W vb)) : PE X (.BinOp a op b pos) (tE (gl X) W (eBin f va vb)) :=
  PE.imp (pe_op ho ha hb) (eBin_run sp)
theorem se_cmp {op : CmpOp} (ho : OpR X (compareOp op) r) (sp : Spec2 (gl X) r f) (ha : PE X a (tE (gl X) W va)) (hb : PE X b (tE (gl X) W vb)) (hm : behindInMarks op b = false) : PE X (.Compare a [op] [b] pos) (tE (gl X) W (eBin f va vb)) :=
  PE.imp (pe_cmpR ho ha hb hm) (eBin_run sp)
end
end Sw

/-! SwC: tests, and or not, chains, arguments, displays, calls of built-ins and of defs. -/
namespace Sw
open PySem PySem.Spec PyProof.Rows L2

/-! ### tests -/
def asB (ev : Ev) : Tv := fun ε => (ev ε).bind fun t ε1 => match look ε1 t with
  | some (.fz (.bool c)) => .ok c ε1
  | _ => .no
theorem Got.asB {G : Glob} {W : WX} {P F0 : Hp} {ts : Env} {vs σ : L2.St} {ε : Env} {t : T} {K : Bool → Env → Prop}
    (h : Got G W P F0 ts vs σ (match look ε t with | some (.fz (.bool c)) => Rs.ok c ε | _ => .no) K) : ∃ c, look ε t = some (.fz (.bool c)) ∧ K c ε := by
  split at h
  · rename_i c e
    exact ⟨c, e, h⟩
  · exact h.elim
theorem asB_run {G : Glob} {W : WX} {ev : Ev} (σ : L2.St) (H : Hp) (Q : Bool → Hp → Prop) (h : tT G W (asB ev) σ H Q) : tE G W ev σ H fun x H' => ∃ k, x = .bl k ∧ Q k H' := by
  obtain ⟨P, F0, F, fp, ε, ts, vs, R, hl, h⟩ := h
  refine ⟨P, F0, F, fp, ε, ts, vs, R, hl, Got.mono (Got.bind h) fun t ε1 h F1 H1 fp1 v1 l1 R1 ok1 => ?_⟩
  obtain ⟨c, e, h⟩ := Got.asB h
  obtain ⟨p, o⟩ := get_last l1 R1 ok1 e
  obtain ⟨r, _⟩ := o.rep
  cases r
  exact ⟨c, rfl, h F1 H1 fp1 l1 (R1.drop1 l1)⟩
section
variable {X : L2.Cx} {W : WX} {a b c : Expr} {va vb vc : Ev} {ta tb : Tv} {pos : Pos}
theorem st_val (h : PE X a (tE (gl X) W va)) (he : ∀ whole, isTrue a X.env whole = (do let v ← whole; standAt a.pos; holding [v] (truthy v)) := by intro _; rfl) : PT X a (tT (gl X) W (asB va)) :=
  PT.imp (pt_val h he) (asB_run)
theorem st_cmp {f : M → M → Option M} {r : R2} {op : CmpOp} (ho : OpR X (compareOp op) r) (sp : Spec2 (gl X) r f) (ha : PE X a (tE (gl X) W va)) (hb : PE X b (tE (gl X) W vb)) (hm : behindInMarks op b = false) :
    PT X (.Compare a [op] [b] pos) (tT (gl X) W (asB (eBin f va vb))) :=
  PT.imp (pt_cmpR ho ha hb hm) fun σ H Q h => eBin_run sp σ H _ (asB_run σ H Q h)
def cNot (a : Tv) : Tv := fun ε => (a ε).bind fun c ε1 => .ok (!c) ε1
theorem st_not (h : PT X a (tT (gl X) W ta)) : PT X (.UnaryOp .Not a pos) (tT (gl X) W (cNot ta)) := PT.imp (pt_not h) fun σ H Q h => by
  obtain ⟨P, F0, F, fp, ε, ts, vs, R, hl, h⟩ := h
  exact ⟨P, F0, F, fp, ε, ts, vs, R, hl, Got.mono (Got.bind h) fun c ε1 h => h⟩
def cAnd (a b : Tv) : Tv := fun ε => (a ε).bind fun c ε1 => if c = true then b ε1 else .ok false ε1
def cOr (a b : Tv) : Tv := fun ε => (a ε).bind fun c ε1 => if c = true then .ok true ε1 else b ε1
theorem sw_and1 (ha : PT X a (tT (gl X) W ta)) : PW X (.BoolOp .And [a] pos) (tT (gl X) W ta) := pw_and1 ha
theorem sw_or1 (ha : PT X a (tT (gl X) W ta)) : PW X (.BoolOp .Or [a] pos) (tT (gl X) W ta) := pw_or1 ha
theorem sw_and {rest : List Expr} (ha : PT X a (tT (gl X) W ta)) (hb : PW X (.BoolOp .And (b :: rest) pos) (tT (gl X) W tb)) : PW X (.BoolOp .And (a :: b :: rest) pos) (tT (gl X) W (cAnd ta tb)) := PW.imp (pw_and ha hb) fun σ H Q h => by
  obtain ⟨P, F0, F, fp, ε, ts, vs, R, hl, h⟩ := h
  refine ⟨P, F0, F, fp, ε, ts, vs, R, hl, Got.mono (Got.bind h) fun c ε1 h F1 H1 fp1 l1 R1 => ?_⟩
  cases c with
  | true => exact ⟨P, F0, F1, fp1, ε1, ts, vs, R1, l1, h⟩
  | false => exact h F1 H1 fp1 l1 R1
theorem sw_or {rest : List Expr} (ha : PT X a (tT (gl X) W ta)) (hb : PW X (.BoolOp .Or (b :: rest) pos) (tT (gl X) W tb)) : PW X (.BoolOp .Or (a :: b :: rest) pos) (tT (gl X) W (cOr ta tb)) := PW.imp (pw_or ha hb) fun σ H Q h => by
  obtain ⟨P, F0, F, fp, ε, ts, vs, R, hl, h⟩ := h
  refine ⟨P, F0, F, fp, ε, ts, vs, R, hl, Got.mono (Got.bind h) fun c ε1 h F1 H1 fp1 l1 R1 => ?_⟩
  cases c with
  | true => exact h F1 H1 fp1 l1 R1
  | false => exact ⟨P, F0, F1, fp1, ε1, ts, vs, R1, l1, h⟩
/-- and, or as values: all but the last True or False -/
def ofB (c : Bool) (ε : Env) : Rs T := .ok (.val (.fz (.bool c))) ε
def eAnd (a b : Ev) : Ev := fun ε => (asB a ε).bind fun c ε1 => if c = true then b ε1 else ofB false ε1
def eOr (a b : Ev) : Ev := fun ε => (asB a ε).bind fun c ε1 => if c = true then ofB true ε1 else b ε1
def eNot (a : Ev) : Ev := fun ε => (asB a ε).bind fun c ε1 => ofB (!c) ε1
theorem asB_got {G : Glob} {W : WX} {P F0 : Hp} {ts : Env} {vs σ : L2.St} {ev : Ev} {ε : Env} {K : Bool → Env → Prop} (h : Got G W P F0 ts vs σ (asB ev ε) K) : Got G W P F0 ts vs σ (ev ε) fun t ε1 => ∃ c, look ε1 t = some (.fz (.bool c)) ∧ K c ε1 :=
  Got.mono (Got.bind h) fun t ε1 h => Got.asB h
theorem bool_at {G : Glob} {P F0 F H : Hp} {ε ts : Env} {σ vs : L2.St} {fp : Nat → List Addr} {t : T} {v : V} {c : Bool} (hl : ε.length = σ.length) (R : Rel G P F0 F (ε ++ (ts ++ [t.slot])) (σ ++ (vs ++ [some v])) H fp) (ok : TOk σ t v) (e : look ε t = some (.fz (.bool c))) : v = .bl c := by
  obtain ⟨p, o⟩ := get_last hl R ok e
  obtain ⟨r, _⟩ := o.rep
  cases r
  rfl
theorem push_bl {G : Glob} {P F0 F H : Hp} {ε ts : Env} {σ vs : L2.St} {fp : Nat → List Addr} (R : Rel G P F0 F (ε ++ ts) (σ ++ vs) H fp) (c : Bool) : ∃ fp', Rel G P F0 F (ε ++ (ts ++ [some (.fz (.bool c))])) (σ ++ (vs ++ [some (.bl c)])) H fp' := R.pushS (.bl c)
theorem se_one {op : BoolOp} (h : PE X a (tE (gl X) W va)) : PE X (.BoolOp op [a] pos) (tE (gl X) W va) := pe_one h
theorem se_and {rest : List Expr} (ha : PE X a (tE (gl X) W va)) (hb : PE X (.BoolOp .And (b :: rest) pos) (tE (gl X) W vb)) : PE X (.BoolOp .And (a :: b :: rest) pos) (tE (gl X) W (eAnd va vb)) := PE.imp (pe_and ha hb) fun σ H Q h => by
  obtain ⟨P, F0, F, fp, ε, ts, vs, R, hl, h⟩ := h
  refine ⟨P, F0, F, fp, ε, ts, vs, R, hl, Got.mono (asB_got (Got.bind h)) fun t ε1 h F1 H1 fp1 v1 l1 R1 ok1 => ?_⟩
  obtain ⟨c, e, h⟩ := h
  refine ⟨c, bool_at l1 R1 ok1 e, ?_⟩
  have R2 := R1.drop1 l1
  cases c with
  | true => exact ⟨P, F0, F1, fp1, ε1, ts, vs, R2, l1, h⟩
  | false =>
    obtain ⟨fp2, R3⟩ := push_bl R2 false
    exact h F1 H1 fp2 _ l1 R3 fun j hj => by cases hj
theorem se_or {rest : List Expr} (ha : PE X a (tE (gl X) W va)) (hb : PE X (.BoolOp .Or (b :: rest) pos) (tE (gl X) W vb)) : PE X (.BoolOp .Or (a :: b :: rest) pos) (tE (gl X) W (eOr va vb)) := PE.imp (pe_or ha hb) fun σ H Q h => by
  obtain ⟨P, F0, F, fp, ε, ts, vs, R, hl, h⟩ := h
  refine ⟨P, F0, F, fp, ε, ts, vs, R, hl, Got.mono (asB_got (Got.bind h)) fun t ε1 h F1 H1 fp1 v1 l1 R1 ok1 => ?_⟩
  obtain ⟨c, e, h⟩ := h
  refine ⟨c, bool_at l1 R1 ok1 e, ?_⟩
  have R2 := R1.drop1 l1
  cases c with
  | true =>
    obtain ⟨fp2, R3⟩ := push_bl R2 true
    exact h F1 H1 fp2 _ l1 R3 fun j hj => by cases hj
  | false => exact ⟨P, F0, F1, fp1, ε1, ts, vs, R2, l1, h⟩
theorem se_not (ha : PE X a (tE (gl X) W va)) : PE X (.UnaryOp .Not a pos) (tE (gl X) W (eNot va)) := PE.imp (pe_not ha) fun σ H Q h => by
  obtain ⟨P, F0, F, fp, ε, ts, vs, R, hl, h⟩ := h
  refine ⟨P, F0, F, fp, ε, ts, vs, R, hl, Got.mono (asB_got (Got.bind h)) fun t ε1 h F1 H1 fp1 v1 l1 R1 ok1 => ?_⟩
  obtain ⟨c, e, h⟩ := h
  refine ⟨c, bool_at l1 R1 ok1 e, ?_⟩
  obtain ⟨fp2, R3⟩ := push_bl (R1.drop1 l1) (!c)
  exact h F1 H1 fp2 _ l1 R3 fun j hj => by cases hj
def eIf (c : Tv) (a b : Ev) : Ev := fun ε => (c ε).bind fun k ε1 => if k = true then a ε1 else b ε1
theorem se_ifExp {tc : Tv} (hc : PT X c (tT (gl X) W tc)) (ha : PE X a (tE (gl X) W va)) (hb : PE X b (tE (gl X) W vb)) : PE X (.IfExp c a b pos) (tE (gl X) W (eIf tc va vb)) := PE.imp (pe_ifExp hc ha hb) fun σ H Q h => by
  obtain ⟨P, F0, F, fp, ε, ts, vs, R, hl, h⟩ := h
  refine ⟨P, F0, F, fp, ε, ts, vs, R, hl, Got.mono (Got.bind h) fun c ε1 h F1 H1 fp1 l1 R1 => ?_⟩
  cases c with
  | true => exact ⟨P, F0, F1, fp1, ε1, ts, vs, R1, l1, h⟩
  | false => exact ⟨P, F0, F1, fp1, ε1, ts, vs, R1, l1, h⟩
/-- a < b < c -/
def eChain (f g : M → M → Option M) (a b c : Ev) : Ev := fun ε => (a ε).bind fun t ε1 => (b ε1).bind fun u ε2 => match app2 f ε2 t u with
  | some (.fz (.bool k)) => if k = true then (c ε2).bind fun w ε3 => retO ε3 (app2 g ε3 u w) else ofB false ε2
  | _ => .no
theorem eChain_run {G : Glob} {r r' : R2} {f g : M → M → Option M} (sp : Spec2 G r f) (sp' : Spec2 G r' g) (σ : L2.St) (H : Hp) (Q : VK) (h : tE G W (eChain f g va vb vc) σ H Q) : tChain r r' (tE G W va) (tE G W vb) (tE G W vc) σ H Q := by
  obtain ⟨P, F0, F, fp, ε, ts, vs, R, hl, h⟩ := h
  refine ⟨P, F0, F, fp, ε, ts, vs, R, hl, Got.mono (Got.bind h) fun t ε1 h F1 H1 fp1 v1 l1 R1 ok1 => ?_⟩
  refine ⟨P, F0, F1, fp1, ε1, ts ++ [t.slot], vs ++ [some v1], R1, l1, Got.drop1 (Got.mono (Got.bind h) fun u ε2 h F2 H2 fp2 v2 l2 R2 ok2 => ?_)⟩
  have R3 := R2.drop1 l2
  split at h
  · rename_i k e
    obtain ⟨m, n, em, en, ek⟩ := app2_some e
    obtain ⟨p, o1⟩ := get_last l2 R3 ok1 em
    obtain ⟨q, o2⟩ := get_last l2 R2 ok2 en
    refine sp F2 H2 v1 v2 m n _ p q _ R2.fH o1 o2 ek fun F' H' v fp' g' o => ?_
    obtain ⟨rr, _⟩ := o.rep
    cases rr
    refine ⟨k, rfl, ?_⟩
    cases k with
    | false =>
      obtain ⟨fp4, R4⟩ := (R3.drop1 l2).push' g' o
      exact h F' H' fp4 _ l2 R4 fun j hj => by cases hj
    | true =>
      obtain ⟨fp4, R4⟩ := R2.push' g' o
      have R4 := R4.drop1 l2
      refine ⟨P, F0, F', fp4, ε2, _, _, R4, l2, Got.drop1 (Got.drop1 (Got.mono (Got.bind h) fun w ε3 h F5 H5 fp5 v5 l5 R5 ok5 => ?_))⟩
      obtain ⟨k, ek, h⟩ := Got.retO h
      obtain ⟨m, n, em, en, ek⟩ := app2_some ek
      have R6 := R5.drop1 l5
      obtain ⟨p, o1⟩ := get_last l5 R6 ok2 em
      obtain ⟨q, o2⟩ := get_last l5 R5 ok5 en
      refine sp' F5 H5 v2 v5 m n k p q Q R5.fH o1 o2 ek fun F' H' v fp' g o => ?_
      obtain ⟨fp7, R7⟩ := ((R6.drop1 l5).drop1 l5).push' g o
      exact h F' H' fp7 v l5 R7 fun j hj => by cases hj
  · exact h.elim
theorem se_chain {op op' : CmpOp} {r r' : R2} {f g : M → M → Option M} (ho : OpR X (compareOp op) r) (ho' : OpR X (compareOp op') r') (sp : Spec2 (gl X) r f) (sp' : Spec2 (gl X) r' g) (ha : PE X a (tE (gl X) W va)) (hb : PE X b (tE (gl X) W vb))
    (hc : PE X c (tE (gl X) W vc)) (hm : lastMarks [op, op'] [b, c] = false := by with_unfolding_all rfl) : PE X (.Compare a [op, op'] [b, c] pos) (tE (gl X) W (eChain f g va vb vc)) := PE.imp (pe_chain ho ho' ha hb hc hm) (eChain_run sp sp')
theorem st_chain {op op' : CmpOp} {r r' : R2} {f g : M → M → Option M} (ho : OpR X (compareOp op) r) (ho' : OpR X (compareOp op') r') (sp : Spec2 (gl X) r f) (sp' : Spec2 (gl X) r' g) (ha : PE X a (tE (gl X) W va)) (hb : PE X b (tE (gl X) W vb))
    (hc : PE X c (tE (gl X) W vc)) (hm : lastMarks [op, op'] [b, c] = false := by with_unfolding_all rfl) : PT X (.Compare a [op, op'] [b, c] pos) (tT (gl X) W (asB (eChain f g va vb vc))) :=
  PT.imp (pt_chain ho ho' ha hb hc hm) fun σ H Q h => eChain_run sp sp' σ H _ (asB_run σ H Q h)
end

/-! ### one operand -/
def Spec1 (G : Glob) (r : V → Hp → VK → Prop) (f : M → Option M) : Prop := ∀ (F H : Hp) (x : V) (m k : M) (p : List Addr) (Q : VK), Same F H → Own G F H x m p → f m = some k →
  (∀ F' H' v fp, Grow F H F' H' fp → Own G F' H' v k fp → Q v H') → r x H Q
def app1 (f : M → Option M) (ε : Env) (t : T) : Option M := (look ε t).bind f
theorem app1_some {f : M → Option M} {ε : Env} {t : T} {k : M} (h : app1 f ε t = some k) : ∃ m, look ε t = some m ∧ f m = some k := by
  unfold app1 at h
  cases e1 : look ε t with
  | none => rw [e1] at h; cases h
  | some m => rw [e1] at h; exact ⟨m, rfl, h⟩
def eUn (f : M → Option M) (a : Ev) : Ev := fun ε => (a ε).bind fun t ε1 => retO ε1 (app1 f ε1 t)
theorem eUn_run {G : Glob} {W : WX} {r : V → Hp → VK → Prop} {f : M → Option M} (sp : Spec1 G r f) {a : Ev} (σ : L2.St) (H : Hp) (Q : VK) (h : tE G W (eUn f a) σ H Q) : tUn r (tE G W a) σ H Q := by
  obtain ⟨P, F0, F, fp, ε, ts, vs, R, hl, h⟩ := h
  refine ⟨P, F0, F, fp, ε, ts, vs, R, hl, Got.mono (Got.bind h) fun t ε1 h F1 H1 fp1 v1 l1 R1 ok1 => ?_⟩
  obtain ⟨k, ek, h⟩ := Got.retO h
  obtain ⟨m, em, ek⟩ := app1_some ek
  obtain ⟨p, o1⟩ := get_last l1 R1 ok1 em
  refine sp F1 H1 v1 m k p Q R1.fH o1 ek fun F' H' v fp' g o => ?_
  obtain ⟨fp4, R4⟩ := (R1.drop1 l1).push' g o
  exact h F' H' fp4 v l1 R4 fun j hj => by cases hj
theorem se_un {X : L2.Cx} {W : WX} {a : Expr} {va : Ev} {pos : Pos} {op : UnaryOp} {r : V → Hp → VK → Prop} {f : M → Option M} (ho : UnR X (unaryOp op) r) (sp : Spec1 (gl X) r f) (ha : PE X a (tE (gl X) W va)) : PE X (.UnaryOp op a pos) (tE (gl X) W (eUn f va)) :=
  PE.imp (pe_un ho ha) (eUn_run sp)

/-! ### what is owned made to stand still -/
def strip : M → Option D
  | .fz d => some d
  | .ol xs => some (.list xs)
  | .od kvs => some (.dict kvs)
  | _ => none
theorem upd_off {F H : Hp} {a : Addr} (h : Same F H) (hf : F a = none) {o : HO} (ho : H a = some o) : Same F (upd F a o) ∧ Same (upd F a o) H := by
  refine ⟨fun b u e => by rw [upd_ne (ne_of_none e hf)]; exact e, fun b u e => ?_⟩
  by_cases hb : b = a
  · subst hb; rw [upd_same] at e; cases e; exact ho
  · rw [upd_ne hb] at e; exact h _ _ e
/-- an owned thing at a stands still from now on -/
theorem Own.strip {G : Glob} {F H : Hp} {v : V} {m : M} {p : List Addr} {d : D} (h : Same F H) (o : Own G F H v m p) (hf : ∀ a ∈ p, F a = none) (e : strip m = some d) :
    ∃ F', Same F F' ∧ Same F' H ∧ Rep G.K F' v d ∧ ∀ a u, F' a = some u → F a = some u ∨ a ∈ p := by
  have fin : ∀ {a : Addr} {u : HO}, H a = some u → F a = none → Same F (upd F a u) ∧ Same (upd F a u) H ∧ ∀ b w, upd F a u b = some w → F b = some w ∨ b ∈ [a] := fun {a u} ha hn => by
    obtain ⟨s1, s2⟩ := upd_off h hn ha
    refine ⟨s1, s2, fun b w q => ?_⟩
    by_cases hb : b = a
    · exact .inr (by rw [hb]; exact List.mem_singleton_self a)
    · rw [upd_ne hb] at q; exact .inl q
  cases o with
  | fz r => cases e; exact ⟨F, .refl _, h, r, fun _ _ q => .inl q⟩
  | ol ha hz r =>
    cases e
    obtain ⟨s1, s2, s3⟩ := fin ha (hf _ List.mem_cons_self)
    exact ⟨_, s1, s2, .lst (.inl (.inl upd_same)) hz (r.mono s1), s3⟩
  | od hd =>
    cases e
    cases hd with
    | dK ha r =>
      obtain ⟨s1, s2, s3⟩ := fin ha (hf _ List.mem_cons_self)
      exact ⟨_, s1, s2, .dK upd_same (r.mono s1), s3⟩
    | dT ha r =>
      obtain ⟨s1, s2, s3⟩ := fin ha (hf _ List.mem_cons_self)
      exact ⟨_, s1, s2, .dT upd_same (r.mono s1), s3⟩
  | ob _ _ _ _ _ _ => cases e
section
variable {G : Glob} {P F0 F H : Hp} {L : Env} {S : L2.St} {fp : Nat → List Addr}
/-- the i-th stands still -/
theorem Rel.freeze {i : Nat} {m : M} {d : D} {v : V} (R : Rel G P F0 F L S H fp) (e : L[i]? = some (some m)) (ev : S[i]? = some (some v)) (ed : Sw.strip m = some d) :
    ∃ F' fp', Rel G P F0 F' (L.set i (some (.fz d))) S H fp' ∧ Same F F' ∧ Rep G.K F' v d := by
  obtain ⟨w, hw, o⟩ := R.own i m e
  rw [ev] at hw
  cases hw
  obtain ⟨F', s1, s2, r, s3⟩ := o.strip R.fH (fun a ha => (R.nof i a ha).1) ed
  have hfp : ∀ j a, a ∈ (fun j => if j = i then [] else fp j) j → a ∈ fp j ∧ j ≠ i := fun j a h => by
    dsimp only at h
    split at h
    · cases h
    · exact ⟨h, ‹_›⟩
  refine ⟨F', fun j => if j = i then [] else fp j, ⟨by rw [List.length_set]; exact R.len, fun j k ej => ?_, fun j k a hj hk => R.dis j k a (hfp j a hj).1 (hfp k a hk).1, fun j a hj => ?_, fun j a hj => R.trk j a (hfp j a hj).1, R.pH, s2, R.f0.trans s1, fun a u q => ?_⟩, s1, r⟩
  · by_cases hj : j = i
    · subst hj
      have hlt := (List.getElem?_eq_some_iff.mp e).1
      rw [List.getElem?_set_self hlt] at ej
      cases ej
      refine ⟨v, ev, ?_⟩
      rw [if_pos rfl]
      exact .fz r
    · rw [List.getElem?_set_ne (fun q => hj q.symm)] at ej
      obtain ⟨x, q1, q2⟩ := R.own j k ej
      refine ⟨x, q1, ?_⟩
      rw [if_neg hj]
      exact q2.mono s1 fun _ _ => rfl
  · obtain ⟨h1, h2⟩ := hfp j a hj
    refine ⟨?_, (R.nof j a h1).2⟩
    cases q : F' a with
    | none => rfl
    | some u =>
      rcases s3 a u q with z | z
      · rw [(R.nof j a h1).1] at z; cases z
      · exact absurd (R.dis j i a h1 z) h2
  · rcases s3 a u q with z | z
    · exact R.new a u z
    · exact .inr (R.nof i a z).2
end
theorem set_left {α : Type} {l r : List α} {i : Nat} {x : α} (h : i < l.length) : (l ++ r).set i x = l.set i x ++ r := List.set_append_left _ _ h
def fr1 (ε : Env) : T → Rs T
  | .val m => match strip m with
    | some d => .ok (.val (.fz d)) ε
    | none => .no
  | .var i => match (ε[i]?).join with
    | some m => match strip m with
      | some d => .ok (.val (.fz d)) (ε.set i (some (.fz d)))
      | none => .no
    | none => .no
def eFz (ev : Ev) : Ev := fun ε => (ev ε).bind fun t ε1 => fr1 ε1 t
theorem join_some {ε : Env} {i : Nat} {m : M} (h : (ε[i]?).join = some m) : ε[i]? = some (some m) := by
  cases q : ε[i]? with
  | none => rw [q] at h; cases h
  | some o =>
    rw [q] at h
    simp at h
    rw [h]
theorem fr1_run {G : Glob} {W : WX} {P F0 F H : Hp} {ε ts : Env} {σ vs : L2.St} {fp : Nat → List Addr} {t : T} {v : V} {K : T → Env → Prop} (hl : ε.length = σ.length) (R : Rel G P F0 F (ε ++ (ts ++ [t.slot])) (σ ++ (vs ++ [some v])) H fp) (ok : TOk σ t v)
    (h : Got G W P F0 ts vs σ (fr1 ε t) K) : ∃ d ε' F' fp', ε'.length = σ.length ∧ Rel G P F0 F' (ε' ++ (ts ++ [some (.fz d)])) (σ ++ (vs ++ [some v])) H fp' ∧ Rep G.K F' v d ∧ K (.val (.fz d)) ε' := by
  have hz := R.len
  simp only [List.length_append, List.length_singleton] at hz
  cases t with
  | val m =>
    unfold fr1 at h
    cases ed : strip m with
    | none => simp only [ed] at h; exact h.elim
    | some d =>
      simp only [ed] at h
      obtain ⟨F', fp', R', s1, r⟩ := R.freeze (i := ε.length + ts.length) (m := m) (d := d) (v := v) (by
        rw [← List.append_assoc, List.getElem?_append_right (by rw [List.length_append]; exact Nat.le_refl _), List.length_append, Nat.sub_self]
        rfl) (by
        rw [← List.append_assoc, List.getElem?_append_right (by rw [List.length_append]; omega), List.length_append, show ε.length + ts.length - (σ.length + vs.length) = 0 by omega]
        rfl) ed
      have e : (ε ++ (ts ++ [T.slot (.val m)])).set (ε.length + ts.length) (some (.fz d)) = ε ++ (ts ++ [some (.fz d)]) := by
        rw [List.set_append_right _ _ (Nat.le_add_right _ _), Nat.add_sub_cancel_left, List.set_append_right _ _ (Nat.le_refl _), Nat.sub_self]
        rfl
      rw [e] at R'
      exact ⟨d, ε, F', fp', hl, R', r, h⟩
  | var i =>
    unfold fr1 at h
    cases em : (ε[i]?).join with
    | none => simp only [em] at h; exact h.elim
    | some m =>
      simp only [em] at h
      cases ed : strip m with
      | none => simp only [ed] at h; exact h.elim
      | some d =>
        simp only [ed] at h
        have e1 := join_some em
        have hi := (List.getElem?_eq_some_iff.mp e1).1
        obtain ⟨F', fp', R', s1, r⟩ := R.freeze (i := i) (m := m) (d := d) (v := v) (by rw [List.getElem?_append_left hi]; exact e1) (by rw [List.getElem?_append_left (by omega)]; exact ok i rfl) ed
        rw [set_left hi] at R'
        have R2 := Rel.drop1 (by rw [List.length_set]; exact hl) R'
        obtain ⟨fp2, R3⟩ := R2.pushS r
        exact ⟨d, _, F', fp2, by rw [List.length_set]; exact hl, R3, r, h⟩
theorem eFz_run {G : Glob} {W : WX} {ev : Ev} (σ : L2.St) (H : Hp) (Q : VK) (h : tE G W (eFz ev) σ H Q) : tE G W ev σ H Q := by
  obtain ⟨P, F0, F, fp, ε, ts, vs, R, hl, h⟩ := h
  refine ⟨P, F0, F, fp, ε, ts, vs, R, hl, Got.mono (Got.bind h) fun t ε1 h F1 H1 fp1 v1 l1 R1 ok1 => ?_⟩
  obtain ⟨d, ε', F', fp', l', R', r, h⟩ := fr1_run l1 R1 ok1 h
  exact h F' H1 fp' v1 l' R' fun j hj => by cases hj
theorem se_fz {X : L2.Cx} {W : WX} {a : Expr} {va : Ev} (ha : PE X a (tE (gl X) W va)) : PE X a (tE (gl X) W (eFz va)) := PE.imp ha eFz_run

/-! ### argument lists -/
section
variable {X : L2.Cx} {W : WX} {e : Expr} {es : List Expr} {ve : Ev} {av : Av} {pos : Pos}
def aNil : Av := fun ε => .ok [] ε
def aCons (a : Ev) (r : Av) : Av := fun ε => (a ε).bind fun t ε1 => (r ε1).bind fun l ε2 => .ok (t :: l) ε2
theorem sa_nil : PA X [] (tA (gl X) W aNil) := PA.imp pa_nil fun σ H Q h => by
  obtain ⟨P, F0, F, fp, ε, ts, vs, R, hl, h⟩ := h
  refine h F H fp [] hl ?_ .nil
  rw [List.map_nil, List.map_nil, List.append_nil, List.append_nil]
  exact R
theorem sa_cons (ha : PE X e (tE (gl X) W ve)) (hr : PA X es (tA (gl X) W av)) (hs : starEach (e :: es) X.env = (false, eval e X.env) :: starEach es X.env := by rfl) : PA X (e :: es) (tA (gl X) W (aCons ve av)) := PA.imp (pa_cons ha hr hs) fun σ H Q h => by
  obtain ⟨P, F0, F, fp, ε, ts, vs, R, hl, h⟩ := h
  refine ⟨P, F0, F, fp, ε, ts, vs, R, hl, Got.mono (Got.bind h) fun t ε1 h F1 H1 fp1 v1 l1 R1 ok1 => ?_⟩
  refine ⟨P, F0, F1, fp1, ε1, ts ++ [t.slot], vs ++ [some v1], R1, l1, Got.drop1 (Got.mono (Got.bind h) fun l ε2 h F2 H2 fp2 us l2 R2 ok2 => ?_)⟩
  refine h F2 H2 fp2 (v1 :: us) l2 ?_ (.cons ok1 ok2)
  rw [List.append_assoc, List.append_assoc] at R2
  exact R2
end

/-! ### built-ins by values -/
def SpecN (G : Glob) (r : List V → Hp → VK → Prop) (f : List M → Option M) : Prop := ∀ (F H : Hp) (xs : List V) (ms : List M) (k : M) (Q : VK), Same F H → Paired (fun x m => ∃ p, Own G F H x m p) xs ms → f ms = some k →
  (∀ F' H' v fp, Grow F H F' H' fp → Own G F' H' v k fp → Q v H') → r xs H Q
def looks (ε : Env) : List T → Option (List M)
  | [] => some []
  | t :: l => match look ε t, looks ε l with
    | some m, some ms => some (m :: ms)
    | _, _ => none
theorem looks_at {G : Glob} {P F0 F H : Hp} {ε : Env} {σ : L2.St} {fp : Nat → List Addr} (hl : ε.length = σ.length) : ∀ (l : List T) (us : List V) (ms : List M) (ts : Env) (vs : L2.St), Rel G P F0 F (ε ++ (ts ++ l.map T.slot)) (σ ++ (vs ++ us.map some)) H fp → ts.length = vs.length → Paired (TOk σ) l us →
    looks ε l = some ms → Paired (fun x m => ∃ p, Own G F H x m p) us ms
  | [], [], _, _, _, R, hz, .nil, e => by cases e; exact .nil
  | t :: l, u :: us, ms, ts, vs, R, hz, .cons ok oks, e => by
    unfold looks at e
    cases e1 : look ε t with
    | none => rw [e1] at e; cases e
    | some m =>
      cases e2 : looks ε l with
      | none => rw [e1, e2] at e; cases e
      | some ms' =>
        rw [e1, e2] at e
        cases e
        refine .cons ?_ (looks_at hl l us ms' (ts ++ [t.slot]) (vs ++ [some u]) (by rw [List.append_assoc, List.append_assoc]; exact R) (by simp [hz]) oks e2)
        refine get_ts hl (j := ts.length) R ?_ ?_ ok e1
        · rw [List.getElem?_append_right (Nat.le_refl _), Nat.sub_self]; rfl
        · rw [hz, List.getElem?_append_right (Nat.le_refl _), Nat.sub_self]; rfl
theorem Rel.dropN {G : Glob} {P F0 F H : Hp} {ε ts xs : Env} {σ vs ys : L2.St} {fp : Nat → List Addr} (hl : ε.length = σ.length) (hx : xs.length = ys.length) (R : Rel G P F0 F (ε ++ (ts ++ xs)) (σ ++ (vs ++ ys)) H fp) : Rel G P F0 F (ε ++ ts) (σ ++ vs) H fp := by
  have hz := R.len
  simp only [List.length_append] at hz
  rw [← List.append_assoc, ← List.append_assoc] at R
  exact Rel.pop (by simp only [List.length_append]; omega) R
def appN (f : List M → Option M) (ε : Env) (l : List T) : Option M := (looks ε l).bind f
theorem appN_some {f : List M → Option M} {ε : Env} {l : List T} {k : M} (h : appN f ε l = some k) : ∃ ms, looks ε l = some ms ∧ f ms = some k := by
  unfold appN at h
  cases e1 : looks ε l with
  | none => rw [e1] at h; cases h
  | some m => rw [e1] at h; exact ⟨m, rfl, h⟩
def eCB (f : List M → Option M) (av : Av) : Ev := fun ε => (av ε).bind fun l ε1 => retO ε1 (appN f ε1 l)
theorem eCB_run {G : Glob} {W : WX} {r : List V → Hp → VK → Prop} {f : List M → Option M} (sp : SpecN G r f) {av : Av} (σ : L2.St) (H : Hp) (Q : VK) (h : tE G W (eCB f av) σ H Q) : tCB r (tA G W av) σ H Q := by
  obtain ⟨P, F0, F, fp, ε, ts, vs, R, hl, h⟩ := h
  refine ⟨P, F0, F, fp, ε, ts, vs, R, hl, Got.mono (Got.bind h) fun l ε1 h F1 H1 fp1 us l1 R1 ok1 => ?_⟩
  obtain ⟨k, ek, h⟩ := Got.retO h
  obtain ⟨ms, em, ek⟩ := appN_some ek
  have hlu := ok1.length
  have hz : ts.length = vs.length := by
    have := R.len
    simp only [List.length_append] at this
    omega
  refine sp F1 H1 us ms k Q R1.fH (looks_at l1 l us ms ts vs R1 hz ok1 em) ek fun F' H' v fp' g o => ?_
  obtain ⟨fp4, R4⟩ := (Rel.dropN l1 (by simp [hlu]) R1).push' g o
  exact h F' H' fp4 v l1 R4 fun j hj => by cases hj
section
variable {X : L2.Cx} {W : WX} {x : Str} {p pos : Pos} {e : Expr} {es : List Expr} {av : Av} {id TT : String} {r : List V → Hp → VK → Prop} {f : List M → Option M}
theorem se_callB (hc : CallR X (.builtin id) r) (sp : SpecN (gl X) r f) (hg : Gl X x) (hm : X.mg x = none) (hv : bootBuiltins x = some (.builtin id)) (ha : PA X (e :: es) (tA (gl X) W av)) (hn : x ≠ "__name__" := by decide) (hdb : (x == ("__debug__" : Str)) = false := by decide)
    (he : starEach (e :: es) X.env = (false, eval e X.env) :: starEach es X.env := by rfl) (hpl : (backTo pos (starEach es X.env)).any (·.1) = false := by rfl) : PE X (.Call (.Name x p) (e :: es) [] pos) (tE (gl X) W (eCB f av)) :=
  PE.imp (pe_callB hc hg hm hv ha hn hdb he hpl) (eCB_run sp)
theorem se_callTy (hc : CallR X (.type TT) r) (sp : SpecN (gl X) r f) (hg : Gl X x) (hm : X.mg x = none) (hv : bootBuiltins x = some (.type TT)) (ha : PA X (e :: es) (tA (gl X) W av)) (hn : x ≠ "__name__" := by decide) (hdb : (x == ("__debug__" : Str)) = false := by decide)
    (he : starEach (e :: es) X.env = (false, eval e X.env) :: starEach es X.env := by rfl) (hpl : (backTo pos (starEach es X.env)).any (·.1) = false := by rfl) : PE X (.Call (.Name x p) (e :: es) [] pos) (tE (gl X) W (eCB f av)) :=
  PE.imp (pe_callTy hc hg hm hv ha hn hdb he hpl) (eCB_run sp)
end
end Sw

/-! SwD: displays, moved values, calls of defs. -/
namespace Sw
open PySem PySem.Spec PyProof.Rows L2

/-! ### argument lists by their items -/
def aList : List Ev → Av
  | [] => aNil
  | e :: es => aCons e (aList es)
theorem aList_len : ∀ {es : List Ev} {ε : Env} {l : List T} {ε' : Env}, aList es ε = .ok l ε' → l.length = es.length
  | [], _, _, _, h => by cases h; rfl
  | e :: es, ε, l, ε', h => by
    have h : ((e ε).bind fun t ε1 => (aList es ε1).bind fun l ε2 => Rs.ok (t :: l) ε2) = .ok l ε' := h
    cases q : e ε with
    | ok t ε1 =>
      rw [q] at h
      have h : ((aList es ε1).bind fun l ε2 => Rs.ok (t :: l) ε2) = .ok l ε' := h
      cases q2 : aList es ε1 with
      | ok r ε2 =>
        rw [q2] at h
        cases h
        rw [List.length_cons, aList_len q2, List.length_cons]
      | exc x ε2 => rw [q2] at h; cases h
      | no => rw [q2] at h; cases h
    | exc x ε1 => rw [q] at h; cases h
    | no => rw [q] at h; cases h
theorem Got.len {α : Type} {G : Glob} {W : WX} {P F0 : Hp} {ts : Env} {vs σ : L2.St} {r : Rs α} {K : α → Env → Prop} (h : Got G W P F0 ts vs σ r K) : Got G W P F0 ts vs σ r fun a ε => r = .ok a ε ∧ K a ε := by
  cases r with
  | ok a ε => exact ⟨rfl, h⟩
  | exc x ε => exact h
  | no => exact h
def fzs : List T → Option (List D)
  | [] => some []
  | .val (.fz d) :: l => (fzs l).map (d :: ·)
  | _ => none
theorem fzs_at {G : Glob} {P F0 F H : Hp} {ε : Env} {σ : L2.St} {fp : Nat → List Addr} (hl : ε.length = σ.length) : ∀ (l : List T) (us : List V) (ds : List D) (ts : Env) (vs : L2.St), Rel G P F0 F (ε ++ (ts ++ l.map T.slot)) (σ ++ (vs ++ us.map some)) H fp → ts.length = vs.length → Paired (TOk σ) l us →
    fzs l = some ds → RepAll G.K F us ds
  | [], [], _, _, _, R, hz, .nil, e => by cases e; exact .nil
  | .val (.fz d) :: l, u :: us, ds, ts, vs, R, hz, .cons ok oks, e => by
    unfold fzs at e
    cases e2 : fzs l with
    | none => rw [e2] at e; cases e
    | some es =>
      rw [e2] at e
      cases e
      refine .cons ?_ (fzs_at hl l us es (ts ++ [some (.fz d)]) (vs ++ [some u]) (by rw [List.append_assoc, List.append_assoc]; exact R) (by simp [hz]) oks e2)
      obtain ⟨p, o⟩ := get_ts (t := .val (.fz d)) hl (j := ts.length) R (by
        rw [List.getElem?_append_right (Nat.le_refl _), Nat.sub_self]; rfl) (by
        rw [hz, List.getElem?_append_right (Nat.le_refl _), Nat.sub_self]; rfl) ok rfl
      exact o.rep.1
/-- (a, b, ..), [a, b, ..] -/
def eTup (es : List Ev) : Ev := fun ε => (aList (es.map eFz) ε).bind fun l ε1 => retO ε1 ((fzs l).map fun ds => .fz (.tuple ds))
def eLst (es : List Ev) : Ev := fun ε => (aList (es.map eFz) ε).bind fun l ε1 => retO ε1 ((fzs l).map fun ds => .ol ds)
section
variable {X : L2.Cx} {W : WX} {e : Expr} {es : List Expr} {ve : Ev} {ves : List Ev} {pos : Pos}
theorem sl_nil : PA X [] (tA (gl X) W (aList [])) := sa_nil
theorem sl_cons (ha : PE X e (tE (gl X) W ve)) (hr : PA X es (tA (gl X) W (aList ves))) (hs : starEach (e :: es) X.env = (false, eval e X.env) :: starEach es X.env := by rfl) : PA X (e :: es) (tA (gl X) W (aList (ve :: ves))) := sa_cons ha hr hs
theorem sf_nil : PA X [] (tA (gl X) W (aList (([] : List Ev).map eFz))) := sa_nil
theorem sf_cons (ha : PE X e (tE (gl X) W ve)) (hr : PA X es (tA (gl X) W (aList (ves.map eFz)))) (hs : starEach (e :: es) X.env = (false, eval e X.env) :: starEach es X.env := by rfl) : PA X (e :: es) (tA (gl X) W (aList ((ve :: ves).map eFz))) := sa_cons (se_fz ha) hr hs
theorem disp_run {G : Glob} (hn : ves.length ≤ 1000) {mk : List D → M} (σ : L2.St) (H : Hp) (Q : VK) (R2 : List V → Hp → VK → Prop)
    (h2 : ∀ (F H : Hp) (us : List V) (ds : List D) (Q : VK), Same F H → RepAll G.K F us ds → us.length ≤ sizeLine → (∀ F' H' v fp, Grow F H F' H' fp → Own G F' H' v (mk ds) fp → Q v H') → R2 us H Q)
    (h : tE G W (fun ε => (aList (ves.map eFz) ε).bind fun l ε1 => retO ε1 ((fzs l).map mk)) σ H Q) : tA G W (aList (ves.map eFz)) σ H fun us H1 => R2 us H1 Q := by
  obtain ⟨P, F0, F, fp, ε, ts, vs, R, hl, h⟩ := h
  refine ⟨P, F0, F, fp, ε, ts, vs, R, hl, Got.mono (Got.len (Got.bind h)) fun l ε1 ⟨hr, h⟩ F1 H1 fp1 us l1 R1 ok1 => ?_⟩
  obtain ⟨k, ek, h⟩ := Got.retO h
  cases e : fzs l with
  | none => rw [e] at ek; cases ek
  | some ds =>
    rw [e] at ek
    cases ek
    have hlu := ok1.length
    have hll := aList_len hr
    rw [List.length_map] at hll
    have hz : ts.length = vs.length := by
      have := R.len
      simp only [List.length_append] at this
      omega
    refine h2 F1 H1 us ds Q R1.fH (fzs_at l1 l us ds ts vs R1 hz ok1 e) (Nat.le_trans (by omega) (by decide : 1000 ≤ sizeLine)) fun F' H' v fp' g o => ?_
    obtain ⟨fp4, R4⟩ := (Rel.dropN l1 (by simp [hlu]) R1).push' g o
    exact h F' H' fp4 v l1 R4 fun j hj => by cases hj
theorem se_tup {x1 : Nat} (ha : PA X es (tA (gl X) W (aList (ves.map eFz)))) (hn : ves.length ≤ 1000 := by decide) : PE X (.Tuple es x1 pos) (tE (gl X) W (eTup ves)) :=
  PE.imp (pe_tup ha) fun σ H Q h => disp_run hn σ H Q (fun us H1 Q => us.length ≤ sizeLine ∧ ∀ p, H1 p = none → Q (.ref p) (upd H1 p (.tup us)))
    (fun F H us ds Q sf r hz q => ⟨hz, fun p hp => q _ _ _ _ (Grow.fz sf hp) (.fz (.tup (.inl (.inl upd_same)) hz (r.mono (Grow.fz sf hp).sF)))⟩) h
theorem se_lst (ha : PA X es (tA (gl X) W (aList (ves.map eFz)))) (hn : ves.length ≤ 1000 := by decide) : PE X (.List es pos) (tE (gl X) W (eLst ves)) :=
  PE.imp (pe_lst ha) fun σ H Q h => disp_run hn σ H Q (fun us H1 Q => us.length ≤ sizeLine ∧ ∀ p, H1 p = none → Q (.ref p) (upd H1 p (.lst us)))
    (fun F H us ds Q sf r hz q => ⟨hz, fun p hp => q _ _ _ _ (Grow.new sf hp) (.ol upd_same hz r)⟩) h
end

/-! ### calls of defs -/
inductive FR where
  | ok (m : M) (outs : Env)
  | exc (x : Ex) (outs : Env)
  | no
abbrev Fn := List M → FR
/-- a def's promise by its mirror -/
def spF (G : Glob) (fn : Fn) : Sp := fun vs H Q E => ∃ (P F : Hp) (fp : Nat → List Addr) (ms : List M), Rel G P F F (ms.map some) (vs.map some) H fp ∧
  match fn ms with
  | .ok m outs => ∀ F' H' fp' v, outs.length = ms.length → Rel G P F F' (outs ++ [some m]) (vs.map some ++ [some v]) H' fp' → Q v H'
  | .exc x outs => ∀ F' H' fp' cls d, outs.length = ms.length → Rel G P F F' outs (vs.map some) H' fp' → ExOk G x cls d H' → E cls d H'
  | .no => False
def isOwn : M → Bool
  | .fz _ => false
  | _ => true
def ownAt (ε : Env) (i : Nat) : Bool := match (ε[i]?).join with
  | some m => isOwn m
  | none => false
def T.isVar (i : Nat) : T → Bool
  | .var j => i == j
  | .val _ => false
def okArgs (ε : Env) : List T → Bool
  | [] => true
  | .var i :: l => (!ownAt ε i || !l.any (T.isVar i)) && okArgs ε l
  | .val _ :: l => okArgs ε l
def wbk (ε0 : Env) : Env → List T → Env → Env
  | ε, .var i :: l, o :: os => if ownAt ε0 i = true then wbk ε0 (ε.set i o) l os else wbk ε0 ε l os
  | ε, .val _ :: l, _ :: os => wbk ε0 ε l os
  | ε, _, _ => ε
def callR (fn : Fn) (ε : Env) (l : List T) : Rs T := match looks ε l with
  | some ms => if okArgs ε l = true then (match fn ms with
    | .ok m outs => if outs.length = ms.length then .ok (.val m) (wbk ε ε l outs) else .no
    | .exc x outs => if outs.length = ms.length then .exc x (wbk ε ε l outs) else .no
    | .no => .no) else .no
  | none => .no
def eCall (fn : Fn) (es : List Ev) : Ev := fun ε => (aList es ε).bind fun l ε1 => callR fn ε1 l

theorem wbk_len (ε0 : Env) : ∀ (l : List T) (ε os : Env), (wbk ε0 ε l os).length = ε.length
  | .var i :: l, ε, o :: os => by
    unfold wbk
    split
    · rw [wbk_len ε0 l _ os, List.length_set]
    · exact wbk_len ε0 l _ os
  | .val _ :: l, ε, o :: os => by unfold wbk; exact wbk_len ε0 l _ os
  | [], ε, os => by unfold wbk; rfl
  | .var i :: l, ε, [] => by unfold wbk; rfl
  | .val i :: l, ε, [] => by unfold wbk; rfl
theorem wbk_out (ε0 : Env) {j : Nat} : ∀ (l : List T) (ε os : Env), (∀ k i : Nat, l[k]? = some (.var i) → ownAt ε0 i = true → i ≠ j) → (wbk ε0 ε l os)[j]? = ε[j]?
  | .var i :: l, ε, o :: os, h => by
    have ht := fun k i' (e : l[k]? = some (.var i')) => h (k + 1) i' (by simpa using e)
    unfold wbk
    split
    · rename_i hi
      rw [wbk_out ε0 l _ os ht, List.getElem?_set_ne (h 0 i rfl hi)]
    · exact wbk_out ε0 l _ os ht
  | .val _ :: l, ε, o :: os, h => by unfold wbk; exact wbk_out ε0 l _ os fun k i' (e : l[k]? = some (.var i')) => h (k + 1) i' (by simpa using e)
  | [], ε, os, _ => by unfold wbk; rfl
  | .var i :: l, ε, [], _ => by unfold wbk; rfl
  | .val i :: l, ε, [], _ => by unfold wbk; rfl
theorem okArgs_ne {ε : Env} : ∀ {l : List T}, okArgs ε l = true → ∀ {k k' j : Nat}, l[k]? = some (.var j) → l[k']? = some (.var j) → ownAt ε j = true → k = k'
  | [], _, k, _, _, h, _, _ => by simp at h
  | .val m :: l, h, 0, _, _, h1, _, _ => by simp at h1
  | .val m :: l, h, k + 1, 0, _, _, h2, _ => by simp at h2
  | .val m :: l, h, k + 1, k' + 1, j, h1, h2, ho => congrArg (· + 1) (okArgs_ne (l := l) h (k := k) (k' := k') (by simpa using h1) (by simpa using h2) ho)
  | .var i :: l, h, k, k', j, h1, h2, ho => by
    have h : ((!ownAt ε i || !l.any (T.isVar i)) && okArgs ε l) = true := h
    rw [Bool.and_eq_true] at h
    obtain ⟨ha, hb⟩ := h
    have no : ∀ k : Nat, ownAt ε i = true → l[k]? = some (T.var i) → False := fun k hi e => by
      rw [hi] at ha
      have : l.any (T.isVar i) = true := List.any_eq_true.mpr ⟨_, List.mem_of_getElem? e, by show (i == i) = true; exact beq_self_eq_true i⟩
      rw [this] at ha
      cases ha
    cases k with
    | zero =>
      cases k' with
      | zero => rfl
      | succ k' =>
        have e1 : T.var i = T.var j := by simpa using h1
        cases e1
        exact (no k' ho (by simpa using h2)).elim
    | succ k =>
      cases k' with
      | zero =>
        have e1 : T.var i = T.var j := by simpa using h2
        cases e1
        exact (no k ho (by simpa using h1)).elim
      | succ k' => exact congrArg (· + 1) (okArgs_ne (l := l) hb (by simpa using h1) (by simpa using h2) ho)
theorem wbk_in (ε0 : Env) {j : Nat} (hj : ownAt ε0 j = true) : ∀ (l : List T) (ε os : Env) (k : Nat) (o : Option M), okArgs ε0 l = true → l[k]? = some (.var j) → os[k]? = some o → j < ε.length → (wbk ε0 ε l os)[j]? = some o
  | [], _, _, k, _, _, h, _, _ => by simp at h
  | t :: l, _, [], k, _, _, _, h, _ => by simp at h
  | .val m :: l, ε, o' :: os, 0, o, hk, h1, h2, hl => by simp at h1
  | .val m :: l, ε, o' :: os, k + 1, o, hk, h1, h2, hl => by
    unfold wbk
    exact wbk_in ε0 hj l ε os k o hk (by simpa using h1) (by simpa using h2) hl
  | .var i :: l, ε, o' :: os, 0, o, hk, h1, h2, hl => by
    have e1 : T.var i = T.var j := by simpa using h1
    cases e1
    have e2 : o' = o := by simpa using h2
    subst e2
    unfold wbk
    rw [if_pos hj, wbk_out ε0 l _ os fun k' i' e hi' ei => by
      subst ei
      have := okArgs_ne hk (k := 0) (k' := k' + 1) h1 (by simpa using e) hj
      omega]
    exact List.getElem?_set_self hl
  | .var i :: l, ε, o' :: os, k + 1, o, hk, h1, h2, hl => by
    have hb : okArgs ε0 l = true := by
      have h : ((!ownAt ε0 i || !l.any (T.isVar i)) && okArgs ε0 l) = true := hk
      rw [Bool.and_eq_true] at h
      exact h.2
    unfold wbk
    split
    · exact wbk_in ε0 hj l _ os k o hb (by simpa using h1) (by simpa using h2) (by rw [List.length_set]; exact hl)
    · exact wbk_in ε0 hj l _ os k o hb (by simpa using h1) (by simpa using h2) hl

/-- where an argument's own objects are told -/
def ixT (n : Nat) : Nat → T → Nat
  | j, .val _ => n + j
  | _, .var i => i
theorem looks_len {ε : Env} : ∀ {l : List T} {ms : List M}, looks ε l = some ms → ms.length = l.length
  | [], ms, h => by cases h; rfl
  | t :: l, ms, h => by
    unfold looks at h
    cases e1 : look ε t with
    | none => rw [e1] at h; cases h
    | some m =>
      cases e2 : looks ε l with
      | none => rw [e1, e2] at h; cases h
      | some ms' =>
        rw [e1, e2] at h
        cases h
        rw [List.length_cons, looks_len e2, List.length_cons]
theorem looks_get {ε : Env} : ∀ {l : List T} {ms : List M} {k : Nat} {m : M}, looks ε l = some ms → ms[k]? = some m → ∃ t, l[k]? = some t ∧ look ε t = some m
  | [], ms, k, m, h, e => by cases h; simp at e
  | t :: l, ms, k, m, h, e => by
    unfold looks at h
    cases e1 : look ε t with
    | none => rw [e1] at h; cases h
    | some m1 =>
      cases e2 : looks ε l with
      | none => rw [e1, e2] at h; cases h
      | some ms' =>
        rw [e1, e2] at h
        cases h
        cases k with
        | zero =>
          have : m1 = m := by simpa using e
          subst this
          exact ⟨t, rfl, e1⟩
        | succ k =>
          obtain ⟨t', h1, h2⟩ := looks_get (k := k) (m := m) e2 (by simpa using e)
          exact ⟨t', by simpa using h1, h2⟩
theorem Paired.get' {α β : Type} {F : α → β → Prop} : ∀ {l : List α} {r : List β} {k : Nat} {a : α}, Paired F l r → l[k]? = some a → ∃ b, r[k]? = some b ∧ F a b
  | _, _, _, _, .nil, h => by simp at h
  | _, _, 0, _, .cons f _, h => by simp at h; subst h; exact ⟨_, rfl, f⟩
  | _, _, k + 1, a, .cons _ t, h => by
    obtain ⟨b, h1, h2⟩ := Paired.get' (k := k) (a := a) t (by simpa using h)
    exact ⟨b, by simpa using h1, h2⟩
theorem ownAt_of {ε : Env} {i : Nat} {m : M} (h : ε[i]? = some (some m)) : ownAt ε i = isOwn m := by
  unfold ownAt
  rw [h]
  rfl
theorem Own.nil {G : Glob} {F H : Hp} {v : V} {m : M} {p : List Addr} (o : Own G F H v m p) (h : isOwn m = false) : p = [] := by
  cases m with
  | fz d => exact o.rep.2
  | _ => cases h
section
variable {G : Glob} {P F0 F H : Hp} {ε ts : Env} {σ vs : L2.St} {fp : Nat → List Addr}
theorem get_ix (hl : ε.length = σ.length) {j : Nat} {t : T} {v : V} {m : M} (R : Rel G P F0 F (ε ++ ts) (σ ++ vs) H fp) (h1 : ts[j]? = some t.slot) (h2 : vs[j]? = some (some v)) (ok : TOk σ t v) (e : look ε t = some m) :
    Own G F H v m (fp (ixT ε.length j t)) := by
  cases t with
  | val k =>
    cases (show some k = some m from e)
    obtain ⟨w, q1, q2⟩ := R.own (ε.length + j) m (by
      rw [List.getElem?_append_right (Nat.le_add_right _ _), Nat.add_sub_cancel_left]
      exact h1)
    rw [hl, List.getElem?_append_right (Nat.le_add_right _ _), Nat.add_sub_cancel_left, h2] at q1
    cases q1
    exact q2
  | var i =>
    have hv := ok i rfl
    have hi : i < σ.length := (List.getElem?_eq_some_iff.mp hv).1
    have e' := join_some (show (ε[i]?).join = some m from e)
    obtain ⟨w, q1, q2⟩ := R.own i m (by rw [List.getElem?_append_left (by rw [hl]; exact hi)]; exact e')
    rw [List.getElem?_append_left hi, hv] at q1
    cases q1
    exact q2
end
theorem app_mid {α : Type} {b c : List α} {k : Nat} {x : α} (h : c[k]? = some x) : (b ++ c)[b.length + k]? = some x := by
  rw [List.getElem?_append_right (Nat.le_add_right _ _), Nat.add_sub_cancel_left]
  exact h
open Classical in
/-- what a callee must leave as it is -/
noncomputable def guardP (P H : Hp) (fp : Nat → List Addr) (ix : List Nat) : Hp := fun a => if P a ≠ none ∨ ∃ j, a ∈ fp j ∧ j ∉ ix then H a else none
theorem guardP_in {P H : Hp} {fp : Nat → List Addr} {ix : List Nat} {a : Addr} (h : P a ≠ none ∨ ∃ j, a ∈ fp j ∧ j ∉ ix) : guardP P H fp ix a = H a := if_pos h
theorem guardP_out {P H : Hp} {fp : Nat → List Addr} {ix : List Nat} {a : Addr} (h : ¬ (P a ≠ none ∨ ∃ j, a ∈ fp j ∧ j ∉ ix)) : guardP P H fp ix a = none := if_neg h
theorem guardP_le {P H : Hp} {fp : Nat → List Addr} {ix : List Nat} : Same (guardP P H fp ix) H := fun a o e => by
  by_cases h : P a ≠ none ∨ ∃ j, a ∈ fp j ∧ j ∉ ix
  · rw [guardP_in h] at e; exact e
  · rw [guardP_out h] at e; cases e
/-- the arguments as a callee's slots, and what comes back -/
theorem call_rel {G : Glob} {P F0 F H : Hp} {ε ts : Env} {σ vs : L2.St} {fp : Nat → List Addr} {l : List T} {us : List V} {ms : List M} (hl : ε.length = σ.length) (R : Rel G P F0 F (ε ++ (ts ++ l.map T.slot)) (σ ++ (vs ++ us.map some)) H fp) (hz : ts.length = vs.length)
    (ok : Paired (TOk σ) l us) (e : looks ε l = some ms) (hk : okArgs ε l = true) :
    ∃ (P' : Hp) (fpa : Nat → List Addr), Rel G P' F F (ms.map some) (us.map some) H fpa ∧
      (∀ (outs : Env) (F' H' : Hp) (fp2 : Nat → List Addr), outs.length = ms.length → Rel G P' F F' outs (us.map some) H' fp2 → ∃ fp3, Rel G P F0 F' (wbk ε ε l outs ++ ts) (σ ++ vs) H' fp3) ∧
      (∀ (outs : Env) (F' H' : Hp) (fp2 : Nat → List Addr) (m : M) (v : V), outs.length = ms.length → Rel G P' F F' (outs ++ [some m]) (us.map some ++ [some v]) H' fp2 → ∃ fp3, Rel G P F0 F' (wbk ε ε l outs ++ (ts ++ [some m])) (σ ++ (vs ++ [some v])) H' fp3) := by
  have hlu : l.length = us.length := ok.length
  have hml := looks_len e
  -- the argument k stands at the place ix k
  obtain ⟨ix, hix⟩ : ∃ ix : Nat → Nat, ∀ k t, l[k]? = some t → ix k = ixT ε.length (ts.length + k) t :=
    ⟨fun k => match l[k]? with | some t => ixT ε.length (ts.length + k) t | none => 0, fun k t h => by dsimp only; rw [h]⟩
  let ixs := (List.range l.length).map ix
  have mem_ix : ∀ k, k < l.length → ix k ∈ ixs := fun k hk => List.mem_map.mpr ⟨k, List.mem_range.mpr hk, rfl⟩
  have of_ix : ∀ j, j ∈ ixs → ∃ k t, l[k]? = some t ∧ ix k = j ∧ j = ixT ε.length (ts.length + k) t := fun j h => by
    obtain ⟨k, h1, h2⟩ := List.mem_map.mp h
    have hk := List.mem_range.mp h1
    exact ⟨k, l[k], List.getElem?_eq_getElem hk, h2, by rw [← h2]; exact hix k _ (List.getElem?_eq_getElem hk)⟩
  have hown : ∀ k m, ms[k]? = some m → ∃ t u, l[k]? = some t ∧ us[k]? = some u ∧ TOk σ t u ∧ look ε t = some m ∧ Own G F H u m (fp (ix k)) := fun k m hm => by
    obtain ⟨t, h1, h2⟩ := looks_get e hm
    obtain ⟨u, h3, h4⟩ := Paired.get' ok h1
    refine ⟨t, u, h1, h3, h4, h2, ?_⟩
    rw [hix k t h1]
    refine get_ix hl R (app_mid (by rw [List.getElem?_map, h1]; rfl)) ?_ h4 h2
    rw [hz]
    exact app_mid (by rw [List.getElem?_map, h3]; rfl)
  have hkm : ∀ (k : Nat) (t : T), l[k]? = some t → ∃ m, ms[k]? = some m := fun k t h => ⟨ms[k]'(by rw [hml]; exact (List.getElem?_eq_some_iff.mp h).1), List.getElem?_eq_getElem _⟩
  -- two arguments with own objects stand at two places
  have hinj : ∀ k k' a, k < l.length → k' < l.length → a ∈ fp (ix k) → ix k = ix k' → k = k' := fun k k' a kl kl' ha hkk => by
    obtain ⟨t, u, h1, h2, h3, h4, h5⟩ := hown k ms[k] (List.getElem?_eq_getElem (by omega))
    obtain ⟨t', u', h1', h2', h3', h4', h5'⟩ := hown k' ms[k'] (List.getElem?_eq_getElem (by omega))
    have q1 := hix k t h1
    have q2 := hix k' t' h1'
    cases t with
    | val m =>
      cases t' with
      | val m' =>
        have : ε.length + (ts.length + k) = ε.length + (ts.length + k') := q1.symm.trans (hkk.trans q2)
        omega
      | var i' =>
        have hi := (List.getElem?_eq_some_iff.mp (join_some (show (ε[i']?).join = some _ from h4'))).1
        have : ε.length + (ts.length + k) = i' := q1.symm.trans (hkk.trans q2)
        omega
    | var i =>
      have hi := (List.getElem?_eq_some_iff.mp (join_some (show (ε[i]?).join = some _ from h4))).1
      cases t' with
      | val m' =>
        have : i = ε.length + (ts.length + k') := q1.symm.trans (hkk.trans q2)
        omega
      | var i' =>
        have hii : i = i' := q1.symm.trans (hkk.trans q2)
        subst hii
        refine okArgs_ne hk h1 h1' ?_
        rw [ownAt_of (join_some (show (ε[i]?).join = some _ from h4))]
        cases q : isOwn ms[k] with
        | true => rfl
        | false => rw [h5.nil q] at ha; cases ha
  have notP : ∀ k a, k < l.length → a ∈ fp (ix k) → guardP P H fp ixs a = none := fun k a hk ha => guardP_out fun h => by
    rcases h with h | ⟨j, h1, h2⟩
    · exact h (R.nof _ a ha).2
    · exact h2 (by rw [R.dis j (ix k) a h1 ha]; exact mem_ix k hk)
  have outP : ∀ a, guardP P H fp ixs a = none → P a = none := fun a h => by
    by_cases q : P a = none
    · exact q
    · rw [guardP_in (.inl q)] at h
      exact R.pH.free h
  refine ⟨guardP P H fp ixs, fun k => if k < l.length then fp (ix k) else [], ⟨by rw [List.length_map, List.length_map]; omega, fun k m hm => ?_, fun j k a hj hk' => ?_, fun k a ha => ?_, fun k a ha => ?_, guardP_le, R.fH, .refl _, fun a o q => .inl q⟩, ?_⟩
  · rw [List.getElem?_map] at hm
    cases q : ms[k]? with
    | none => rw [q] at hm; cases hm
    | some m' =>
      rw [q] at hm
      cases hm
      obtain ⟨t, u, h1, h2, h3, h4, h5⟩ := hown k m q
      refine ⟨u, by rw [List.getElem?_map, h2]; rfl, ?_⟩
      rw [if_pos (List.getElem?_eq_some_iff.mp h1).1]
      exact h5
  · split at hj
    · split at hk'
      · exact hinj j k a ‹_› ‹_› hj (R.dis _ _ a hj hk')
      · cases hk'
    · cases hj
  · split at ha
    · exact ⟨(R.nof _ a ha).1, notP k a ‹_› ha⟩
    · cases ha
  · split at ha
    · exact R.trk _ a ha
    · cases ha
  -- behind the call
  have back : ∀ (outs : Env) (F' H' : Hp) (fp2 : Nat → List Addr) (ys : Env) (zs : L2.St), outs.length = ms.length → ys.length = zs.length → Rel G (guardP P H fp ixs) F F' (outs ++ ys) (us.map some ++ zs) H' fp2 →
      ∃ fp3, Rel G P F0 F' (wbk ε ε l outs ++ (ts ++ ys)) (σ ++ (vs ++ zs)) H' fp3 := fun outs F' H' fp2 ys zs ho hy R2 => by
    have keep : ∀ j a, a ∈ fp j → j ∉ ixs → H' a = H a := fun j a ha hj => by
      have h1 := guardP_in (P := P) (H := H) (ix := ixs) (.inr ⟨j, ha, hj⟩)
      cases q : H a with
      | none => exact absurd q (R.trk j a ha)
      | some o => exact R2.pH a o (h1.trans q)
    -- an owned name among the arguments
    have hvar : ∀ k i, l[k]? = some (.var i) → ix k = i := fun k i h => hix k _ h
    classical
    let arg : Nat → Option Nat := fun j => if h : ∃ k : Nat, l[k]? = some (.var j) ∧ ownAt ε j = true then some h.choose else none
    have arg_some : ∀ j k, arg j = some k → l[k]? = some (.var j) ∧ ownAt ε j = true := fun j k h => by
      dsimp only [arg] at h
      split at h
      · cases h
        rename_i hh
        exact hh.choose_spec
      · cases h
    have arg_none : ∀ j, arg j = none → ∀ k : Nat, l[k]? = some (.var j) → ownAt ε j = true → False := fun j h k h1 h2 => by
      dsimp only [arg] at h
      split at h
      · cases h
      · rename_i hh
        exact hh ⟨k, h1, h2⟩
    let fp3 : Nat → List Addr := fun j => if j < ε.length then (match arg j with | some k => fp2 k | none => fp j) else if j < ε.length + ts.length then fp j else if j < ε.length + (ts.length + ys.length) then fp2 (ms.length + (j - (ε.length + ts.length))) else []
    -- which kind a place is
    have kind : ∀ j a, a ∈ fp3 j → (∃ k, k < ms.length ∧ a ∈ fp2 k ∧ arg j = some k ∧ j < ε.length) ∨ (a ∈ fp j ∧ j ∉ ixs ∧ j < ε.length + ts.length ∧ (j < ε.length → arg j = none)) ∨
        (a ∈ fp2 (ms.length + (j - (ε.length + ts.length))) ∧ ε.length + ts.length ≤ j) := fun j a ha => by
      dsimp only [fp3] at ha
      split at ha
      · rename_i hj
        cases q : arg j with
        | some k =>
          rw [q] at ha
          have hk1 := (arg_some j k q).1
          exact .inl ⟨k, by rw [hml]; exact (List.getElem?_eq_some_iff.mp hk1).1, ha, rfl, hj⟩
        | none =>
          rw [q] at ha
          refine .inr (.inl ⟨ha, fun hm => ?_, by omega, fun _ => rfl⟩)
          obtain ⟨k, t, h1, h2, h3⟩ := of_ix j hm
          cases t with
          | val m =>
            have : j = ε.length + (ts.length + k) := h3
            omega
          | var i =>
            have hi : j = i := h3
            subst hi
            obtain ⟨m1, hm1⟩ := hkm k _ h1
            obtain ⟨t', u, g1, g2, g3, g4, g5⟩ := hown k m1 hm1
            rw [h1] at g1
            cases g1
            rw [hvar k j h1] at g5
            cases qo : isOwn m1 with
            | true => exact arg_none j q k h1 (by rw [ownAt_of (join_some (show (ε[j]?).join = some _ from g4))]; exact qo)
            | false => rw [g5.nil qo] at ha; cases ha
      · rename_i hj
        split at ha
        · rename_i hj2
          refine .inr (.inl ⟨ha, fun hm => ?_, hj2, fun h => absurd h hj⟩)
          obtain ⟨k, t, h1, h2, h3⟩ := of_ix j hm
          cases t with
          | val m =>
            have : j = ε.length + (ts.length + k) := h3
            omega
          | var i =>
            have hi : j = i := h3
            subst hi
            obtain ⟨m1, hm1⟩ := hkm k _ h1
            obtain ⟨t', u, g1, g2, g3, g4, g5⟩ := hown k m1 hm1
            rw [h1] at g1
            cases g1
            exact hj (List.getElem?_eq_some_iff.mp (join_some (show (ε[j]?).join = some _ from g4))).1
        · split at ha
          · exact .inr (.inr ⟨ha, by omega⟩)
          · cases ha
    have nofs : ∀ k a, a ∈ fp2 k → F' a = none ∧ P a = none := fun k a ha => ⟨(R2.nof k a ha).1, outP a (R2.nof k a ha).2⟩
    have oldF : ∀ j a, a ∈ fp j → j ∉ ixs → F' a = none := fun j a ha hj => by
      cases q : F' a with
      | none => rfl
      | some o =>
        rcases R2.new a o q with z | z
        · rw [(R.nof j a ha).1] at z; cases z
        · have h1 := guardP_in (P := P) (H := H) (ix := ixs) (.inr ⟨j, ha, hj⟩)
          rw [z] at h1
          exact absurd h1.symm (R.trk j a ha)
    have apart : ∀ k j a, a ∈ fp2 k → a ∈ fp j → j ∉ ixs → False := fun k j a h1 h2 h3 => by
      have q1 := (R2.nof k a h1).2
      rw [guardP_in (.inr ⟨j, h2, h3⟩)] at q1
      exact R.trk j a h2 q1
    have hR2l : outs.length = (us.map some).length := by rw [List.length_map]; omega
    refine ⟨fp3, ⟨?_, fun j m hm => ?_, fun i j a hi hj => ?_, fun j a hj => ?_, fun j a hj => ?_, fun a o q => ?_, R2.fH, R.f0.trans R2.f0, fun a o q => ?_⟩⟩
    · simp only [List.length_append, wbk_len]
      omega
    · have hlen : j < ε.length + (ts.length + ys.length) := by
        have := (List.getElem?_eq_some_iff.mp hm).1
        simpa only [List.length_append, wbk_len] using this
      by_cases hj : j < ε.length
      · rw [List.getElem?_append_left (by rw [wbk_len]; exact hj)] at hm
        show ∃ v, _ ∧ Own G F' H' v m (if j < ε.length then _ else _)
        rw [if_pos hj, List.getElem?_append_left (show j < σ.length by omega)]
        cases q : arg j with
        | some k =>
          obtain ⟨hk1, hk2⟩ := arg_some j k q
          have hkl := (List.getElem?_eq_some_iff.mp hk1).1
          rw [wbk_in ε hk2 l ε outs k (outs[k]'(by omega)) hk hk1 (List.getElem?_eq_getElem (by omega)) hj] at hm
          have hm' : outs[k]? = some (some m) := by rw [List.getElem?_eq_getElem (by omega)]; exact hm
          obtain ⟨v, g1, g2⟩ := R2.own k m (by rw [List.getElem?_append_left (by omega)]; exact hm')
          obtain ⟨u, g3, g4⟩ := Paired.get' ok hk1
          rw [List.getElem?_append_left (by rw [List.length_map]; omega), List.getElem?_map, g3] at g1
          cases g1
          exact ⟨_, g4 j rfl, g2⟩
        | none =>
          rw [wbk_out ε l ε outs fun k i h1 h2 h3 => by subst h3; exact arg_none i q k h1 h2] at hm
          obtain ⟨v, g1, g2⟩ := R.own j m (by rw [List.getElem?_append_left hj]; exact hm)
          rw [List.getElem?_append_left (show j < σ.length by omega)] at g1
          refine ⟨v, g1, g2.mono R2.f0 fun a ha => keep j a ha ?_⟩
          have := kind j a (by
            show a ∈ (if j < ε.length then _ else _)
            rw [if_pos hj]
            show a ∈ (match arg j with | some k => fp2 k | none => fp j)
            rw [q]
            exact ha)
          rcases this with ⟨k, _, _, h3, _⟩ | h | ⟨_, h⟩
          · rw [q] at h3; cases h3
          · exact h.2.1
          · omega
      · rw [List.getElem?_append_right (by rw [wbk_len]; omega), wbk_len] at hm
        show ∃ v, _ ∧ Own G F' H' v m (if j < ε.length then _ else _)
        rw [if_neg hj, List.getElem?_append_right (show σ.length ≤ j by omega)]
        by_cases hj2 : j < ε.length + ts.length
        · rw [List.getElem?_append_left (by omega)] at hm
          rw [if_pos hj2, List.getElem?_append_left (by omega)]
          obtain ⟨v, g1, g2⟩ := R.own j m (by rw [List.getElem?_append_right (by omega), List.getElem?_append_left (by omega)]; exact hm)
          rw [List.getElem?_append_right (by omega), List.getElem?_append_left (by omega)] at g1
          refine ⟨v, g1, g2.mono R2.f0 fun a ha => keep j a ha ?_⟩
          have := kind j a (by
            show a ∈ (if j < ε.length then _ else _)
            rw [if_neg hj, if_pos hj2]
            exact ha)
          rcases this with ⟨k, _, _, _, h3⟩ | h | ⟨_, h⟩
          · omega
          · exact h.2.1
          · omega
        · rw [List.getElem?_append_right (by omega)] at hm
          rw [if_neg hj2, if_pos hlen, List.getElem?_append_right (by omega)]
          obtain ⟨v, g1, g2⟩ := R2.own (ms.length + (j - (ε.length + ts.length))) m (by
            rw [List.getElem?_append_right (by omega), show ms.length + (j - (ε.length + ts.length)) - outs.length = j - ε.length - ts.length by omega]
            exact hm)
          rw [List.getElem?_append_right (by rw [List.length_map]; omega), List.length_map, show ms.length + (j - (ε.length + ts.length)) - us.length = j - σ.length - vs.length by omega] at g1
          exact ⟨v, g1, g2⟩
    · rcases kind i a hi with ⟨k, h1, h2, h3, h4⟩ | ⟨h1, h2, h3, h3'⟩ | ⟨h1, h2⟩ <;> rcases kind j a hj with ⟨k', g1, g2, g3, g4⟩ | ⟨g1, g2, g3, g3'⟩ | ⟨g1, g2⟩
      · have := R2.dis k k' a h2 g2
        subst this
        have e1 := (arg_some i k h3).1
        have e2 := (arg_some j k g3).1
        rw [e1] at e2
        cases e2
        rfl
      · exact (apart k j a h2 g1 g2).elim
      · have := R2.dis _ _ a h2 g1
        omega
      · exact (apart k' i a g2 h1 h2).elim
      · exact R.dis i j a h1 g1
      · exact (apart _ i a g1 h1 h2).elim
      · have := R2.dis _ _ a h1 g2
        omega
      · exact (apart _ j a h1 g1 g2).elim
      · have := R2.dis _ _ a h1 g1
        omega
    · rcases kind j a hj with ⟨k, h1, h2, h3, h4⟩ | ⟨h1, h2, h3, h3'⟩ | ⟨h1, h2⟩
      · exact nofs k a h2
      · exact ⟨oldF j a h1 h2, (R.nof j a h1).2⟩
      · exact nofs _ a h1
    · rcases kind j a hj with ⟨k, h1, h2, h3, h4⟩ | ⟨h1, h2, h3, h3'⟩ | ⟨h1, h2⟩
      · exact R2.trk k a h2
      · rw [keep j a h1 h2]; exact R.trk j a h1
      · exact R2.trk _ a h1
    · refine R2.pH a o ?_
      rw [guardP_in (.inl (by rw [q]; exact Option.some_ne_none _))]
      exact R.pH a o q
    · rcases R2.new a o q with z | z
      · exact R.new a o z
      · exact .inr (outP a z)
  refine ⟨fun outs F' H' fp2 ho R2 => ?_, fun outs F' H' fp2 m v ho R2 => back outs F' H' fp2 [some m] [some v] ho rfl R2⟩
  obtain ⟨fp3, R3⟩ := back outs F' H' fp2 [] [] ho rfl (by rw [List.append_nil, List.append_nil]; exact R2)
  rw [List.append_nil, List.append_nil] at R3
  exact ⟨fp3, R3⟩
end Sw

/-! SwE: calls of defs as expressions; statements; a def by its body. -/
namespace Sw
open PySem PySem.Spec PyProof.Rows L2

/-! ### a call -/
theorem eCall_run {G : Glob} {W : WX} {fn : Fn} {es : List Ev} (σ : L2.St) (H : Hp) (Q : VK) (h : tE G W (eCall fn es) σ H Q) : tCallS (spF G fn) (WE W) (tA G W (aList es)) σ H Q := by
  obtain ⟨P, F0, F, fp, ε, ts, vs, R, hl, h⟩ := h
  refine ⟨P, F0, F, fp, ε, ts, vs, R, hl, Got.mono (Got.bind h) fun l ε1 h F1 H1 fp1 us l1 R1 ok1 => ?_⟩
  have hz : ts.length = vs.length := by
    have := R.len
    simp only [List.length_append] at this
    omega
  unfold callR at h
  cases e : looks ε1 l with
  | none => rw [e] at h; exact h.elim
  | some ms =>
    rw [e] at h
    dsimp only at h
    by_cases hk : okArgs ε1 l = true
    · rw [if_pos hk] at h
      obtain ⟨P', fpa, RA, bx, bo⟩ := call_rel l1 R1 hz ok1 e hk
      refine ⟨P', F1, fpa, ms, RA, ?_⟩
      cases q : fn ms with
      | ok m outs =>
        rw [q] at h
        dsimp only at h
        intro F' H' fp2 v ho R2
        rw [if_pos ho] at h
        obtain ⟨fp3, R3⟩ := bo outs F' H' fp2 m v ho R2
        exact h F' H' fp3 v (by rw [wbk_len]; exact l1) R3 fun j hj => by cases hj
      | exc x outs =>
        rw [q] at h
        dsimp only at h
        intro F' H' fp2 cls d ho R2 hx
        rw [if_pos ho] at h
        obtain ⟨fp3, R3⟩ := bx outs F' H' fp2 ho R2
        exact h F' H' fp3 cls d (by rw [wbk_len]; exact l1) R3 hx
      | no => rw [q] at h; exact h.elim
    · rw [if_neg hk] at h
      exact h.elim
/-- a def of the text that is there, with its mirror -/
structure Has (P : Program) (w : World) (K : PySem.W.Frag) (mg : Str → Option Value) (base : Heap) (k : Nat) (x : Str) (ps : List Str) (fn : Fn) : Prop where
  ex : ∃ (f : Addr) (fd : FuncData), mg x = some (.ref f) ∧ PySem.W.keepIn K (.ref f) = true ∧ Binds K fd ps [] ∧ FnOk P w K mg base (L2.CX P w) k f fd ps (spF ⟨K, mg⟩ fn)
theorem Has.mono {P : Program} {w : World} {K : PySem.W.Frag} {mg : Str → Option Value} {base : Heap} {j k : Nat} {x : Str} {ps : List Str} {fn : Fn} (h : Has P w K mg base j x ps fn) (le : j ≤ k) : Has P w K mg base k x ps fn := by
  obtain ⟨f, fd, a, b, c, d⟩ := h.ex
  exact ⟨f, fd, a, b, c, d.mono le⟩
/-- where one stands -/
structure Stg (X : L2.Cx) (k : Nat) (W : WX) : Prop where
  calm : X.calm = true
  room : Room k X.A
  pass : ∀ σ, PassesAt (L2.CX X.prog X.w) X σ (WE W σ)
theorem Stg.hu {X : L2.Cx} {k : Nat} {W : WX} (S : Stg X k W) : X.A.units + 65 < cLine := by have := S.room.un; omega
section
variable {X : L2.Cx} {W : WX} {k j : Nat} {x : Str} {ps : List Str} {fn : Fn} {e : Expr} {es : List Expr} {ves : List Ev} {p pos : Pos}
theorem se_call (S : Stg X k W) (F : Has X.prog X.w X.K X.mg X.base k x ps fn) (hg : Gl X x) (ha : PA X (e :: es) (tA (gl X) W (aList ves))) (hdb : (x == ("__debug__" : Str)) = false := by decide)
    (he : starEach (e :: es) X.env = (false, eval e X.env) :: starEach es X.env := by rfl) (hpl : (backTo pos (starEach es X.env)).any (·.1) = false := by rfl) : PE X (.Call (.Name x p) (e :: es) [] pos) (tE (gl X) W (eCall fn ves)) := by
  obtain ⟨f, fd, h1, h2, h3, h4⟩ := F.ex
  exact PE.imp (pe_callS h4 S.room hg h1 h2 h3 S.pass ha hdb he hpl) eCall_run
end

/-! ### moved values -/
theorem Rel.move {G : Glob} {P F0 F H : Hp} {L : Env} {S : L2.St} {fp : Nat → List Addr} {i n : Nat} {m : M} {v : V} (R : Rel G P F0 F L S H fp) (e : L[i]? = some (some m)) (ei : S[i]? = some (some v)) (en : S[n]? = some (some v)) (hn : i ≠ n) :
    Rel G P F0 F ((L.set i none).set n (some m)) S H (fun j => if j = n then fp i else if j = i then [] else fp j) := by
  have kind : ∀ j a, a ∈ (if j = n then fp i else if j = i then [] else fp j) → (a ∈ fp i ∧ j = n) ∨ (a ∈ fp j ∧ j ≠ n ∧ j ≠ i) := fun j a h => by
    split at h
    · exact .inl ⟨h, ‹_›⟩
    · split at h
      · cases h
      · exact .inr ⟨h, ‹_›, ‹_›⟩
  refine ⟨by rw [List.length_set, List.length_set]; exact R.len, fun j m' hj => ?_, fun j k a hj hk => ?_, fun j a hj => ?_, fun j a hj => ?_, R.pH, R.fH, R.f0, R.new⟩
  · by_cases hjn : j = n
    · subst hjn
      have hlt : j < L.length := by rw [R.len]; exact (List.getElem?_eq_some_iff.mp en).1
      rw [List.getElem?_set_self (by rw [List.length_set]; exact hlt)] at hj
      cases hj
      obtain ⟨w, h1, h2⟩ := R.own i m e
      rw [ei] at h1
      cases h1
      exact ⟨v, en, by rw [if_pos rfl]; exact h2⟩
    · rw [List.getElem?_set_ne (fun q => hjn q.symm)] at hj
      by_cases hji : j = i
      · subst hji
        rw [List.getElem?_set_self (List.getElem?_eq_some_iff.mp e).1] at hj
        cases hj
      · rw [List.getElem?_set_ne (fun q => hji q.symm)] at hj
        obtain ⟨w, h1, h2⟩ := R.own j m' hj
        exact ⟨w, h1, by rw [if_neg hjn, if_neg hji]; exact h2⟩
  · rcases kind j a hj with ⟨h1, h2⟩ | ⟨h1, h2, h3⟩ <;> rcases kind k a hk with ⟨g1, g2⟩ | ⟨g1, g2, g3⟩
    · rw [h2, g2]
    · exact absurd (R.dis k i a g1 h1) g3
    · exact absurd (R.dis j i a h1 g1) h3
    · exact R.dis j k a h1 g1
  · rcases kind j a hj with ⟨h1, _⟩ | ⟨h1, _, _⟩ <;> exact R.nof _ a h1
  · rcases kind j a hj with ⟨h1, _⟩ | ⟨h1, _, _⟩ <;> exact R.trk _ a h1
def mv1 (ε : Env) : T → Rs T
  | .val m => .ok (.val m) ε
  | .var i => match (ε[i]?).join with
    | some m => .ok (.val m) (if isOwn m = true then ε.set i none else ε)
    | none => .no
def eMv (ev : Ev) : Ev := fun ε => (ev ε).bind fun t ε1 => mv1 ε1 t
theorem mv1_run {G : Glob} {W : WX} {P F0 F H : Hp} {ε ts : Env} {σ vs : L2.St} {fp : Nat → List Addr} {t : T} {v : V} {K : T → Env → Prop} (hl : ε.length = σ.length) (R : Rel G P F0 F (ε ++ (ts ++ [t.slot])) (σ ++ (vs ++ [some v])) H fp) (ok : TOk σ t v)
    (h : Got G W P F0 ts vs σ (mv1 ε t) K) : ∃ m ε' fp', ε'.length = σ.length ∧ Rel G P F0 F (ε' ++ (ts ++ [some m])) (σ ++ (vs ++ [some v])) H fp' ∧ K (.val m) ε' := by
  have hz := R.len
  simp only [List.length_append, List.length_singleton] at hz
  cases t with
  | val m => exact ⟨m, ε, fp, hl, R, h⟩
  | var i =>
    unfold mv1 at h
    cases em : (ε[i]?).join with
    | none => simp only [em] at h; exact h.elim
    | some m =>
      simp only [em] at h
      have e1 := join_some em
      have hi := (List.getElem?_eq_some_iff.mp e1).1
      by_cases ho : isOwn m = true
      · rw [if_pos ho] at h
        have R2 := R.move (i := i) (n := ε.length + ts.length) (m := m) (v := v) (by rw [List.getElem?_append_left hi]; exact e1) (by rw [List.getElem?_append_left (by omega)]; exact ok i rfl) (by
          rw [← List.append_assoc, List.getElem?_append_right (by rw [List.length_append]; omega), List.length_append, show ε.length + ts.length - (σ.length + vs.length) = 0 by omega]
          rfl) (by omega)
        rw [set_left hi, List.set_append_right _ _ (by rw [List.length_set]; omega), List.length_set, Nat.add_sub_cancel_left, List.set_append_right _ _ (Nat.le_refl _), Nat.sub_self] at R2
        exact ⟨m, _, _, by rw [List.length_set]; exact hl, R2, h⟩
      · rw [if_neg ho] at h
        obtain ⟨w, h1, h2⟩ := R.own i m (by rw [List.getElem?_append_left hi]; exact e1)
        rw [List.getElem?_append_left (by omega), ok i rfl] at h1
        cases h1
        have hp := h2.nil (by simpa using ho)
        rw [hp] at h2
        obtain ⟨fp2, R2⟩ := (R.drop1 hl).push' (Grow.refl R.fH) h2
        exact ⟨m, ε, fp2, hl, R2, h⟩

/-! ### statements -/
section
variable {G : Glob} {W : WX} {A : List Nat} {P F0 : Hp} {ts : Env} {vs σ σ' : L2.St} {D : Ends}
theorem GotS.keep {r : SR} (k : Keeps A σ σ') (h : GotS G W A P F0 ts vs σ D r) : GotS G W A P F0 ts vs σ' D r := by
  cases r with
  | nx ε => exact fun F' H' fp' σ2 l k2 R => h F' H' fp' σ2 (l.trans k.1) (k.trans k2) R
  | bk ε => exact fun F' H' fp' σ2 l k2 R => h F' H' fp' σ2 (l.trans k.1) (k.trans k2) R
  | ct ε => exact fun F' H' fp' σ2 l k2 R => h F' H' fp' σ2 (l.trans k.1) (k.trans k2) R
  | rt m ε => exact fun F' H' fp' σ2 v l k2 R => h F' H' fp' σ2 v (l.trans k.1) (k.trans k2) R
  | ex x ε => exact fun F' H' fp' σ2 c d l k2 R e => h F' H' fp' σ2 c d (l.trans k.1) (k.trans k2) R e
  | no => exact h
def SR.ofR {α : Type} (r : Rs α) (f : α → Env → SR) : SR :=
  match r with
  | .ok a ε => f a ε
  | .exc x ε => .ex x ε
  | .no => .no
theorem GotS.ofR {α : Type} {r : Rs α} {f : α → Env → SR} (h : GotS G W A P F0 ts vs σ D (SR.ofR r f)) : Got G W P F0 ts vs σ r fun a ε => GotS G W A P F0 ts vs σ D (f a ε) := by
  cases r with
  | ok a ε => exact h
  | exc x ε => exact fun F' H' fp' cls d l R e => h F' H' fp' σ cls d l (.refl _ _) R e
  | no => exact h
end
def sNext : Sv := fun ε => .nx ε
def sSeq (s1 s2 : Sv) : Sv := fun ε => match s1 ε with
  | .nx ε' => s2 ε'
  | r => r
def sDrop (ev : Ev) : Sv := fun ε => SR.ofR (ev ε) fun _ ε1 => .nx ε1
def sRet (ev : Ev) : Sv := fun ε => SR.ofR (eMv ev ε) fun t ε1 => match t with
  | .val m => .rt m ε1
  | .var _ => .no
def sRetN : Sv := fun ε => .rt (.fz .none) ε
def sIf (c : Tv) (a b : Sv) : Sv := fun ε => SR.ofR (c ε) fun k ε1 => if k = true then a ε1 else b ε1
def sAsg (i : Nat) (ev : Ev) : Sv := fun ε => SR.ofR (eMv ev ε) fun t ε1 => match t with
  | .val m => .nx (ε1.set i (some m))
  | .var _ => .no
def sCont : Sv := fun ε => .ct ε
def sBreak : Sv := fun ε => .bk ε
section
variable {X : L2.Cx} {W : WX} {A : List Nat} {st : Stmt} {rest : List Stmt} {s1 s2 : Sv} {e : Expr} {ve : Ev} {pos : Pos}
theorem ss_nil : PSs X [] (tS (gl X) W A sNext) := PSs.imp pss_nil fun D σ H h => by
  obtain ⟨P, F0, F, fp, ε, ts, vs, R, hl, h⟩ := h
  exact h F H fp σ hl (.refl _ _) R
theorem tSeq_S {G : Glob} (D : Ends) (σ : L2.St) (H : Hp) (h : tS G W A (sSeq s1 s2) D σ H) : tS G W A s1 { D with nx := tS G W A s2 D } σ H := by
  obtain ⟨P, F0, F, fp, ε, ts, vs, R, hl, h⟩ := h
  refine ⟨P, F0, F, fp, ε, ts, vs, R, hl, ?_⟩
  unfold sSeq at h
  cases q : s1 ε with
  | nx ε' =>
    rw [q] at h
    exact fun F' H' fp' σ' l k R' => ⟨P, F0, F', fp', ε', ts, vs, R', l.trans k.1.symm, GotS.keep k h⟩
  | bk ε' => rw [q] at h; exact h
  | ct ε' => rw [q] at h; exact h
  | rt m ε' => rw [q] at h; exact h
  | ex x ε' => rw [q] at h; exact h
  | no => rw [q] at h; exact h
theorem ss_cons (h1 : PS X st (tS (gl X) W A s1)) (h2 : PSs X rest (tS (gl X) W A s2)) : PSs X (st :: rest) (tS (gl X) W A (sSeq s1 s2)) := PSs.imp (pss_cons h1 h2) tSeq_S
theorem ss_one (h1 : PS X st (tS (gl X) W A s1)) : PSs X [st] (tS (gl X) W A s1) := pss_one h1
theorem sp_pass : PS X (.Pass pos) (tS (gl X) W A sNext) := PS.imp ps_pass fun D σ H h => by
  obtain ⟨P, F0, F, fp, ε, ts, vs, R, hl, h⟩ := h
  exact h F H fp σ hl (.refl _ _) R
theorem sp_cont : PS X (.Continue pos) (tS (gl X) W A sCont) := PS.imp ps_continue fun D σ H h => by
  obtain ⟨P, F0, F, fp, ε, ts, vs, R, hl, h⟩ := h
  exact h F H fp σ hl (.refl _ _) R
theorem sp_break : PS X (.Break pos) (tS (gl X) W A sBreak) := PS.imp ps_break fun D σ H h => by
  obtain ⟨P, F0, F, fp, ε, ts, vs, R, hl, h⟩ := h
  exact h F H fp σ hl (.refl _ _) R
theorem sp_doc {x : Str} {j : Nat} {pos' : Pos} : PS X (.Expr (.Constant (.str x) j pos) pos') (tS (gl X) W A sNext) := PS.imp ps_doc fun D σ H h => by
  obtain ⟨P, F0, F, fp, ε, ts, vs, R, hl, h⟩ := h
  exact h F H fp σ hl (.refl _ _) R
theorem sp_expr (he : PE X e (tE (gl X) W ve)) (hs : swapsWith e none pos.line X.env = pure false := by rfl) : PS X (.Expr e pos) (tS (gl X) W A (sDrop ve)) := PS.imp (ps_expr he hs) fun D σ H h => by
  obtain ⟨P, F0, F, fp, ε, ts, vs, R, hl, h⟩ := h
  exact ⟨P, F0, F, fp, ε, ts, vs, R, hl, Got.mono (GotS.ofR h) fun t ε1 h F1 H1 fp1 v1 l1 R1 ok1 => h F1 H1 fp1 σ l1 (.refl _ _) (R1.drop1 l1)⟩
theorem sp_ret (he : PE X e (tE (gl X) W ve)) : PS X (.Return (some e) pos) (tS (gl X) W A (sRet ve)) := PS.imp (ps_ret he) fun D σ H h => by
  obtain ⟨P, F0, F, fp, ε, ts, vs, R, hl, h⟩ := h
  refine ⟨P, F0, F, fp, ε, ts, vs, R, hl, Got.mono (Got.bind (GotS.ofR h)) fun t ε1 h F1 H1 fp1 v1 l1 R1 ok1 => ?_⟩
  obtain ⟨m, ε', fp', l', R', h⟩ := mv1_run l1 R1 ok1 h
  exact h F1 H1 fp' σ v1 l' (.refl _ _) R'
theorem sp_retN : PS X (.Return none pos) (tS (gl X) W A sRetN) := PS.imp ps_retN fun D σ H h => by
  obtain ⟨P, F0, F, fp, ε, ts, vs, R, hl, h⟩ := h
  obtain ⟨fp', R'⟩ := R.pushS (v := .non) (d := .none) .non
  exact h F H fp' σ .non hl (.refl _ _) R'
theorem sp_if {c : Expr} {a b : List Stmt} {tc : Tv} (hc : PT X c (tT (gl X) W tc)) (ha : PSs X a (tS (gl X) W A s1)) (hb : PSs X b (tS (gl X) W A s2)) : PS X (.If c a b pos) (tS (gl X) W A (sIf tc s1 s2)) := PS.imp (ps_if hc ha hb) fun D σ H h => by
  obtain ⟨P, F0, F, fp, ε, ts, vs, R, hl, h⟩ := h
  refine ⟨P, F0, F, fp, ε, ts, vs, R, hl, Got.mono (GotS.ofR h) fun k ε1 h F1 H1 fp1 l1 R1 => ?_⟩
  cases k with
  | true => exact ⟨P, F0, F1, fp1, ε1, ts, vs, R1, l1, h⟩
  | false => exact ⟨P, F0, F1, fp1, ε1, ts, vs, R1, l1, h⟩
end
/-- what is on top goes to a slot -/
theorem Rel.store {G : Glob} {P F0 F H : Hp} {ε ts : Env} {σ vs : L2.St} {fp : Nat → List Addr} {m : M} {v : V} {i : Nat} (hl : ε.length = σ.length) (R : Rel G P F0 F (ε ++ (ts ++ [some m])) (σ ++ (vs ++ [some v])) H fp) :
    ∃ fp', Rel G P F0 F (ε.set i (some m) ++ ts) (σ.set i (some v) ++ vs) H fp' := by
  have hz := R.len
  simp only [List.length_append, List.length_singleton] at hz
  by_cases hi : i < ε.length
  · refine ⟨fun j => if j = i then fp (ε.length + ts.length) else if j < ε.length + ts.length then fp j else [], ?_⟩
    have kind : ∀ j a, a ∈ (if j = i then fp (ε.length + ts.length) else if j < ε.length + ts.length then fp j else []) → (a ∈ fp (ε.length + ts.length) ∧ j = i) ∨ (a ∈ fp j ∧ j ≠ i ∧ j < ε.length + ts.length) := fun j a h => by
      split at h
      · exact .inl ⟨h, ‹_›⟩
      · split at h
        · exact .inr ⟨h, ‹_›, ‹_›⟩
        · cases h
    refine ⟨by simp only [List.length_append, List.length_set]; omega, fun j m' hj => ?_, fun j k a hj hk => ?_, fun j a hj => ?_, fun j a hj => ?_, R.pH, R.fH, R.f0, R.new⟩
    · by_cases hji : j = i
      · subst hji
        rw [List.getElem?_append_left (by rw [List.length_set]; exact hi), List.getElem?_set_self hi] at hj
        cases hj
        rw [List.getElem?_append_left (by rw [List.length_set]; omega), List.getElem?_set_self (by omega)]
        obtain ⟨w, h1, h2⟩ := R.own (ε.length + ts.length) m (by
          rw [← List.append_assoc, List.getElem?_append_right (by rw [List.length_append]; exact Nat.le_refl _), List.length_append, Nat.sub_self]
          rfl)
        rw [← List.append_assoc, List.getElem?_append_right (by rw [List.length_append]; omega), List.length_append, show ε.length + ts.length - (σ.length + vs.length) = 0 by omega] at h1
        cases h1
        exact ⟨v, rfl, by rw [if_pos rfl]; exact h2⟩
      · have hlt : j < ε.length + ts.length := by
          have := (List.getElem?_eq_some_iff.mp hj).1
          simpa only [List.length_append, List.length_set] using this
        have e1 : (ε ++ (ts ++ [some m]))[j]? = some (some m') := by
          rw [← List.append_assoc, List.getElem?_append_left (by rw [List.length_append]; exact hlt)]
          by_cases hj2 : j < ε.length
          · rw [List.getElem?_append_left (by rw [List.length_set]; exact hj2), List.getElem?_set_ne (fun q => hji q.symm)] at hj
            rw [List.getElem?_append_left hj2]
            exact hj
          · rw [List.getElem?_append_right (by rw [List.length_set]; omega), List.length_set] at hj
            rw [List.getElem?_append_right (by omega)]
            exact hj
        obtain ⟨w, h1, h2⟩ := R.own j m' e1
        refine ⟨w, ?_, by rw [if_neg hji, if_pos hlt]; exact h2⟩
        rw [← List.append_assoc, List.getElem?_append_left (by rw [List.length_append]; omega)] at h1
        by_cases hj2 : j < σ.length
        · rw [List.getElem?_append_left hj2] at h1
          rw [List.getElem?_append_left (by rw [List.length_set]; exact hj2), List.getElem?_set_ne (fun q => hji q.symm)]
          exact h1
        · rw [List.getElem?_append_right (by omega)] at h1
          rw [List.getElem?_append_right (by rw [List.length_set]; omega), List.length_set]
          exact h1
    · rcases kind j a hj with ⟨h1, h2⟩ | ⟨h1, h2, h3⟩ <;> rcases kind k a hk with ⟨g1, g2⟩ | ⟨g1, g2, g3⟩
      · rw [h2, g2]
      · have := R.dis _ _ a h1 g1; omega
      · have := R.dis _ _ a h1 g1; omega
      · exact R.dis j k a h1 g1
    · rcases kind j a hj with ⟨h1, _⟩ | ⟨h1, _, _⟩ <;> exact R.nof _ a h1
    · rcases kind j a hj with ⟨h1, _⟩ | ⟨h1, _, _⟩ <;> exact R.trk _ a h1
  · refine ⟨fp, ?_⟩
    rw [List.set_eq_of_length_le (by omega), List.set_eq_of_length_le (by omega)]
    exact R.drop1 hl
section
variable {X : L2.Cx} {W : WX} {A : List Nat} {e : Expr} {ve : Ev} {pos : Pos}
theorem tAsg_S {G : Glob} {i : Nat} (hA : i ∈ A) (D : Ends) (σ : L2.St) (H : Hp) (h : tS G W A (sAsg i ve) D σ H) : tAsg (tE G W ve) (gName i) D σ H := by
  obtain ⟨P, F0, F, fp, ε, ts, vs, R, hl, h⟩ := h
  refine ⟨P, F0, F, fp, ε, ts, vs, R, hl, Got.mono (Got.bind (GotS.ofR h)) fun t ε1 h F1 H1 fp1 v1 l1 R1 ok1 => ?_⟩
  obtain ⟨m, ε', fp', l', R', h⟩ := mv1_run l1 R1 ok1 h
  obtain ⟨fp2, R2⟩ := R'.store (i := i) l'
  exact h F1 H1 fp2 _ (by rw [List.length_set]; exact l') (.set hA) R2
theorem sp_set {i : Nat} {x : Str} {pos' : Pos} (hN : X.N.Nodup) (hi : X.N[i]? = some x) (hx : Loc X.env.scope x) (he : PE X e (tE (gl X) W ve)) (hA : i ∈ A := by decide) (hs : swapsWith e (some (.Name x pos')) pos.line X.env = pure false := by rfl)
    (hf : X.fn x = true ∨ X.env.scope.names.lookup x = some .local := by first | exact .inl rfl | exact .inr rfl | assumption) :
    PS X (.Assign [.Name x pos'] e pos) (tS (gl X) W A (sAsg i ve)) := PS.imp (ps_set hN hi hx he hs hf) (tAsg_S hA)
end

/-! ### a def by its body -/
/-- the mirror of a def: n slots, B its parameters that are stored to anew -/
def mkFn (n np : Nat) (B : List Nat) (sv : Sv) : Fn := fun ms =>
  if ms.length = np then
    match sv (ms.map some ++ List.replicate (n - np) none) with
    | .rt m ε => .ok m ((List.range np).map fun i => if i ∈ B then none else (ε[i]?).join)
    | .nx ε => .ok (.fz .none) ((List.range np).map fun i => if i ∈ B then none else (ε[i]?).join)
    | .ex x ε => .exc x ((List.range np).map fun i => if i ∈ B then none else (ε[i]?).join)
    | _ => .no
  else .no
theorem outs_rel {G : Glob} {P F0 F H : Hp} {ε ts : Env} {σ vs us : L2.St} {fp : Nat → List Addr} {np : Nat} {B : List Nat} (hl : ε.length = σ.length) (R : Rel G P F0 F (ε ++ ts) (σ ++ vs) H fp) (hu : us.length = np) (hn : np ≤ ε.length)
    (k : ∀ i, i < np → i ∉ B → σ[i]? = us[i]?) (ht : ts.length = vs.length) :
    ∃ fp', Rel G P F0 F ((List.range np).map (fun i => if i ∈ B then none else (ε[i]?).join) ++ ts) (us ++ vs) H fp' := by
  have e1 : ∀ i m, ((List.range np).map fun i => if i ∈ B then none else (ε[i]?).join)[i]? = some (some m) → i < np ∧ i ∉ B ∧ ε[i]? = some (some m) := fun i m h => by
    have hi : i < np := by
      have := (List.getElem?_eq_some_iff.mp h).1
      simpa using this
    rw [List.getElem?_map, List.getElem?_range hi] at h
    simp only [Option.map_some, Option.some.injEq] at h
    split at h
    · cases h
    · exact ⟨hi, ‹_›, join_some h⟩
  refine ⟨fun j => if j < np then fp j else if j < np + ts.length then fp (ε.length + (j - np)) else [], ?_⟩
  have kind : ∀ j a, a ∈ (if j < np then fp j else if j < np + ts.length then fp (ε.length + (j - np)) else []) → (a ∈ fp j ∧ j < np) ∨ (a ∈ fp (ε.length + (j - np)) ∧ np ≤ j) := fun j a h => by
    split at h
    · exact .inl ⟨h, ‹_›⟩
    · split at h
      · exact .inr ⟨h, by omega⟩
      · cases h
  refine ⟨by simp only [List.length_append, List.length_map, List.length_range]; omega, fun j m hj => ?_, fun j k a hj hk => ?_, fun j a hj => ?_, fun j a hj => ?_, R.pH, R.fH, R.f0, R.new⟩
  · by_cases hlt : j < np
    · rw [List.getElem?_append_left (by simpa using hlt)] at hj
      obtain ⟨h1, h2, h3⟩ := e1 j m hj
      obtain ⟨w, h4, h5⟩ := R.own j m (by rw [List.getElem?_append_left (by omega)]; exact h3)
      rw [List.getElem?_append_left (by omega), k j h1 h2] at h4
      exact ⟨w, by rw [List.getElem?_append_left (by omega)]; exact h4, by rw [if_pos hlt]; exact h5⟩
    · rw [List.getElem?_append_right (by simpa using hlt)] at hj
      simp only [List.length_map, List.length_range] at hj
      have hj2 : j - np < ts.length := (List.getElem?_eq_some_iff.mp hj).1
      obtain ⟨w, h4, h5⟩ := R.own (ε.length + (j - np)) m (by rw [List.getElem?_append_right (by omega), Nat.add_sub_cancel_left]; exact hj)
      rw [List.getElem?_append_right (by omega), show ε.length + (j - np) - σ.length = j - np by omega] at h4
      exact ⟨w, by rw [List.getElem?_append_right (by omega), hu]; exact h4, by rw [if_neg hlt, if_pos (by omega)]; exact h5⟩
  · rcases kind j a hj with ⟨h1, h2⟩ | ⟨h1, h2⟩ <;> rcases kind k a hk with ⟨g1, g2⟩ | ⟨g1, g2⟩
    · exact R.dis j k a h1 g1
    · have := R.dis _ _ a h1 g1; omega
    · have := R.dis _ _ a h1 g1; omega
    · have := R.dis _ _ a h1 g1; omega
  · rcases kind j a hj with ⟨h1, _⟩ | ⟨h1, _⟩ <;> exact R.nof _ a h1
  · rcases kind j a hj with ⟨h1, _⟩ | ⟨h1, _⟩ <;> exact R.trk _ a h1
theorem Rel.padN {G : Glob} {P F0 F H : Hp} {ε : Env} {σ : L2.St} {fp : Nat → List Addr} (R : Rel G P F0 F ε σ H fp) (n : Nat) : ∃ fp', Rel G P F0 F (ε ++ List.replicate n none) (σ ++ List.replicate n none) H fp' := by
  induction n with
  | zero =>
    rw [List.replicate_zero, List.replicate_zero, List.append_nil, List.append_nil]
    exact ⟨fp, R⟩
  | succ n ih =>
    obtain ⟨fp', R'⟩ := ih
    rw [List.replicate_succ', List.replicate_succ', ← List.append_assoc, ← List.append_assoc]
    exact ⟨_, R'.pushN none⟩
section
variable {P : Program} {w : World} {K : PySem.W.Frag} {mg : Str → Option Value} {base : Heap}
theorem fn_ok {x : Str} {st : Stmt} {f : Addr} {fd : FuncData} {N ps : List Str} {k : Nat} {B A : List Nat} {sv : Sv} (F : Fun K x x st f fd) (S : FnScope N ps (defScope st))
    (hB : ∀ i, i < ps.length → i ∉ B → i ∉ A)
    (body : ∀ (X : L2.Cx) (W : WX), X.prog = P → X.w = w → X.K = K → X.mg = mg → X.base = base → X.N = N → X.env.scope = defScope st → X.fn = (fun _ => true) → X.stack = X.env :: X.outer → X.env.frame = some X.env.locals →
      (∃ (q : Str) (f : Addr) (n : Nat) (cd : Value), X.env = envOfC q (defScope st) n f cd) →
      Stg X k W → Takes X W → PassesOwn (model X.prog X.w) X.A X.env X.xe → PSs X (defBody st) (tS (gl X) W A sv)) :
    FnOk P w K mg base (L2.CX P w) (k + 1) f fd ps (spF ⟨K, mg⟩ (mkFn N.length ps.length B sv)) := by
  have hpl : ps.length ≤ N.length := by
    have := congrArg List.length S.pre
    rw [List.length_take] at this
    omega
  refine F.okX S (fun vs H Q E h => ?_) (fun cdv Ar outer s H vs Q E hr h => ?_)
  · obtain ⟨P', F', fp, ms, R, h⟩ := h
    have hl := R.len
    rw [List.length_map, List.length_map] at hl
    unfold mkFn at h
    by_cases q : ms.length = ps.length
    · omega
    · rw [if_neg q] at h
      exact h.elim
  · obtain ⟨P', F', fp, ms, R, h⟩ := h
    have hl := R.len
    rw [List.length_map, List.length_map] at hl
    unfold mkFn at h
    by_cases qn : ms.length ≠ ps.length
    · rw [if_neg qn] at h
      exact h.elim
    have q : ms.length = ps.length := Decidable.not_not.mp qn
    rw [if_pos q] at h
    have tk : Takes (cxOf (L2.CX P w) P w K mg base N x (defScope st) f cdv Ar outer s H E) (fun cls d σ H' => E cls d H') := takes_of rfl rfl rfl rfl
    refine ⟨_, body _ (fun cls d σ H' => E cls d H') rfl rfl rfl rfl rfl rfl rfl rfl rfl rfl ⟨_, _, _, _, rfl⟩ ⟨rfl, hr, passAt tk⟩ tk (passes_of rfl), ?_⟩
    have hst : L2.start N vs = vs.map some ++ List.replicate (N.length - ps.length) none := by
      unfold L2.start
      rw [← hl, q]
    rw [hst]
    obtain ⟨fp1, R1⟩ := R.padN (N.length - ps.length)
    refine ⟨P', F', F', fp1, ms.map some ++ List.replicate (N.length - ps.length) none, [], [], by rw [List.append_nil, List.append_nil]; exact R1, ?_, ?_⟩
    · simp only [List.length_append, List.length_map, List.length_replicate]
      omega
    have hlen : (vs.map some ++ List.replicate (N.length - ps.length) (none : Option V)).length = N.length := by
      simp only [List.length_append, List.length_map, List.length_replicate]
      omega
    have hnp : ∀ (ε : Env), ε.length = (vs.map some ++ List.replicate (N.length - ps.length) (none : Option V)).length → ps.length ≤ ε.length := fun ε e => by omega
    have hk : ∀ σ', Keeps A (vs.map some ++ List.replicate (N.length - ps.length) none) σ' → ∀ i, i < ps.length → i ∉ B → σ'[i]? = (vs.map some)[i]? := fun σ' kk i hi hb => by
      rw [kk.2 i (hB i hi hb), List.getElem?_append_left (by rw [List.length_map]; omega)]
    have hlm : ms.length = ps.length := q
    cases qs : sv (ms.map some ++ List.replicate (N.length - ps.length) none) with
    | rt m ε =>
      rw [qs] at h
      intro F2 H2 fp2 σ' v l k2 R2
      rw [List.nil_append, List.nil_append] at R2
      obtain ⟨fp3, R3⟩ := outs_rel (B := B) (us := vs.map some) (np := ps.length) (l.trans k2.1.symm) R2 (by rw [List.length_map]; omega) (hnp ε l) (hk σ' k2) rfl
      exact h F2 H2 fp3 v (by rw [List.length_map, List.length_range]; omega) R3
    | nx ε =>
      rw [qs] at h
      intro F2 H2 fp2 σ' l k2 R2
      rw [List.append_nil, List.append_nil] at R2
      have R2' : Rel ⟨K, mg⟩ P' F' F2 (ε ++ []) (σ' ++ []) H2 fp2 := by rw [List.append_nil, List.append_nil]; exact R2
      obtain ⟨fp4, R4⟩ := R2'.pushS (v := .non) (d := .none) .non
      obtain ⟨fp3, R3⟩ := outs_rel (B := B) (us := vs.map some) (np := ps.length) (ts := [some (.fz .none)]) (vs := [some .non]) (l.trans k2.1.symm) R4 (by rw [List.length_map]; omega) (hnp ε l) (hk σ' k2) rfl
      exact h F2 H2 fp3 .non (by rw [List.length_map, List.length_range]; omega) R3
    | ex e ε =>
      rw [qs] at h
      intro F2 H2 fp2 σ' cls d l k2 R2 hx
      obtain ⟨fp3, R3⟩ := outs_rel (B := B) (us := vs.map some) (np := ps.length) (ts := []) (vs := []) (l.trans k2.1.symm) R2 (by rw [List.length_map]; omega) (hnp ε l) (hk σ' k2) rfl
      rw [List.append_nil, List.append_nil] at R3
      exact h F2 H2 fp3 cls d (by rw [List.length_map, List.length_range]; omega) R3 hx
    | bk ε => rw [qs] at h; exact h.elim
    | ct ε => rw [qs] at h; exact h.elim
    | no => rw [qs] at h; exact h.elim
end
end Sw

/-! SwF: what is walked, loops, comprehensions. -/
namespace Sw
open PySem PySem.Spec PyProof.Rows L2

/-! ### what is walked -/
/-- J gives just the things ds, one by one, while hs stand at hv -/
def WkOk (G : Glob) (J : It) (ds hs : List D) (hv : List V) : Prop := ∀ (F H : Hp), Same F H → RepAll G.K F hv hs →
  (∀ i, i < ds.length → J.go i H) ∧ J.stop ds.length H ∧ ∀ i x H', i < ds.length → J.yld i H x H' → ∃ F', Grow F H F' H' [] ∧ ∃ d, ds[i]? = some d ∧ Rep G.K F' x d
abbrev Iv := Env → Rs (List D × List D)
def hold (hs : List D) : Env := hs.map fun d => some (.fz d)
def tI (G : Glob) (W : WX) (iv : Iv) : TI := fun σ H Rk => ∃ (P F0 F : Hp) (fp : Nat → List Addr) (ε ts : Env) (vs : L2.St),
  Rel G P F0 F (ε ++ ts) (σ ++ vs) H fp ∧ ε.length = σ.length ∧ Got G W P F0 ts vs σ (iv ε) fun dh ε' =>
    ∀ F' H' fp' J hv, ε'.length = σ.length → Rel G P F0 F' (ε' ++ (ts ++ hold dh.2)) (σ ++ (vs ++ hv.map some)) H' fp' → WkOk G J dh.1 dh.2 hv → dh.1.length ≤ sizeLine → hv.length = dh.2.length → Rk J H'
/-- a target: what it does with a thing -/
abbrev Bd := D → Env → Option Env
def tG (G : Glob) (A : List Nat) (b : Bd) : TG := fun v σ H Q => ∃ (P F0 F : Hp) (fp : Nat → List Addr) (ε ts : Env) (vs : L2.St) (d : D),
  Rel G P F0 F (ε ++ ts) (σ ++ vs) H fp ∧ ε.length = σ.length ∧ Rep G.K F v d ∧ ∃ ε', b d ε = some ε' ∧ ∀ σ' fp', ε'.length = σ.length → Keeps A σ σ' → Rel G P F0 F (ε' ++ ts) (σ' ++ vs) H fp' → Q σ' H
def bNm (i : Nat) : Bd := fun d ε => some (ε.set i (some (.fz d)))
def bAll : List Bd → List D → Env → Option Env
  | [], [], ε => some ε
  | b :: bs, d :: ds, ε => (b d ε).bind fun ε' => bAll bs ds ε'
  | _, _, _ => none
def bTp (bs : List Bd) : Bd := fun d ε => match d with
  | .tuple ds => bAll bs ds ε
  | _ => none
def tGs (G : Glob) (A : List Nat) (bs : List Bd) : TGs := fun xs σ H Q => ∃ (P F0 F : Hp) (fp : Nat → List Addr) (ε ts : Env) (vs : L2.St) (ds : List D),
  Rel G P F0 F (ε ++ ts) (σ ++ vs) H fp ∧ ε.length = σ.length ∧ RepAll G.K F xs ds ∧ ∃ ε', bAll bs ds ε = some ε' ∧ ∀ σ' fp', ε'.length = σ.length → Keeps A σ σ' → Rel G P F0 F (ε' ++ ts) (σ' ++ vs) H fp' → Q σ' H
theorem PG.imp {X : L2.Cx} {e : Expr} {t t' : TG} (h : PG X e t) (k : ∀ v σ H Q, t' v σ H Q → t v σ H Q) : PG X e t' := ⟨fun pins s σ H x v Q I r hw => h.run pins s σ H x v Q I r (k _ _ _ _ hw)⟩
theorem PGs.imp {X : L2.Cx} {e : List Expr} {t t' : TGs} (h : PGs X e t) (k : ∀ v σ H Q, t' v σ H Q → t v σ H Q) : PGs X e t' := ⟨fun pins s σ H x v Q I r hw => h.run pins s σ H x v Q I r (k _ _ _ _ hw)⟩
theorem PI.imp {X : L2.Cx} {tg e : Expr} {t t' : TI} (h : PI X tg e t) (k : ∀ σ H R, t' σ H R → t σ H R) : PI X tg e t' := ⟨fun pins s σ H R I hw => h.run pins s σ H R I (k _ _ _ hw)⟩
theorem PI.or {X : L2.Cx} {tg e : Expr} {t t' : TI} (h : PI X tg e t) (h' : PI X tg e t') : PI X tg e (fun σ H R => t σ H R ∨ t' σ H R) := ⟨fun pins s σ H R I hw => by
  rcases hw with hw | hw
  · exact h.run pins s σ H R I hw
  · exact h'.run pins s σ H R I hw⟩
section
variable {X : L2.Cx} {W : WX} {A : List Nat} {pos : Pos}
theorem sg_name {i : Nat} {x : Str} (hN : X.N.Nodup) (hi : X.N[i]? = some x) (hx : Loc X.env.scope x) (hA : i ∈ A := by decide) (hf : X.fn x = true ∨ X.env.scope.names.lookup x = some .local := by first | exact .inl rfl | exact .inr rfl | assumption) :
    PG X (.Name x pos) (tG (gl X) A (bNm i)) := PG.imp (pg_name hN hi hx hf) fun v σ H Q h => by
  obtain ⟨P, F0, F, fp, ε, ts, vs, d, R, hl, r, ε', e, h⟩ := h
  cases e
  obtain ⟨fp2, R2⟩ := R.pushS r
  obtain ⟨fp3, R3⟩ := R2.store (i := i) hl
  exact h _ fp3 (by rw [List.length_set]; exact hl) (.set hA) R3
theorem sgs_nil : PGs X [] (tGs (gl X) A []) := PGs.imp pgs_nil fun xs σ H Q h => by
  obtain ⟨P, F0, F, fp, ε, ts, vs, ds, R, hl, r, ε', e, h⟩ := h
  cases ds with
  | cons d ds => cases e
  | nil =>
    cases r
    cases e
    exact ⟨rfl, h σ fp hl (.refl _ _) R⟩
theorem sgs_cons {e : Expr} {es : List Expr} {b : Bd} {bs : List Bd} (h1 : PG X e (tG (gl X) A b)) (h2 : PGs X es (tGs (gl X) A bs))
    (hs : (assignEach (e :: es) X.env).map (·.2) = assign e X.env :: (assignEach es X.env).map (·.2) := by rfl) : PGs X (e :: es) (tGs (gl X) A (b :: bs)) := PGs.imp (pgs_cons h1 h2 hs) fun xs σ H Q h => by
  obtain ⟨P, F0, F, fp, ε, ts, vs, ds, R, hl, r, ε', e, h⟩ := h
  cases ds with
  | nil => cases e
  | cons d ds =>
    cases r with
    | cons r1 r2 =>
      rename_i v us
      have e : ((b d ε).bind fun ε' => bAll bs ds ε') = some ε' := e
      cases q : b d ε with
      | none => rw [q] at e; cases e
      | some ε1 =>
        rw [q] at e
        refine ⟨v, us, rfl, P, F0, F, fp, ε, ts, vs, d, R, hl, r1, ε1, q, fun σ' fp' l k R' => ?_⟩
        exact ⟨P, F0, F, fp', ε1, ts, vs, ds, R', l.trans k.1.symm, r2, ε', e, fun σ2 fp2 l2 k2 R2 => h σ2 fp2 (l2.trans k.1) (k.trans k2) R2⟩
theorem bAll_len : ∀ {bs : List Bd} {ds : List D} {ε ε' : Env}, bAll bs ds ε = some ε' → ds.length = bs.length
  | [], [], _, _, _ => rfl
  | [], d :: ds, _, _, h => by cases h
  | b :: bs, [], _, _, h => by cases h
  | b :: bs, d :: ds, ε, ε', h => by
    have h : ((b d ε).bind fun ε' => bAll bs ds ε') = some ε' := h
    cases q : b d ε with
    | none => rw [q] at h; cases h
    | some ε1 =>
      rw [q] at h
      rw [List.length_cons, bAll_len (show bAll bs ds ε1 = some ε' from h), List.length_cons]
theorem sg_tup {es : List Expr} {k : Nat} {bs : List Bd} (hc : X.calm = true) (h : PGs X es (tGs (gl X) A bs)) (hn : (assignEach es X.env).length = bs.length := by rfl) (hst : (assignEach es X.env).findIdx? (·.1) = none := by rfl) :
    PG X (.Tuple es k pos) (tG (gl X) A (bTp bs)) := PG.imp (pg_tup hc h hn hst) fun v σ H Q h => by
  obtain ⟨P, F0, F, fp, ε, ts, vs, d, R, hl, r, ε', e, h⟩ := h
  cases d with
  | tuple ds =>
    cases r with
    | tup hs hz ra =>
      exact ⟨_, _, rfl, Same.sqT R.fH hs, by rw [ra.length]; exact bAll_len (show bAll bs ds ε = some ε' from e), P, F0, F, fp, ε, ts, vs, ds, R, hl, ra, ε', e, h⟩
  | _ => cases e
end

/-! ### a list, a tuple, a text that is walked -/
def iSeq (ev : Ev) : Iv := fun ε => (eFz ev ε).bind fun t ε1 => match t with
  | .val (.fz (.list ds)) => .ok (ds, [.list ds]) ε1
  | .val (.fz (.tuple ds)) => .ok (ds, [.tuple ds]) ε1
  | .val (.fz (.str s)) => .ok (s.cps.toList.map fun c => .str ⟨#[c]⟩, [.str s]) ε1
  | _ => .no
theorem wk_list {G : Glob} {a : Addr} {ds : List D} : WkOk G (Itl G.K a) ds [.list ds] [.ref a] := fun F H sf ra => by
  cases ra with
  | cons r t =>
    cases t
    cases r with
    | lst hs hz rr =>
      rename_i xs
      have W := walk_list (K := G.K) (a := a) (xs := xs)
      have hl := rr.length
      have hs' : SqL G.K H a xs := Same.sqL sf hs
      refine ⟨fun i hi => W.goes i H (by omega) hs', by rw [← hl]; exact W.stops H hs', fun i x H' hi y => ?_⟩
      obtain ⟨e1, e2⟩ := W.yields i H x H' (by omega) hs' y
      subst e1
      have hi' : i < ds.length := hi
      obtain ⟨v, g1, g2⟩ := rr.get (i := i) (List.getElem?_eq_getElem hi')
      rw [e2] at g1
      cases g1
      exact ⟨F, Grow.refl sf, _, List.getElem?_eq_getElem hi', g2⟩
theorem wk_tup {G : Glob} {a : Addr} {ds : List D} : WkOk G (Itt G.K a) ds [.tuple ds] [.ref a] := fun F H sf ra => by
  cases ra with
  | cons r t =>
    cases t
    cases r with
    | tup hs hz rr =>
      rename_i xs
      have W := walk_tup (K := G.K) (a := a) (xs := xs)
      have hl := rr.length
      have hs' := Same.sqT sf hs
      refine ⟨fun i hi => W.goes i H (by omega) hs', by rw [← hl]; exact W.stops H hs', fun i x H' hi y => ?_⟩
      obtain ⟨e1, e2⟩ := W.yields i H x H' (by omega) hs' y
      subst e1
      have hi' : i < ds.length := hi
      obtain ⟨v, g1, g2⟩ := rr.get (i := i) (List.getElem?_eq_getElem hi')
      rw [e2] at g1
      cases g1
      exact ⟨F, Grow.refl sf, _, List.getElem?_eq_getElem hi', g2⟩
theorem strW1 {s : Str} (h : StrW s) {i c : Nat} (e : s.cps[i]? = some c) : StrW ⟨#[c]⟩ := by
  refine ⟨?_, by show 1 ≤ sizeLine; decide⟩
  have h1 : s.cps.all (· < 0x110000) = true := h.1
  have hi := (Array.getElem?_eq_some_iff.mp e)
  obtain ⟨hi, rfl⟩ := hi
  have h2 := (Array.all_eq_true.mp h1) i hi
  show (#[s.cps[i]] : Array Nat).all (· < 0x110000) = true
  simpa using h2
theorem wk_str {G : Glob} {s : Str} : WkOk G (Its s) (s.cps.toList.map fun c => .str ⟨#[c]⟩) [.str s] [.str s] := fun F H sf ra => by
  cases ra with
  | cons r t =>
    cases t
    cases r with
    | str x hx =>
      have W := walk_str (z := s)
      have hl : (s.cps.toList.map fun c => (PyData.str ⟨#[c]⟩ : D)).length = s.cps.size := by simp
      refine ⟨fun i hi => W.goes i H (by omega) trivial, by rw [hl]; exact W.stops H trivial, fun i x H' hi y => ?_⟩
      obtain ⟨e1, c, e2, e3⟩ := W.yields i H x H' (by omega) trivial y
      subst e1 e3
      refine ⟨F, Grow.refl sf, .str ⟨#[c]⟩, ?_, .str _ (strW1 hx e2)⟩
      rw [List.getElem?_map, Array.getElem?_toList, e2]
      rfl
section
variable {X : L2.Cx} {W : WX} {tg e : Expr} {ve : Ev} {pos : Pos}
theorem hold1 {G : Glob} {P F0 F H : Hp} {ε ts : Env} {σ vs : L2.St} {fp : Nat → List Addr} {d : D} {v : V} (R : Rel G P F0 F (ε ++ (ts ++ [some (.fz d)])) (σ ++ (vs ++ [some v])) H fp) :
    Rel G P F0 F (ε ++ (ts ++ hold [d])) (σ ++ (vs ++ [v].map some)) H fp := R
theorem si_seq (he : PE X e (tE (gl X) W ve)) : PI X tg e (tI (gl X) W (iSeq ve)) := PI.imp (PI.or (pi_list he) (PI.or (pi_tup he) (pi_str he))) fun σ H Rk h => by
  obtain ⟨P, F0, F, fp, ε, ts, vs, R, hl, h⟩ := h
  have h := Got.bind h
  cases q : eFz ve ε with
  | no => rw [q] at h; exact h.elim
  | exc x ε' =>
    rw [q] at h
    refine .inl (eFz_run σ H _ ⟨P, F0, F, fp, ε, ts, vs, R, hl, ?_⟩)
    rw [q]
    exact h
  | ok t ε1 =>
    rw [q] at h
    have go : ∀ (K : T → Env → Prop), K t ε1 → Got (gl X) W P F0 ts vs σ (eFz ve ε) K := fun K k => by rw [q]; exact k
    have h : Got (gl X) W P F0 ts vs σ (match t with
      | .val (.fz (.list ds)) => Rs.ok (ds, [PyData.list ds]) ε1
      | .val (.fz (.tuple ds)) => .ok (ds, [PyData.tuple ds]) ε1
      | .val (.fz (.str s)) => .ok (s.cps.toList.map fun c => PyData.str ⟨#[c]⟩, [PyData.str s]) ε1
      | _ => .no) _ := h
    split at h
    · rename_i ds _
      refine .inl (eFz_run σ H _ ⟨P, F0, F, fp, ε, ts, vs, R, hl, go _ fun F1 H1 fp1 v1 l1 R1 ok1 => ?_⟩)
      obtain ⟨p, o⟩ := get_last (t := .val (.fz (.list ds))) l1 R1 ok1 rfl
      obtain ⟨r, _⟩ := o.rep
      cases r with
      | lst hs hz rr => exact ⟨_, rfl, ⟨_, Same.sqL R1.fH hs⟩, h F1 H1 fp1 _ [_] l1 (hold1 R1) wk_list (by rw [← rr.length]; exact hz) rfl⟩
    · rename_i ds _
      refine .inr (.inl (eFz_run σ H _ ⟨P, F0, F, fp, ε, ts, vs, R, hl, go _ fun F1 H1 fp1 v1 l1 R1 ok1 => ?_⟩))
      obtain ⟨p, o⟩ := get_last (t := .val (.fz (.tuple ds))) l1 R1 ok1 rfl
      obtain ⟨r, _⟩ := o.rep
      cases r with
      | tup hs hz rr => exact ⟨_, rfl, ⟨_, Same.sqT R1.fH hs⟩, h F1 H1 fp1 _ [_] l1 (hold1 R1) wk_tup (by rw [← rr.length]; exact hz) rfl⟩
    · rename_i s _
      refine .inr (.inr (eFz_run σ H _ ⟨P, F0, F, fp, ε, ts, vs, R, hl, go _ fun F1 H1 fp1 v1 l1 R1 ok1 => ?_⟩))
      obtain ⟨p, o⟩ := get_last (t := .val (.fz (.str s))) l1 R1 ok1 rfl
      obtain ⟨r, _⟩ := o.rep
      cases r with
      | str x hx => exact ⟨_, rfl, h F1 H1 fp1 _ [_] l1 (hold1 R1) wk_str (by
          rw [List.length_map, Array.length_toList]
          exact hx.2) rfl⟩
    · exact h.elim
end

/-! ### range, enumerate, zip: by their arguments -/
def iArgs (f : List D → Option (List D)) (es : List Ev) : Iv := fun ε => (aList (es.map eFz) ε).bind fun l ε1 => match (fzs l).bind fun ds => (f ds).map fun items => (items, ds) with
  | some r => .ok r ε1
  | none => .no
theorem fzs_slots : ∀ {l : List T} {ds : List D}, fzs l = some ds → l.map T.slot = hold ds
  | [], ds, h => by cases h; rfl
  | .val (.fz d) :: l, ds, h => by
    unfold fzs at h
    cases e : fzs l with
    | none => rw [e] at h; cases h
    | some es =>
      rw [e] at h
      cases h
      show some (M.fz d) :: l.map T.slot = some (M.fz d) :: hold es
      rw [fzs_slots e]
  | .val (.ol _) :: l, ds, h => by cases h
  | .val (.od _) :: l, ds, h => by cases h
  | .val (.odl _) :: l, ds, h => by cases h
  | .val (.ob _ _) :: l, ds, h => by cases h
  | .val (.ex _ _) :: l, ds, h => by cases h
  | .var _ :: l, ds, h => by cases h
theorem iArgs_run {G : Glob} {W : WX} {f : List D → Option (List D)} {ves : List Ev} {σ : L2.St} {H : Hp} {Rk : It → Hp → Prop} (h : tI G W (iArgs f ves) σ H Rk) (Q : List V → Hp → Prop)
    (k : ∀ F H us ds items, Same F H → RepAll G.K F us ds → f ds = some items → (∀ J, WkOk G J items ds us → items.length ≤ sizeLine → Rk J H) → Q us H) : tA G W (aList (ves.map eFz)) σ H Q := by
  obtain ⟨P, F0, F, fp, ε, ts, vs, R, hl, h⟩ := h
  have hz : ts.length = vs.length := by
    have := R.len
    simp only [List.length_append] at this
    omega
  refine ⟨P, F0, F, fp, ε, ts, vs, R, hl, Got.mono (Got.bind h) fun l ε1 h F1 H1 fp1 us l1 R1 ok1 => ?_⟩
  cases e : fzs l with
  | none => rw [e] at h; exact h.elim
  | some ds =>
    rw [e] at h
    cases e2 : f ds with
    | none =>
      simp only [Option.bind_some, e2, Option.map_none] at h
      exact h.elim
    | some items =>
      simp only [Option.bind_some, e2, Option.map_some] at h
      have ra := fzs_at l1 l us ds ts vs R1 hz ok1 e
      refine k F1 H1 us ds items R1.fH ra e2 fun J w hs => ?_
      rw [fzs_slots e] at R1
      exact h F1 H1 fp1 J us l1 R1 w hs ra.length
def rangeD (lo c : Int) (n : Nat) : List D := (List.range n).map fun i => .int (lo + (i : Nat) * c)
def range1 : List D → Option (List D)
  | [.int j] => if -1000000 ≤ j ∧ j ≤ 1000000 then some (rangeD 0 1 j.toNat) else none
  | _ => none
def range2 : List D → Option (List D)
  | [.int i, .int j] => if (-1000000 ≤ i ∧ i ≤ 1000000) ∧ -1000000 ≤ j ∧ j ≤ 1000000 then some (rangeD i 1 (j - i).toNat) else none
  | _ => none
/-- downwards -/
def range3 : List D → Option (List D)
  | [.int i, .int j, .int c] => if (-1000000 ≤ i ∧ i ≤ 1000000) ∧ (-1000000 ≤ j ∧ j ≤ 1000000) ∧ c = -1 then some (rangeD i (-1) (i - j).toNat) else none
  | _ => none
theorem rangeD_len {lo c : Int} {n : Nat} : (rangeD lo c n).length = n := by unfold rangeD; rw [List.length_map, List.length_range]
theorem million : (2000000 : Nat) ≤ sizeLine := by decide
theorem wk_rangeC {G : Glob} {lo c : Int} {n : Nat} {hs : List D} {hv : List V} : WkOk G (Itc lo c n) (rangeD lo c n) hs hv := fun F H sf ra => by
  have W := walk_rangeC (lo := lo) (c := c) (n := n)
  refine ⟨fun i hi => W.goes i H (by rw [rangeD_len] at hi; omega) trivial, by rw [rangeD_len]; exact W.stops H trivial, fun i x H' hi y => ?_⟩
  rw [rangeD_len] at hi
  obtain ⟨e1, e2⟩ := W.yields i H x H' hi trivial y
  subst e1
  refine ⟨F, Grow.refl sf, .int (lo + (i : Nat) * c), ?_, by rw [e2]; exact .int _⟩
  unfold rangeD
  rw [List.getElem?_map, List.getElem?_range hi]
  rfl
theorem wk_range {G : Glob} {lo : Int} {n : Nat} {hs : List D} {hv : List V} : WkOk G (Itr lo n) (rangeD lo 1 n) hs hv := fun F H sf ra => by
  have W := walk_range (lo := lo) (n := n)
  refine ⟨fun i hi => W.goes i H (by rw [rangeD_len] at hi; omega) trivial, by rw [rangeD_len]; exact W.stops H trivial, fun i x H' hi y => ?_⟩
  rw [rangeD_len] at hi
  obtain ⟨e1, e2⟩ := W.yields i H x H' hi trivial y
  subst e1
  refine ⟨F, Grow.refl sf, .int (lo + (i : Nat) * 1), ?_, by rw [e2, Int.mul_one]; exact .int _⟩
  unfold rangeD
  rw [List.getElem?_map, List.getElem?_range hi]
  rfl
section
variable {X : L2.Cx} {W : WX} {tg : Expr} {pos p : Pos} {a b c : Expr} {ves : List Ev}
theorem si_range1 (hg : Gl X "range") (hm : X.mg "range" = none) (ha : PA X [a] (tA (gl X) W (aList (ves.map eFz)))) (hs : starEach [a] X.env = [(false, eval a X.env)] := by rfl) :
    PI X tg (.Call (.Name "range" p) [a] [] pos) (tI (gl X) W (iArgs range1 ves)) := PI.imp (pi_range1 hg hm ha hs) fun σ H Rk h => iArgs_run h _ fun F H us ds items sf ra e k => by
  have hb := million
  unfold range1 at e
  split at e
  · rename_i j
    split at e
    · cases e
      cases ra with
      | cons r t =>
        cases t
        cases r
        exact ⟨j, rfl, by omega, by omega, k _ wk_range (by rw [rangeD_len]; omega)⟩
    · cases e
  · cases e
theorem si_range2 (hg : Gl X "range") (hm : X.mg "range" = none) (ha : PA X [a, b] (tA (gl X) W (aList (ves.map eFz)))) (hs : starEach [a, b] X.env = [(false, eval a X.env), (false, eval b X.env)] := by rfl) (hs2 : starEach [b] X.env = [(false, eval b X.env)] := by rfl) :
    PI X tg (.Call (.Name "range" p) [a, b] [] pos) (tI (gl X) W (iArgs range2 ves)) := PI.imp (pi_range2 hg hm ha hs hs2) fun σ H Rk h => iArgs_run h _ fun F H us ds items sf ra e k => by
  have hb := million
  unfold range2 at e
  split at e
  · rename_i i j
    split at e
    · cases e
      cases ra with
      | cons r t =>
        cases r
        cases t with
        | cons r t =>
          cases t
          cases r
          exact ⟨i, j, rfl, by omega, k _ wk_range (by rw [rangeD_len]; omega)⟩
    · cases e
  · cases e
theorem si_range3 (hg : Gl X "range") (hm : X.mg "range" = none) (ha : PA X [a, b, c] (tA (gl X) W (aList (ves.map eFz)))) (hs : starEach [a, b, c] X.env = (false, eval a X.env) :: starEach [b, c] X.env := by rfl) (hpl : (backTo pos (starEach [b, c] X.env)).any (·.1) = false := by rfl) :
    PI X tg (.Call (.Name "range" p) [a, b, c] [] pos) (tI (gl X) W (iArgs range3 ves)) := PI.imp (pi_range3 hg hm ha hs hpl) fun σ H Rk h => iArgs_run h _ fun F H us ds items sf ra e k => by
  have hb := million
  unfold range3 at e
  split at e
  · rename_i i j c
    split at e
    · rename_i hc
      cases e
      obtain ⟨h1, h2, rfl⟩ := hc
      cases ra with
      | cons r t =>
        cases r
        cases t with
        | cons r t =>
          cases r
          cases t with
          | cons r t =>
            cases t
            cases r
            exact ⟨i, j, -1, _, rfl, RgC.neg (by omega) (by omega) (by omega) (by omega), k _ wk_rangeC (by rw [rangeD_len]; omega)⟩
    · cases e
  · cases e
end
/-! ### enumerate, zip -/
def enumD (ds : List D) : List D := (List.range ds.length).map fun i => .tuple [.int (i : Nat), ds.getD i .none]
def enumOf : List D → Option (List D)
  | [.list ds] => some (enumD ds)
  | [.tuple ds] => some (enumD ds)
  | _ => none
def zipD (ds es : List D) : List D := (List.range (min ds.length es.length)).map fun i => .tuple [ds.getD i .none, es.getD i .none]
def seqD : D → Option (List D)
  | .list ds => some ds
  | .tuple ds => some ds
  | _ => none
theorem enumD_len {ds : List D} : (enumD ds).length = ds.length := by unfold enumD; rw [List.length_map, List.length_range]
theorem enumD_get {ds : List D} {i : Nat} {d : D} (h : ds[i]? = some d) : (enumD ds)[i]? = some (.tuple [.int (i : Nat), d]) := by
  have hi := (List.getElem?_eq_some_iff.mp h).1
  unfold enumD
  rw [List.getElem?_map, List.getElem?_range hi]
  show some (PyData.tuple [.int (i : Nat), ds.getD i .none]) = _
  rw [List.getD_eq_getElem?_getD, h]
  rfl
theorem zipD_len {ds es : List D} : (zipD ds es).length = min ds.length es.length := by unfold zipD; rw [List.length_map, List.length_range]
theorem zipD_get {ds es : List D} {i : Nat} {d e : D} (h : ds[i]? = some d) (h' : es[i]? = some e) : (zipD ds es)[i]? = some (.tuple [d, e]) := by
  have hi := (List.getElem?_eq_some_iff.mp h).1
  have hi' := (List.getElem?_eq_some_iff.mp h').1
  unfold zipD
  rw [List.getElem?_map, List.getElem?_range (by omega)]
  show some (PyData.tuple [ds.getD i .none, es.getD i .none]) = _
  rw [List.getD_eq_getElem?_getD, h, List.getD_eq_getElem?_getD, h']
  rfl
/-- a new pair -/
theorem pair_new {G : Glob} {F H : Hp} {T : Addr} {x y : V} {d e : D} (sf : Same F H) (hT : H T = none) (r1 : Rep G.K F x d) (r2 : Rep G.K F y e) :
    ∃ F', Grow F H F' (upd H T (.tup [x, y])) [] ∧ Rep G.K F' (.ref T) (.tuple [d, e]) :=
  ⟨_, Grow.fz sf hT, .tup (.inl (.inl upd_same)) (by show 2 ≤ sizeLine; decide) (.cons (r1.mono (Grow.fz sf hT).sF) (.cons (r2.mono (Grow.fz sf hT).sF) .nil))⟩
theorem wk_enumL {G : Glob} {a : Addr} {ds : List D} : WkOk G (Ite G.K a) (enumD ds) [.list ds] [.ref a] := fun F H sf ra => by
  cases ra with
  | cons r t =>
    cases t
    cases r with
    | lst hs hz rr =>
      rename_i xs
      have W := walk_enum (K := G.K) (a := a) (xs := xs)
      have hl := rr.length
      have hs' : SqL G.K H a xs := Same.sqL sf hs
      refine ⟨fun i hi => W.goes i H (by rw [enumD_len] at hi; omega) hs', by rw [enumD_len, ← hl]; exact W.stops H hs', fun i x H' hi y => ?_⟩
      rw [enumD_len] at hi
      obtain ⟨T, x1, x2, e1, e2, e3, e4, e5⟩ := W.yields i H x H' (by omega) hs' y
      obtain ⟨v, g1, g2⟩ := rr.get (i := i) (List.getElem?_eq_getElem hi)
      have e5 : xs[i]? = some x2 := e5
      rw [e5] at g1
      cases g1
      cases e4
      subst e1 e3
      obtain ⟨F', g, r'⟩ := pair_new (G := G) sf e2 (.int (i : Nat)) g2
      exact ⟨F', g, _, enumD_get (List.getElem?_eq_getElem hi), r'⟩
end Sw

/-! SwG: while, for, comprehensions. -/
namespace Sw
open PySem PySem.Spec PyProof.Rows L2

/-! ### while -/
def sWhile (c : Tv) (b : Sv) : Nat → Sv
  | 0 => fun _ => .no
  | n + 1 => fun ε => SR.ofR (c ε) fun k ε1 => if k = true then (match b ε1 with
    | .nx ε2 => sWhile c b n ε2
    | .ct ε2 => sWhile c b n ε2
    | .bk ε2 => .nx ε2
    | r => r) else .nx ε1
section
variable {X : L2.Cx} {W : WX} {A : List Nat} {pos : Pos}
theorem sp_while {c : Expr} {body : List Stmt} {tc : Tv} {sb : Sv} (n : Nat) (hp : PassesOwn (model X.prog X.w) X.A X.env X.xe) (hc : PT X c (tT (gl X) W tc)) (hb : PSs X body (tS (gl X) W A sb)) :
    PS X (.While c body [] pos) (tS (gl X) W A (sWhile tc sb n)) := PS.imp (ps_while hp hc hb) fun D σ0 H0 h => by
  obtain ⟨P, F0, F, fp, ε, ts, vs, R, hl, h⟩ := h
  refine ⟨fun m σ H => ∃ (F : Hp) (fp : Nat → List Addr) (ε : Env), Rel (gl X) P F0 F (ε ++ ts) (σ ++ vs) H fp ∧ ε.length = σ.length ∧ GotS (gl X) W A P F0 ts vs σ D (sWhile tc sb m ε), ⟨n, F, fp, ε, R, hl, h⟩, ?_⟩
  rintro m σ H ⟨F, fp, ε, R, hl, h⟩
  cases m with
  | zero => exact h.elim
  | succ m =>
    refine ⟨P, F0, F, fp, ε, ts, vs, R, hl, Got.mono (GotS.ofR h) fun k ε1 h F1 H1 fp1 l1 R1 => ?_⟩
    cases k with
    | false =>
      rw [if_neg Bool.false_ne_true]
      exact h F1 H1 fp1 σ l1 (.refl _ _) R1
    | true =>
      rw [if_pos rfl]
      rw [if_pos rfl] at h
      refine ⟨fun σ' H' => ∃ (F : Hp) (fp : Nat → List Addr) (ε' : Env), Rel (gl X) P F0 F (ε' ++ ts) (σ' ++ vs) H' fp ∧ ε'.length = σ'.length ∧ GotS (gl X) W A P F0 ts vs σ' D (sWhile tc sb m ε'), fun σ' H' q => ⟨m, Nat.lt_succ_self m, q⟩, ?_⟩
      refine ⟨P, F0, F1, fp1, ε1, ts, vs, R1, l1, ?_⟩
      cases q : sb ε1 with
      | nx ε2 =>
        rw [q] at h
        exact fun F' H' fp' σ' l k R' => ⟨F', fp', ε2, R', l.trans k.1.symm, GotS.keep k h⟩
      | ct ε2 =>
        rw [q] at h
        exact fun F' H' fp' σ' l k R' => ⟨F', fp', ε2, R', l.trans k.1.symm, GotS.keep k h⟩
      | bk ε2 => rw [q] at h; exact h
      | rt m' ε2 => rw [q] at h; exact h
      | ex x ε2 => rw [q] at h; exact h
      | no => rw [q] at h; exact h
end

/-! ### for -/
def forR (b : Bd) (body : Sv) : List D → Sv
  | [], ε => .nx ε
  | d :: ds, ε => match b d ε with
    | none => .no
    | some ε1 => match body ε1 with
      | .nx ε2 => forR b body ds ε2
      | .ct ε2 => forR b body ds ε2
      | .bk ε2 => .nx ε2
      | r => r
def sFor (iv : Iv) (b : Bd) (body : Sv) : Sv := fun ε => SR.ofR (iv ε) fun dh ε1 => forR b body dh.1 ε1
theorem hold_len (hs : List D) : (hold hs).length = hs.length := List.length_map _
section
variable {G : Glob} {P F0 F H : Hp} {ε ts : Env} {σ vs : L2.St} {fp : Nat → List Addr} {hs : List D} {hv : List V}
/-- what is held stands as it stood -/
theorem hold_rep (hl : ε.length = σ.length) (hz : ts.length = vs.length) (hh : hv.length = hs.length) (R : Rel G P F0 F (ε ++ (ts ++ hold hs)) (σ ++ (vs ++ hv.map some)) H fp) : RepAll G.K F hv hs := by
  induction hs generalizing ts vs hv with
  | nil =>
    cases hv with
    | nil => exact .nil
    | cons v hv => cases hh
  | cons d hs ih =>
    cases hv with
    | nil => cases hh
    | cons v hv =>
      refine .cons ?_ (ih (ts := ts ++ [some (.fz d)]) (vs := vs ++ [some v]) (by simp [hz]) (by simpa using hh) (by rw [List.append_assoc, List.append_assoc]; exact R))
      obtain ⟨p, o⟩ := get_ts (t := .val (.fz d)) hl (j := ts.length) R (by rw [List.getElem?_append_right (Nat.le_refl _), Nat.sub_self]; rfl) (by rw [hz, List.getElem?_append_right (Nat.le_refl _), Nat.sub_self]; rfl) (fun j hj => by cases hj) rfl
      exact o.rep.1
theorem Rel.dropMid {m : M} {v : V} (hl : ε.length = σ.length) (hz : ts.length = vs.length) (hh : hv.length = hs.length) (R : Rel G P F0 F (ε ++ ((ts ++ hold hs) ++ [some m])) (σ ++ ((vs ++ hv.map some) ++ [some v])) H fp) :
    ∃ fp', Rel G P F0 F (ε ++ (ts ++ [some m])) (σ ++ (vs ++ [some v])) H fp' := by
  -- what is on top is moved ahead of what is held, then this is dropped
  have hn := hold_len hs
  refine ⟨fun j => if j < ε.length + ts.length then fp j else if j = ε.length + ts.length then fp (ε.length + ts.length + hs.length) else [], ?_⟩
  have kind : ∀ j a, a ∈ (if j < ε.length + ts.length then fp j else if j = ε.length + ts.length then fp (ε.length + ts.length + hs.length) else []) → (a ∈ fp j ∧ j < ε.length + ts.length) ∨ (a ∈ fp (ε.length + ts.length + hs.length) ∧ j = ε.length + ts.length) := fun j a h => by
    split at h
    · exact .inl ⟨h, ‹_›⟩
    · split at h
      · exact .inr ⟨h, ‹_›⟩
      · cases h
  refine ⟨by simp only [List.length_append, List.length_singleton]; omega, fun j m' hj => ?_, fun j k a hj hk => ?_, fun j a hj => ?_, fun j a hj => ?_, R.pH, R.fH, R.f0, R.new⟩
  · by_cases hlt : j < ε.length + ts.length
    · rw [← List.append_assoc, List.getElem?_append_left (by rw [List.length_append]; exact hlt)] at hj
      obtain ⟨w, h1, h2⟩ := R.own j m' (by rw [List.append_assoc ts, ← List.append_assoc, List.getElem?_append_left (by rw [List.length_append]; exact hlt)]; exact hj)
      rw [List.append_assoc vs, ← List.append_assoc, List.getElem?_append_left (by rw [List.length_append]; omega)] at h1
      exact ⟨w, by rw [← List.append_assoc, List.getElem?_append_left (by rw [List.length_append]; omega)]; exact h1, by rw [if_pos hlt]; exact h2⟩
    · have hj' : j = ε.length + ts.length := by
        have := (List.getElem?_eq_some_iff.mp hj).1
        simp only [List.length_append, List.length_singleton] at this
        omega
      subst hj'
      rw [← List.append_assoc, List.getElem?_append_right (by rw [List.length_append]; exact Nat.le_refl _), List.length_append, Nat.sub_self] at hj
      cases (show some (some m) = some (some m') from hj)
      obtain ⟨w, h1, h2⟩ := R.own (ε.length + ts.length + hs.length) m (by
        rw [← List.append_assoc, List.getElem?_append_right (by simp only [List.length_append]; omega), show ε.length + ts.length + hs.length - (ε ++ (ts ++ hold hs)).length = 0 by simp only [List.length_append]; omega]
        rfl)
      rw [← List.append_assoc, List.getElem?_append_right (by simp only [List.length_append, List.length_map]; omega), show ε.length + ts.length + hs.length - (σ ++ (vs ++ hv.map some)).length = 0 by simp only [List.length_append, List.length_map]; omega] at h1
      cases (show some (some v) = some (some w) from h1)
      refine ⟨v, ?_, by rw [if_neg hlt, if_pos rfl]; exact h2⟩
      rw [← List.append_assoc, List.getElem?_append_right (by rw [List.length_append]; omega), List.length_append, show ε.length + ts.length - (σ.length + vs.length) = 0 by omega]
      rfl
  · rcases kind j a hj with ⟨h1, h2⟩ | ⟨h1, h2⟩ <;> rcases kind k a hk with ⟨g1, g2⟩ | ⟨g1, g2⟩
    · exact R.dis j k a h1 g1
    · have := R.dis _ _ a h1 g1; omega
    · have := R.dis _ _ a h1 g1; omega
    · omega
  · rcases kind j a hj with ⟨h1, _⟩ | ⟨h1, _⟩ <;> exact R.nof _ a h1
  · rcases kind j a hj with ⟨h1, _⟩ | ⟨h1, _⟩ <;> exact R.trk _ a h1
end
section
variable {X : L2.Cx} {W : WX} {A : List Nat} {pos : Pos}
/-- from a loop's end to the end behind it, what was held dropped -/
theorem GotS.unhold {G : Glob} {P F0 : Hp} {ts : Env} {vs σ : L2.St} {D : Ends} {r : SR} {hs : List PyData} {hv : List V} (hz : ts.length = vs.length) (hh : hv.length = hs.length) (h : GotS G W A P F0 ts vs σ D r) : GotS G W A P F0 (ts ++ hold hs) (vs ++ hv.map some) σ D r := by
  have hn : (hold hs).length = (hv.map some).length := by rw [hold_len, List.length_map, hh]
  cases r with
  | nx ε => exact fun F' H' fp' σ' l k R => h F' H' fp' σ' l k (Rel.dropN (l.trans k.1.symm) hn R)
  | bk ε => exact fun F' H' fp' σ' l k R => h F' H' fp' σ' l k (Rel.dropN (l.trans k.1.symm) hn R)
  | ct ε => exact fun F' H' fp' σ' l k R => h F' H' fp' σ' l k (Rel.dropN (l.trans k.1.symm) hn R)
  | rt m ε =>
    exact fun F' H' fp' σ' v l k R => by
      obtain ⟨fp2, R2⟩ := Rel.dropMid (l.trans k.1.symm) hz hh R
      exact h F' H' fp2 σ' v l k R2
  | ex x ε => exact fun F' H' fp' σ' c d l k R e => h F' H' fp' σ' c d l k (Rel.dropN (l.trans k.1.symm) hn R) e
  | no => exact h
theorem sp_for {tg iter : Expr} {body : List Stmt} {iv : Iv} {b : Bd} {sb : Sv} (hp : PassesOwn (model X.prog X.w) X.A X.env X.xe) (hc : X.calm = true) (hi : PI X tg iter (tI (gl X) W iv)) (hg : PG X tg (tG (gl X) A b)) (hb : PSs X body (tS (gl X) W A sb))
    (hs : ∀ x, foldedSetIterable iter X.env x = pure x := by intro _; rfl) : PS X (.For tg iter body [] pos) (tS (gl X) W A (sFor iv b sb)) := PS.imp (ps_for hp hc hi hg hb hs) fun D σ H h => by
  obtain ⟨P, F0, F, fp, ε, ts, vs, R, hl, h⟩ := h
  have hz : ts.length = vs.length := by
    have := R.len
    simp only [List.length_append] at this
    omega
  refine ⟨P, F0, F, fp, ε, ts, vs, R, hl, Got.mono (GotS.ofR h) fun dh ε1 h F1 H1 fp1 J hv l1 R1 wk hsz hh => ?_⟩
  obtain ⟨ds, hs'⟩ := dh
  dsimp only at h R1 wk hsz hh
  refine ⟨fun i m σ H => i ≤ ds.length ∧ m = ds.length - i ∧ ∃ (F : Hp) (fp : Nat → List Addr) (ε : Env), Rel (gl X) P F0 F (ε ++ (ts ++ hold hs')) (σ ++ (vs ++ hv.map some)) H fp ∧ ε.length = σ.length ∧ GotS (gl X) W A P F0 ts vs σ D (forR b sb (ds.drop i) ε),
    ⟨ds.length, Nat.zero_le _, rfl, F1, fp1, ε1, R1, l1, h⟩, ?_⟩
  rintro i m σ2 H2 ⟨hi, hm, F2, fp2, ε2, R2, l2, h2⟩
  obtain ⟨g1, g2, g3⟩ := wk F2 H2 R2.fH (hold_rep l2 hz hh R2)
  by_cases hlt : i < ds.length
  · refine .inr ⟨g1 i hlt, fun σ' H' => ∃ (F : Hp) (fp : Nat → List Addr) (ε : Env), Rel (gl X) P F0 F (ε ++ (ts ++ hold hs')) (σ' ++ (vs ++ hv.map some)) H' fp ∧ ε.length = σ'.length ∧ GotS (gl X) W A P F0 ts vs σ' D (forR b sb (ds.drop (i + 1)) ε),
      fun σ' H' q => ⟨ds.length - (i + 1), by omega, hlt, rfl, q⟩, fun x H' y => ?_⟩
    obtain ⟨F3, gr, d, hd, rd⟩ := g3 i x H' hlt y
    have ed : ds.drop i = d :: ds.drop (i + 1) := by
      rw [List.drop_eq_getElem_cons hlt]
      rw [List.getElem?_eq_getElem hlt] at hd
      cases hd
      rfl
    rw [ed] at h2
    unfold forR at h2
    cases eb : b d ε2 with
    | none => rw [eb] at h2; exact h2.elim
    | some ε3 =>
      rw [eb] at h2
      obtain ⟨fp3, R3⟩ := R2.push' gr (.fz rd)
      have R3 := R3.drop1 l2
      refine ⟨P, F0, F3, fp3, ε2, _, _, d, R3, l2, rd, ε3, eb, fun σ3 fp4 l3 k3 R4 => ?_⟩
      refine ⟨P, F0, F3, fp4, ε3, _, _, R4, l3.trans k3.1.symm, ?_⟩
      have h3 := GotS.keep k3 h2
      dsimp only at h3
      cases q : sb ε3 with
      | nx ε4 =>
        rw [q] at h3
        exact fun F' H' fp' σ' l k R' => ⟨F', fp', ε4, R', l.trans k.1.symm, GotS.keep k h3⟩
      | ct ε4 =>
        rw [q] at h3
        exact fun F' H' fp' σ' l k R' => ⟨F', fp', ε4, R', l.trans k.1.symm, GotS.keep k h3⟩
      | bk ε4 =>
        rw [q] at h3
        have hn : (hold hs').length = (hv.map some).length := by rw [hold_len, List.length_map, hh]
        exact fun F' H' fp' σ' l k R' => h3 F' H' fp' σ' l k (Rel.dropN (l.trans k.1.symm) hn R')
      | rt m' ε4 =>
        rw [q] at h3
        exact fun F' H' fp' σ' v l k R' => by
          obtain ⟨fp2, R2⟩ := Rel.dropMid (l.trans k.1.symm) hz hh R'
          exact h3 F' H' fp2 σ' v l k R2
      | ex x ε4 =>
        rw [q] at h3
        have hn : (hold hs').length = (hv.map some).length := by rw [hold_len, List.length_map, hh]
        exact fun F' H' fp' σ' c d l k R' e => h3 F' H' fp' σ' c d l k (Rel.dropN (l.trans k.1.symm) hn R') e
      | no => rw [q] at h3; exact h3.elim
  · have ei : i = ds.length := by omega
    subst ei
    refine .inl ⟨g2, ?_⟩
    rw [List.drop_length] at h2
    have hn : (hold hs').length = (hv.map some).length := by rw [hold_len, List.length_map, hh]
    exact h2 F2 H2 fp2 σ2 l2 (.refl _ _) (Rel.dropN l2 hn R2)
end
end Sw

/-! SwH: comprehensions; things that are changed in place. -/
namespace Sw
open PySem PySem.Spec PyProof.Rows L2

section
variable {G : Glob} {P F0 F H H' : Hp} {L : Env} {S : L2.St} {fp : Nat → List Addr}
/-- the n-th is changed in place -/
theorem Rel.mutate {n : Nat} {m m' : M} {v : V} (R : Rel G P F0 F L S H fp) (e : L[n]? = some (some m)) (ev : S[n]? = some (some v)) (hk : ∀ b, b ∉ fp n → H' b = H b) (o : Own G F H' v m' (fp n)) :
    Rel G P F0 F (L.set n (some m')) S H' fp := by
  refine ⟨by rw [List.length_set]; exact R.len, fun j k hj => ?_, R.dis, R.nof, fun j a ha => ?_, fun a u q => ?_, fun a u q => ?_, R.f0, R.new⟩
  · by_cases hn : j = n
    · subst hn
      rw [List.getElem?_set_self (List.getElem?_eq_some_iff.mp e).1] at hj
      cases hj
      exact ⟨v, ev, o⟩
    · rw [List.getElem?_set_ne (fun q => hn q.symm)] at hj
      obtain ⟨w, h1, h2⟩ := R.own j k hj
      exact ⟨w, h1, h2.mono (.refl _) fun a ha => hk a fun hb => hn (R.dis j n a ha hb)⟩
  · by_cases hn : a ∈ fp n
    · exact o.tracked a hn
    · rw [hk a hn]; exact R.trk j a ha
  · rw [hk a fun hb => by rw [(R.nof n a hb).2] at q; cases q]
    exact R.pH a u q
  · rw [hk a fun hb => by rw [(R.nof n a hb).1] at q; cases q]
    exact R.fH a u q
/-- other slots where nothing is known -/
theorem Rel.swapS {ε ts : Env} {σ1 σ2 vs : L2.St} (R : Rel G P F0 F (ε ++ ts) (σ1 ++ vs) H fp) (hl : ε.length = σ1.length) (h2 : σ2.length = σ1.length) (h : ∀ (i : Nat) (m : M), ε[i]? = some (some m) → σ2[i]? = σ1[i]?) :
    Rel G P F0 F (ε ++ ts) (σ2 ++ vs) H fp := by
  refine ⟨?_, fun i m e => ?_, R.dis, R.nof, R.trk, R.pH, R.fH, R.f0, R.new⟩
  · have := R.len
    simp only [List.length_append] at this ⊢
    omega
  · obtain ⟨w, h1, h3⟩ := R.own i m e
    refine ⟨w, ?_, h3⟩
    by_cases hi : i < ε.length
    · rw [List.getElem?_append_left hi] at e
      rw [List.getElem?_append_left (by omega)] at h1 ⊢
      rw [h i m e]
      exact h1
    · rw [List.getElem?_append_right (by omega)] at h1 ⊢
      rw [h2]
      exact h1
end
def wipeE (ε : Env) : List Nat → Env
  | [] => ε
  | v :: vs => (wipeE ε vs).set v none
theorem wipeE_length (ε : Env) : ∀ own : List Nat, (wipeE ε own).length = ε.length
  | [] => rfl
  | v :: vs => by unfold wipeE; rw [List.length_set, wipeE_length ε vs]
theorem wipeE_some {ε : Env} {i : Nat} {m : M} : ∀ {own : List Nat}, (wipeE ε own)[i]? = some (some m) → ε[i]? = some (some m) ∧ i ∉ own
  | [], h => ⟨h, by simp⟩
  | v :: vs, h => by
    unfold wipeE at h
    by_cases hi : v = i
    · subst hi
      by_cases hv : v < (wipeE ε vs).length
      · rw [List.getElem?_set_self hv] at h; cases h
      · rw [List.getElem?_eq_none (by simpa using hv)] at h; cases h
    · rw [List.getElem?_set_ne hi] at h
      obtain ⟨h1, h2⟩ := wipeE_some h
      exact ⟨h1, by simp only [List.mem_cons, not_or]; exact ⟨fun e => hi e.symm, h2⟩⟩
theorem wipe_out' {σ : L2.St} {i : Nat} : ∀ {own : List Nat}, i ∉ own → (wipe σ own)[i]? = σ[i]?
  | [], _ => rfl
  | v :: vs, h => by
    unfold wipe
    rw [List.getElem?_set_ne (fun e => h (by rw [e]; exact List.mem_cons_self)), wipe_out' fun q => h (List.mem_cons_of_mem _ q)]
theorem wipe_in' {σ : L2.St} {i : Nat} : ∀ {own : List Nat}, i ∈ own → (wipe σ own)[i]? = (σ[i]?).map fun _ => none
  | [], h => by cases h
  | v :: vs, h => by
    unfold wipe
    by_cases hi : v = i
    · subst hi
      by_cases hv : v < (wipe σ vs).length
      · rw [List.getElem?_set_self hv]
        rw [wipe_length] at hv
        rw [List.getElem?_eq_getElem hv]
        rfl
      · rw [List.getElem?_eq_none (by rw [List.length_set]; omega), List.getElem?_eq_none (by rw [wipe_length] at hv; omega)]
        rfl
    · rw [List.getElem?_set_ne hi]
      rcases List.mem_cons.mp h with z | z
      · exact absurd z.symm hi
      · exact wipe_in' z
theorem wipe_keeps {σ σ' : L2.St} {own : List Nat} (k : Keeps own (wipe σ own) σ') : wipe σ' own = wipe σ own := by
  apply List.ext_getElem?
  intro i
  by_cases hi : i ∈ own
  · rw [wipe_in' hi, wipe_in' hi]
    have hl := k.1
    rw [wipe_length] at hl
    by_cases hx : i < σ.length
    · rw [List.getElem?_eq_getElem hx, List.getElem?_eq_getElem (by omega)]
      rfl
    · rw [List.getElem?_eq_none (by omega), List.getElem?_eq_none (by omega)]
  · rw [wipe_out' hi, k.2 i hi, wipe_out' hi]

def noExc {α : Type} : Rs α → Rs α
  | .exc _ _ => .no
  | r => r
/-- no exception leaves -/
abbrev W0 : WX := fun _ _ _ _ => False
theorem Got.noExc {α : Type} {G : Glob} {W : WX} {P F0 P' F0' : Hp} {ts ts' : Env} {vs σ vs' σ' : L2.St} {r : Rs α} {K : α → Env → Prop} (h : Got G W P F0 ts vs σ (noExc r) K) : Got G W0 P' F0' ts' vs' σ' r K := by
  cases r with
  | ok a ε => exact h
  | exc x ε => exact h.elim
  | no => exact h.elim
def compR (own : List Nat) (b : Bd) (tests : Tv) (elt : Ev) : List D → List D → Env → Rs (List D)
  | [], acc, ε => .ok acc ε
  | d :: ds, acc, ε => match b d ε with
    | none => .no
    | some ε1 => (noExc (tests ε1)).bind fun k ε2 => if k = true then (noExc (eFz elt ε2)).bind fun t ε3 => match t with
        | .val (.fz y) => compR own b tests elt ds (acc ++ [y]) (wipeE ε3 own)
        | _ => .no
      else compR own b tests elt ds acc (wipeE ε2 own)
def eComp (iv : Iv) (own : List Nat) (b : Bd) (tests : Tv) (elt : Ev) : Ev := fun ε => (iv ε).bind fun dh ε1 => (compR own b tests elt dh.1 [] (wipeE ε1 own)).bind fun acc ε2 => .ok (.val (.ol acc)) ε2
def cYes : Tv := fun ε => .ok true ε
theorem PTs.imp {X : L2.Cx} {e : List Expr} {t t' : TT} (h : PTs X e t) (k : ∀ σ H Q, t' σ H Q → t σ H Q) : PTs X e t' := ⟨fun pins s σ H Q I hw => h.run pins s σ H Q I (k σ H Q hw)⟩
theorem sts_nil {X : L2.Cx} {G : Glob} {W : WX} : PTs X [] (tT G W cYes) := PTs.imp pts_nil fun σ H Q h => by
  obtain ⟨P, F0, F, fp, ε, ts, vs, R, hl, h⟩ := h
  exact h F H fp hl R
theorem sts_one {X : L2.Cx} {G : Glob} {W : WX} {c : Expr} {t : Tv} (h : PT X c (tT G W t)) : PTs X [c] (tT G W t) := pts_one h
theorem app_top {α : Type} {a b : List α} {x : α} {n : Nat} (h : n = a.length + b.length) : (a ++ (b ++ [x]))[n]? = some x := by
  subst h
  rw [← List.append_assoc, ← List.length_append, List.getElem?_append_right (Nat.le_refl _), Nat.sub_self]
  rfl
/-- what a comprehension's rest is to come to -/
def CompK (G : Glob) (W : WX) (P F0 : Hp) (ts : Env) (vs σ : L2.St) (Q : VK) (r : Rs (List PyData)) : Prop :=
  Got G W P F0 ts vs σ (r.bind fun acc ε2 => Rs.ok (T.val (.ol acc)) ε2) fun (t : T) (ε' : Env) =>
    ∀ (F' H' : Hp) (fp' : Nat → List Addr) (v : V), ε'.length = σ.length → Rel G P F0 F' (ε' ++ (ts ++ [t.slot])) (σ ++ (vs ++ [some v])) H' fp' → TOk σ t v → Q v H'
theorem tLc_E {G : Glob} {W : WX} {iv : Iv} {own : List Nat} {b : Bd} {tests : Tv} {elt : Ev} (σ : L2.St) (H : Hp) (Q : VK) (h : tE G W (eComp iv own b tests elt) σ H Q) :
    tLc (tI G W iv) (tG G own b) (tT G W0 tests) (tE G W0 (eFz elt)) own σ H Q := by
  obtain ⟨P, F0, F, fp, ε, ts, vs, R, hl, h⟩ := h
  have hz : ts.length = vs.length := by
    have := R.len
    simp only [List.length_append] at this
    omega
  refine ⟨P, F0, F, fp, ε, ts, vs, R, hl, Got.mono (Got.bind h) fun dh ε1 h F1 H1 fp1 J hv l1 R1 wk hsz hh p hp => ?_⟩
  obtain ⟨ds, hs⟩ := dh
  dsimp only at R1 wk hsz hh
  have h : CompK G W P F0 ts vs σ Q (compR own b tests elt ds [] (wipeE ε1 own)) := h
  have hn := hold_len hs
  have R2 : Rel G P F0 F1 (wipeE ε1 own ++ (ts ++ hold hs)) (wipe σ own ++ (vs ++ hv.map some)) H1 fp1 := by
    have Rw : Rel G P F0 F1 (wipeE ε1 own ++ (ts ++ hold hs)) (σ ++ (vs ++ hv.map some)) H1 fp1 := by
      refine R1.weak (by simp only [List.length_append, wipeE_length]) fun i m e => ?_
      by_cases hi : i < ε1.length
      · rw [List.getElem?_append_left (by rw [wipeE_length]; exact hi)] at e
        rw [List.getElem?_append_left hi]
        exact (wipeE_some e).1
      · rw [List.getElem?_append_right (by rw [wipeE_length]; omega), wipeE_length] at e
        rw [List.getElem?_append_right (by omega)]
        exact e
    refine Rw.swapS (by rw [wipeE_length]; exact l1) (wipe_length _ _) fun i m e => ?_
    exact wipe_out' (wipeE_some e).2
  obtain ⟨fp3, R3⟩ := R2.push' (Grow.new (o := .lst []) R1.fH hp) (Own.ol (ds := []) upd_same (Nat.zero_le _) .nil)
  let Wi : Nat → Hp → Prop := fun i H' => ∃ (F' : Hp) (fp' : Nat → List Addr) (ε' : Env) (acc : List PyData), Rel G P F0 F' (ε' ++ ((ts ++ hold hs) ++ [some (.ol acc)])) (wipe σ own ++ ((vs ++ hv.map some) ++ [some (.ref p)])) H' fp' ∧
      ε'.length = σ.length ∧ (∀ (j : Nat) (k : M), ε'[j]? = some (some k) → j ∉ own) ∧ acc.length ≤ i ∧ CompK G W P F0 ts vs σ Q (compR own b tests elt (ds.drop i) acc ε')
  refine ⟨fun i m H' => i ≤ ds.length ∧ m = ds.length - i ∧ Wi i H',
    ⟨ds.length, Nat.zero_le _, rfl, F1, fp3, _, [], R3, by rw [wipeE_length]; exact l1, fun j k e => (wipeE_some e).2, Nat.le_refl _, h⟩, ?_⟩
  rintro i m H2 ⟨hi, hm, F2, fp2, ε2, acc, R4, l2, hw, ha, h2⟩
  have l2' : ε2.length = (wipe σ own).length := by rw [wipe_length]; exact l2
  have R4h : Rel G P F0 F2 (ε2 ++ (ts ++ hold hs)) (wipe σ own ++ (vs ++ hv.map some)) H2 fp2 := R4.drop1 l2'
  obtain ⟨g1, g2, g3⟩ := wk F2 H2 R4.fH (hold_rep l2' hz hh R4h)
  by_cases hlt : i < ds.length
  · refine .inr ⟨g1 i hlt, Wi (i + 1), fun H' q => ⟨ds.length - (i + 1), by omega, hlt, rfl, q⟩, fun x H' y => ?_⟩
    obtain ⟨F3, gr, d, hd, rd⟩ := g3 i x H' hlt y
    have ed : ds.drop i = d :: ds.drop (i + 1) := by
      rw [List.drop_eq_getElem_cons hlt]
      rw [List.getElem?_eq_getElem hlt] at hd
      cases hd
      rfl
    rw [ed] at h2
    unfold compR at h2
    cases eb : b d ε2 with
    | none => rw [eb] at h2; exact h2.elim
    | some ε3 =>
      rw [eb] at h2
      dsimp only at h2
      obtain ⟨fp3, R5⟩ := R4.push' gr (.fz rd)
      have R5 := R5.drop1 l2'
      refine ⟨P, F0, F3, fp3, ε2, _, _, d, R5, l2', rd, ε3, eb, fun σ3 fp4 l3 k3 R6 => ⟨wipe_keeps k3, ?_⟩⟩
      have hl3 : ε3.length = σ3.length := l3.trans k3.1.symm
      have hσ3 : σ3.length = σ.length := k3.1.trans (wipe_length _ _)
      -- back in the wiped slots
      have wiped : ∀ {F' H' : Hp} {fp' : Nat → List Addr} {ε' ts' : Env} {vs' : L2.St}, ε'.length = σ3.length → Rel G P F0 F' (ε' ++ ts') (σ3 ++ vs') H' fp' → Rel G P F0 F' (wipeE ε' own ++ ts') (wipe σ own ++ vs') H' fp' := fun {F' H' fp' ε' ts' vs'} l R => by
        have Rw : Rel G P F0 F' (wipeE ε' own ++ ts') (σ3 ++ vs') H' fp' := by
          refine R.weak (by simp only [List.length_append, wipeE_length]) fun i m e => ?_
          by_cases hi : i < ε'.length
          · rw [List.getElem?_append_left (by rw [wipeE_length]; exact hi)] at e
            rw [List.getElem?_append_left hi]
            exact (wipeE_some e).1
          · rw [List.getElem?_append_right (by rw [wipeE_length]; omega), wipeE_length] at e
            rw [List.getElem?_append_right (by omega)]
            exact e
        refine Rw.swapS (by rw [wipeE_length]; exact l) (by rw [wipe_length]; exact hσ3.symm) fun j m e => ?_
        rw [← wipe_keeps k3]
        exact wipe_out' (wipeE_some e).2
      cases qt : tests ε3 with
      | no => rw [qt] at h2; exact h2.elim
      | exc x ε4 => rw [qt] at h2; exact h2.elim
      | ok k ε4 =>
        rw [qt] at h2
        refine ⟨P, F0, F3, fp4, ε3, _, _, R6, hl3, ?_⟩
        rw [qt]
        intro F5 H5 fp5 l5 R7
        cases k with
        | false =>
          rw [if_neg Bool.false_ne_true]
          exact ⟨F5, fp5, wipeE ε4 own, acc, wiped l5 R7, by rw [wipeE_length, l5, hσ3], fun j k e => (wipeE_some e).2, by omega, h2⟩
        | true =>
          rw [if_pos rfl]
          have h3 : CompK G W P F0 ts vs σ Q ((noExc (eFz elt ε4)).bind fun t ε3 => match t with
            | .val (.fz y) => compR own b tests elt (ds.drop (i + 1)) (acc ++ [y]) (wipeE ε3 own)
            | _ => .no) := h2
          refine ⟨P, F0, F5, fp5, ε4, _, _, R7, l5, ?_⟩
          cases qe : eFz elt ε4 with
          | no => rw [qe] at h3; exact h3.elim
          | exc x ε5 => rw [qe] at h3; exact h3.elim
          | ok t ε5 =>
            rw [qe] at h3
            intro F6 H6 fp6 v6 l6 R8 ok6
            cases t with
            | var j => exact h3.elim
            | val mm =>
              cases mm with
              | fz y =>
                have h4 : CompK G W P F0 ts vs σ Q (compR own b tests elt (ds.drop (i + 1)) (acc ++ [y]) (wipeE ε5 own)) := h3
                obtain ⟨q8, o8⟩ := get_last (t := .val (.fz y)) l6 R8 ok6 rfl
                have r8 := o8.rep.1
                have R9 := R8.drop1 l6
                have hlz : (ts ++ hold hs).length = (vs ++ hv.map some).length := by simp only [List.length_append, List.length_map, hn, hz, hh]
                have i1 : (ε5 ++ ((ts ++ hold hs) ++ [some (.ol acc)]))[ε5.length + (ts ++ hold hs).length]? = some (some (M.ol acc)) := app_top rfl
                have i2 : (σ3 ++ ((vs ++ hv.map some) ++ [some (.ref p)]))[ε5.length + (ts ++ hold hs).length]? = some (some (V.ref p)) := app_top (by omega)
                obtain ⟨w9, e9, o9⟩ := R9.own _ _ i1
                rw [i2] at e9
                cases e9
                generalize hq9 : fp6 (ε5.length + (ts ++ hold hs).length) = q9 at o9
                cases o9 with
                | ol hp9 hz9 r9 =>
                  rename_i xs
                  have hxl : xs.length < sizeLine := by have := r9.length; omega
                  refine ⟨xs, hp9, hxl, F6, fp6, wipeE ε5 own, acc ++ [y], ?_, by rw [wipeE_length, l6, hσ3], fun j k e => (wipeE_some e).2, by simp only [List.length_append, List.length_singleton]; omega, h4⟩
                  refine wiped l6 ?_
                  have R10 := R9.mutate (m' := .ol (acc ++ [y])) (H' := upd H6 p (.lst (xs ++ [v6]))) i1 i2 (fun c hc => by
                    rw [hq9] at hc
                    exact upd_ne fun e => hc (by rw [e]; exact List.mem_singleton_self _)) (by
                    rw [hq9]
                    exact .ol upd_same (by simp only [List.length_append, List.length_singleton]; omega) (r9.append (.cons r8 .nil)))
                  rw [List.set_append_right _ _ (Nat.le_add_right _ _), Nat.add_sub_cancel_left, List.set_append_right _ _ (Nat.le_refl _), Nat.sub_self] at R10
                  exact R10
              | _ => exact h3.elim
  · have ei : i = ds.length := by omega
    subst ei
    refine .inl ⟨g2, ?_⟩
    rw [List.drop_length] at h2
    obtain ⟨fp5, R5⟩ := Rel.dropMid l2' hz hh R4
    refine h2 F2 H2 fp5 _ l2 ?_ fun j hj => by cases hj
    exact R5.swapS l2' (wipe_length _ _).symm fun j k e => (wipe_out' (hw j k e)).symm
section
variable {X : L2.Cx} {W : WX} {A : List Nat}
theorem se_lc {elt tg iter : Expr} {ifs : List Expr} {scope : Scope} {own : List (Str × Nat)} {pos : Pos} {iv : Iv} {b : Bd} {tests : Tv} {ve : Ev} (hc : X.calm = true) (hN : X.N.Nodup) (hi : PI X tg iter (tI (gl X) W iv)) (ok : BlkOk X.N X.env.scope scope own)
    (hg : ∀ (s : Shared) (H : Hp) (C : Addr) (cl : List (Str × Addr)) (fp : List Addr), PG (X.blk s H scope (compEnvC scope cl C X.env) fp) tg (tG (gl X) (own.map (·.2)) b))
    (ht : ∀ (s : Shared) (H : Hp) (C : Addr) (cl : List (Str × Addr)) (fp : List Addr), PTs (X.blk s H scope (compEnvC scope cl C X.env) fp) ifs (tT (gl X) W0 tests))
    (he : ∀ (s : Shared) (H : Hp) (C : Addr) (cl : List (Str × Addr)) (fp : List Addr), PE (X.blk s H scope (compEnvC scope cl C X.env) fp) elt (tE (gl X) W0 ve)) (hs : ∀ x, foldedSetIterable iter X.env x = pure x := by intro _; rfl) :
    PE X (.ListComp elt [⟨tg, iter, ifs, 0⟩] scope pos) (tE (gl X) W (eComp iv (own.map (·.2)) b tests ve)) :=
  PE.imp (pe_lc hc hN hi ok hg ht (fun s H C cl fp => se_fz (X := X.blk s H scope (compEnvC scope cl C X.env) fp) (he s H C cl fp)) hs) tLc_E
theorem sp_setLc {i : Nat} {y : Str} {py : Pos} {elt tg iter : Expr} {ifs : List Expr} {scope : Scope} {own : List (Str × Nat)} {pos spos : Pos} {iv : Iv} {b : Bd} {tests : Tv} {ve : Ev} (hc : X.calm = true) (hN : X.N.Nodup) (hy : X.N[i]? = some y) (hyl : X.env.scope.names.lookup y = some .local)
    (hsw : swapsWith (.ListComp elt [⟨tg, iter, ifs, 0⟩] scope pos) (some (.Name y py)) spos.line X.env = pure true) (hi : PI X tg iter (tI (gl X) W iv)) (ok : BlkOk X.N X.env.scope scope own)
    (hg : ∀ (s : Shared) (H : Hp) (C : Addr) (cl : List (Str × Addr)) (fp : List Addr), PG (X.blk s H scope (compEnvC scope cl C X.env) fp) tg (tG (gl X) (own.map (·.2)) b))
    (ht : ∀ (s : Shared) (H : Hp) (C : Addr) (cl : List (Str × Addr)) (fp : List Addr), PTs (X.blk s H scope (compEnvC scope cl C X.env) fp) ifs (tT (gl X) W0 tests))
    (he : ∀ (s : Shared) (H : Hp) (C : Addr) (cl : List (Str × Addr)) (fp : List Addr), PE (X.blk s H scope (compEnvC scope cl C X.env) fp) elt (tE (gl X) W0 ve)) (hA : i ∈ A := by decide) (hs : ∀ x, foldedSetIterable iter X.env x = pure x := by intro _; rfl) :
    PS X (.Assign [.Name y py] (.ListComp elt [⟨tg, iter, ifs, 0⟩] scope pos) spos) (tS (gl X) W A (sAsg i (eComp iv (own.map (·.2)) b tests ve))) :=
  PS.imp (ps_setLc hc hN hy hyl hsw hi ok hg ht (fun s H C cl fp => se_fz (X := X.blk s H scope (compEnvC scope cl C X.env) fp) (he s H C cl fp)) hs) fun D σ H h => by
    have h2 := tAsg_S (G := gl X) hA D σ H h
    exact tLc_E σ H _ h2
/-- in a comprehension's block -/
theorem Stg.blk {k : Nat} (S : Stg X k W) (s : Shared) (H : Hp) (scope : Scope) (cenv : PySem.Env) (fp : List Addr) : Stg (X.blk s H scope cenv fp) k W0 :=
  ⟨S.calm, S.room, fun σ _ _ _ _ _ _ c => by
    obtain ⟨_, _, _, _, _, _, _, _, _, _, _, _, z⟩ := c
    exact z.elim⟩
end
end Sw

/-! SwI: operators and built-ins on values. -/
namespace Sw
open PySem PySem.Spec PyProof.Rows L2

def guardO (p : Prop) [Decidable p] (m : M) : Option M := if p then some m else none
theorem guardO_some {p : Prop} [Decidable p] {m k : M} (h : guardO p m = some k) : p ∧ k = m := by
  unfold guardO at h
  split at h
  · cases h; exact ⟨‹_›, rfl⟩
  · cases h
section
variable {G : Glob} {F H : Hp} {v : V} {p : List Addr}
theorem own_i {i : Int} (o : Own G F H v (.fz (.int i)) p) : v = .int i := by
  obtain ⟨r, _⟩ := o.rep
  cases r
  rfl
theorem own_s {x : Str} (o : Own G F H v (.fz (.str x)) p) : v = .str x ∧ StrW x := by
  obtain ⟨r, _⟩ := o.rep
  cases r with
  | str x h => exact ⟨rfl, h⟩
theorem own_b {b : Bool} (o : Own G F H v (.fz (.bool b)) p) : v = .bl b := by
  obtain ⟨r, _⟩ := o.rep
  cases r
  rfl
theorem own_t {ds : List D} (o : Own G F H v (.fz (.tuple ds)) p) : ∃ a xs, v = .ref a ∧ SqT G.K F a xs ∧ xs.length ≤ sizeLine ∧ RepAll G.K F xs ds := by
  obtain ⟨r, _⟩ := o.rep
  cases r with
  | tup h1 h2 h3 => exact ⟨_, _, rfl, h1, h2, h3⟩
/-- what is read as a list: owned or not -/
def lstM : M → Option (List D)
  | .ol xs => some xs
  | .fz (.list xs) => some xs
  | _ => none
theorem own_l {m : M} {ds : List D} (sf : Same F H) (o : Own G F H v m p) (e : lstM m = some ds) : ∃ a xs, v = .ref a ∧ SqL G.K H a xs ∧ xs.length ≤ sizeLine ∧ RepAll G.K F xs ds := by
  cases o with
  | ol h1 h2 h3 => cases e; exact ⟨_, _, rfl, .inl (.inl h1), h2, h3⟩
  | od h => cases e
  | ob _ _ _ _ _ _ => cases e
  | fz r =>
    cases r with
    | lst h1 h2 h3 => cases e; exact ⟨_, _, rfl, Same.sqL sf h1, h2, h3⟩
    | _ => cases e
end
theorem ok_i {G : Glob} {F H : Hp} {Q : VK} {k : M} {i : Int} (sf : Same F H) (h : ∀ F' H' v fp, Grow F H F' H' fp → Own G F' H' v (.fz (.int i)) fp → Q v H') : Q (.int i) H := h _ _ _ _ (Grow.refl sf) (.fz (.int i))
theorem ok_b {G : Glob} {F H : Hp} {Q : VK} {b : Bool} (sf : Same F H) (h : ∀ F' H' v fp, Grow F H F' H' fp → Own G F' H' v (.fz (.bool b)) fp → Q v H') : Q (.bl b) H := h _ _ _ _ (Grow.refl sf) (.fz (.bl b))
theorem ok_d {G : Glob} {F H : Hp} {Q : VK} {v : V} {d : D} (sf : Same F H) (r : Rep G.K F v d) (h : ∀ F' H' v fp, Grow F H F' H' fp → Own G F' H' v (.fz d) fp → Q v H') : Q v H := h _ _ _ _ (Grow.refl sf) (.fz r)
theorem ok_newT {G : Glob} {F H : Hp} {Q : VK} {ds : List D} {xs : List V} (sf : Same F H) (hz : xs.length ≤ sizeLine) (r : RepAll G.K F xs ds) (h : ∀ F' H' v fp, Grow F H F' H' fp → Own G F' H' v (.fz (.tuple ds)) fp → Q v H') :
    ∀ p, H p = none → Q (.ref p) (upd H p (.tup xs)) := fun p hp => h _ _ _ _ (Grow.fz sf hp) (.fz (.tup (.inl (.inl upd_same)) hz (r.mono (Grow.fz sf hp).sF)))
theorem ok_newL {G : Glob} {F H : Hp} {Q : VK} {ds : List D} {xs : List V} (sf : Same F H) (hz : xs.length ≤ sizeLine) (r : RepAll G.K F xs ds) (h : ∀ F' H' v fp, Grow F H F' H' fp → Own G F' H' v (.ol ds) fp → Q v H') :
    ∀ p, H p = none → Q (.ref p) (upd H p (.lst xs)) := fun p hp => h _ _ _ _ (Grow.new sf hp) (.ol upd_same hz r)
theorem strOk_append {a b : Str} (ha : PyData.strOk a = true) (hb : PyData.strOk b = true) : PyData.strOk (a ++ b) = true := by
  show (a.cps ++ b.cps).all (· < 0x110000) = true
  rw [Array.all_append, Bool.and_eq_true]
  exact ⟨ha, hb⟩
theorem len_append (a b : Str) : (a ++ b).length = a.length + b.length := by
  show (a.cps ++ b.cps).size = _
  rw [Array.size_append]
  rfl
theorem StrW.append {a b : Str} (ha : StrW a) (hb : StrW b) (h : a.length + b.length ≤ sizeLine) : StrW (a ++ b) := ⟨strOk_append ha.1 hb.1, by rw [len_append]; exact h⟩

/-! ### + -/
def oAdd : M → M → Option M
  | .fz (.int i), .fz (.int j) => some (.fz (.int (i + j)))
  | .fz (.str a), .fz (.str b) => guardO (a.length + b.length ≤ sizeLine) (.fz (.str (a ++ b)))
  | .fz (.tuple a), .fz (.tuple b) => guardO (a.length + b.length ≤ sizeLine) (.fz (.tuple (a ++ b)))
  | .ol a, .ol b => guardO (a.length + b.length ≤ sizeLine) (.ol (a ++ b))
  | .ol a, .fz (.list b) => guardO (a.length + b.length ≤ sizeLine) (.ol (a ++ b))
  | .fz (.list a), .ol b => guardO (a.length + b.length ≤ sizeLine) (.ol (a ++ b))
  | .fz (.list a), .fz (.list b) => guardO (a.length + b.length ≤ sizeLine) (.ol (a ++ b))
  | _, _ => none
section
variable {X : L2.Cx}
theorem cat_list {prog : Program} {w : World} {A : Around} {E : Value → Shared → Prop} {s : Shared} {l b : Addr} {vs ws : List Value} {Q : Value → Shared → Prop} (hl : s.heap.IsList l vs.toArray) (hb : s.heap.IsList b ws.toArray)
    (h : Q (.ref s.heap.objs.size) { s with heap := s.heap.push { cls := .type "list", data := .seq (vs ++ ws).toArray } }) (hsz : vs.length + ws.length ≤ sizeLine) : wpAny (model prog w) A (binaryOp .Add (.ref l) (.ref b)) Q E s := by
  obtain ⟨⟨cls, dd, data, sl⟩, ho, hc, n, hd⟩ := id hl
  obtain ⟨⟨cls2, dd2, data2, sl2⟩, ho2, hc2, n2, hd2⟩ := id hb
  simp only at hc hd hc2 hd2
  subst hc hd hc2 hd2
  have e : vs.toArray ++ ws.toArray = (vs ++ ws).toArray := by simp
  refine concat_meets ⟨_, ho, rfl⟩ ⟨_, ho2, rfl⟩ noFill_list_add seq_list_add PySem.F.slot_list_add PySem.F.entry_list_add (PySem.F.args_list_add_2 _ _) (list_addW l b vs.toArray ws.toArray n n2 dd dd2 sl sl2 (by simpa using hsz)) ⟨ho, ho2, ?_⟩
  rw [e]
  exact h
/-- list + list, also of locked ones -/
def rCatR (K : PySem.W.Frag) : L2.R2 := fun x y H Q => ∃ l b xs zs, x = .ref l ∧ y = .ref b ∧ SqL K H l xs ∧ SqL K H b zs ∧ xs.length + zs.length ≤ sizeLine ∧ ∀ p, H p = none → Q (.ref p) (upd H p (.lst (xs ++ zs)))
theorem op_catR : OpR X (binaryOp .Add) (rCatR X.K) := by
  intro pins s σ H x y v u Q I rx ry h
  obtain ⟨l, b, xs, zs, rfl, rfl, hH, hB, hz, q⟩ := h
  cases rx
  cases ry
  obtain ⟨its, r, e, z⟩ := I.list hH
  obtain ⟨its2, r2, e2, z2⟩ := I.list hB
  have hl := r.length
  have hl2 := r2.length
  refine cat_list e.isList e2.isList ?_ (by omega)
  exact ⟨.ref _, _, I.lnew (t' := s.toks) (r.append r2) (by rw [List.length_append]; omega), rfl, q _ I.fresh⟩
theorem OpR.or {X : L2.Cx} {f : Value → Value → Sem Value} {r r' : L2.R2} (h : OpR X f r) (h' : OpR X f r') : OpR X f (fun x y H Q => r x y H Q ∨ r' x y H Q) := by
  intro pins s σ H x y v u Q I rx ry q
  rcases q with q | q
  · exact h pins s σ H x y v u Q I rx ry q
  · exact h' pins s σ H x y v u Q I rx ry q
def rAddM (K : PySem.W.Frag) : L2.R2 := fun x y H Q => (rI0 (fun i j => .int (i + j)) x y H Q) ∨ ((∃ i j, x = .str i ∧ y = .str j ∧ i.length + j.length ≤ sizeLine ∧ Q (.str (i ++ j)) H) ∨ (rCatA K x y H Q ∨ rCatR K x y H Q))
theorem op_addM : OpR X (binaryOp .Add) (rAddM X.K) := OpR.or op_add (OpR.or op_add_str (OpR.or op_catA op_catR))
theorem catR_ok {G : Glob} {F H : Hp} {x y : V} {m n : M} {p q : List Addr} {a b : List D} {Q : VK} (sf : Same F H) (o1 : Own G F H x m p) (o2 : Own G F H y n q) (e1 : lstM m = some a) (e2 : lstM n = some b) (hz : a.length + b.length ≤ sizeLine)
    (h : ∀ F' H' v fp, Grow F H F' H' fp → Own G F' H' v (.ol (a ++ b)) fp → Q v H') : rCatR G.K x y H Q := by
  obtain ⟨l, xs, rfl, h1, h2, h3⟩ := own_l sf o1 e1
  obtain ⟨l', ys, rfl, g1, g2, g3⟩ := own_l sf o2 e2
  have hl := h3.length
  have hl' := g3.length
  exact ⟨l, l', xs, ys, rfl, rfl, h1, g1, by omega, ok_newL sf (by rw [List.length_append]; omega) (h3.append g3) h⟩
theorem sp_add {G : Glob} : Spec2 G (rAddM G.K) oAdd := fun F H x y m n k p q Q sf o1 o2 e h => by
  unfold oAdd at e
  split at e
  · rename_i i j
    cases e
    rw [own_i o1, own_i o2]
    exact .inl ⟨i, j, rfl, rfl, ok_i (k := .fz (.int 0)) sf h⟩
  · rename_i a b
    obtain ⟨hz, rfl⟩ := guardO_some e
    obtain ⟨rfl, w1⟩ := own_s o1
    obtain ⟨rfl, w2⟩ := own_s o2
    exact .inr (.inl ⟨a, b, rfl, rfl, hz, ok_d sf (.str _ (w1.append w2 hz)) h⟩)
  · rename_i a b
    obtain ⟨hz, rfl⟩ := guardO_some e
    obtain ⟨l, xs, rfl, h1, h2, h3⟩ := own_t o1
    obtain ⟨l', ys, rfl, g1, g2, g3⟩ := own_t o2
    have hl := h3.length
    have hl' := g3.length
    refine .inr (.inr (.inl ⟨l, l', xs, ys, rfl, rfl, Same.sqT sf h1, Same.sqT sf g1, by omega, fun e => ?_, fun e1 e2 => ?_, fun _ _ => ok_newT sf (by rw [List.length_append]; omega) (h3.append g3) h⟩))
    · subst e
      cases h3
      exact ok_d sf (.tup g1 g2 g3) h
    · subst e2
      cases g3
      rw [List.append_nil] at h
      exact ok_d sf (.tup h1 h2 h3) h
  · obtain ⟨hz, rfl⟩ := guardO_some e
    exact .inr (.inr (.inr (catR_ok sf o1 o2 rfl rfl hz h)))
  · obtain ⟨hz, rfl⟩ := guardO_some e
    exact .inr (.inr (.inr (catR_ok sf o1 o2 rfl rfl hz h)))
  · obtain ⟨hz, rfl⟩ := guardO_some e
    exact .inr (.inr (.inr (catR_ok sf o1 o2 rfl rfl hz h)))
  · obtain ⟨hz, rfl⟩ := guardO_some e
    exact .inr (.inr (.inr (catR_ok sf o1 o2 rfl rfl hz h)))
  · cases e

/-! ### - * // % ** -/
def oSub : M → M → Option M
  | .fz (.int i), .fz (.int j) => some (.fz (.int (i - j)))
  | _, _ => none
theorem sp_sub {G : Glob} : Spec2 G (rI0 fun i j => .int (i - j)) oSub := fun F H x y m n k p q Q sf o1 o2 e h => by
  unfold oSub at e
  split at e
  · rename_i i j
    cases e
    rw [own_i o1, own_i o2]
    exact ⟨i, j, rfl, rfl, ok_i (k := .fz (.int 0)) sf h⟩
  · cases e
def mulOk (i j : Int) : Prop := (-18446744073709551616 < i ∧ i < 18446744073709551616) ∨ (-18446744073709551616 < j ∧ j < 18446744073709551616) ∨ i.natAbs.log2 + j.natAbs.log2 < 1000000
instance (i j : Int) : Decidable (mulOk i j) := by unfold mulOk; infer_instance
def oMul : M → M → Option M
  | .fz (.int i), .fz (.int j) => guardO (mulOk i j) (.fz (.int (i * j)))
  | .ol a, .fz (.int j) => guardO (0 ≤ j ∧ j ≤ 1000000 ∧ a.length * j.toNat ≤ 1000000) (.ol (List.replicate j.toNat a).flatten)
  | .fz (.tuple a), .fz (.int j) => guardO (a ≠ [] ∧ 2 ≤ j ∧ j ≤ 1000 ∧ a.length ≤ 1000) (.fz (.tuple (List.replicate j.toNat a).flatten))
  | _, _ => none
def rMulM (K : PySem.W.Frag) : L2.R2 := fun x y H Q => (rI CMul (fun i j => .int (i * j)) x y H Q) ∨ ((rI CMulW (fun i j => .int (i * j)) x y H Q) ∨ (rRep x y H Q ∨ rRepT K x y H Q))
theorem op_mulM : OpR X (binaryOp .Mult) (rMulM X.K) := OpR.or op_mul (OpR.or op_mulW (OpR.or op_rep op_repT))
theorem RepAll.flat {K : PySem.W.Frag} {F : Hp} {xs : List V} {ds : List D} (r : RepAll K F xs ds) : ∀ n : Nat, RepAll K F (List.replicate n xs).flatten (List.replicate n ds).flatten
  | 0 => .nil
  | n + 1 => by
    rw [List.replicate_succ, List.flatten_cons, List.replicate_succ, List.flatten_cons]
    exact r.append (r.flat n)
theorem sp_mul {G : Glob} : Spec2 G (rMulM G.K) oMul := fun F H x y m n k p q Q sf o1 o2 e h => by
  unfold oMul at e
  split at e
  · rename_i i j
    obtain ⟨hm, rfl⟩ := guardO_some e
    rw [own_i o1, own_i o2]
    rcases hm with hm | hm | hm
    · exact .inl ⟨i, j, rfl, rfl, .inl ⟨by omega, by omega⟩, ok_i (k := .fz (.int 0)) sf h⟩
    · exact .inl ⟨i, j, rfl, rfl, .inr ⟨by omega, by omega⟩, ok_i (k := .fz (.int 0)) sf h⟩
    · exact .inr (.inl ⟨i, j, rfl, rfl, hm, ok_i (k := .fz (.int 0)) sf h⟩)
  · rename_i a j
    obtain ⟨⟨h0, h1, h2⟩, rfl⟩ := guardO_some e
    rw [own_i o2]
    cases o1 with
    | ol g1 g2 g3 =>
      have hl := g3.length
      have hs : (1000000 : Nat) ≤ sizeLine := by decide
      exact .inr (.inr (.inl ⟨_, j, _, rfl, rfl, g1, by omega, by omega, by rw [hl]; omega, ok_newL sf (by
        have := (g3.flat j.toNat).length
        rw [this, List.length_flatten, List.map_replicate, List.sum_replicate_nat, Nat.mul_comm]
        omega) (g3.flat _) h⟩))
  · rename_i a j
    obtain ⟨⟨h0, h1, h2, h3⟩, rfl⟩ := guardO_some e
    rw [own_i o2]
    obtain ⟨l, xs, rfl, g1, g2, g3⟩ := own_t o1
    have hl := g3.length
    have hs : (1000000 : Nat) ≤ sizeLine := by decide
    refine .inr (.inr (.inr ⟨l, j, xs, rfl, rfl, Same.sqT sf g1, fun e => h0 (by subst e; cases g3; rfl), h1, h2, by omega, ok_newT sf ?_ (g3.flat _) h⟩))
    have := (g3.flat j.toNat).length
    rw [this, List.length_flatten, List.map_replicate, List.sum_replicate_nat]
    have : j.toNat * a.length ≤ 1000 * 1000 := Nat.mul_le_mul (by omega) h3
    omega
  · cases e

def oDiv : M → M → Option M
  | .fz (.int i), .fz (.int j) => guardO (0 < j ∧ j < 18446744073709551616) (.fz (.int (i / j)))
  | _, _ => none
theorem log2_small {j : Int} (h0 : 0 < j) (h : j < 18446744073709551616) : j.natAbs.log2 < 9000 := by
  have h1 : j.natAbs < 2 ^ 64 := by omega
  have h2 : j.natAbs ≠ 0 := by omega
  exact Nat.lt_trans ((Nat.log2_lt h2).mpr h1) (by decide)
theorem sp_div {G : Glob} : Spec2 G (rI CDivW fun i j => .int (i / j)) oDiv := fun F H x y m n k p q Q sf o1 o2 e h => by
  unfold oDiv at e
  split at e
  · rename_i i j
    obtain ⟨⟨h0, h1⟩, rfl⟩ := guardO_some e
    rw [own_i o1, own_i o2]
    exact ⟨i, j, rfl, rfl, ⟨h0, log2_small h0 h1⟩, ok_i (k := .fz (.int 0)) sf h⟩
  · cases e
def oMod : M → M → Option M
  | .fz (.int i), .fz (.int j) => guardO (0 < j) (.fz (.int (i % j)))
  | _, _ => none
theorem sp_mod {G : Glob} : Spec2 G (rI (fun _ j => 0 < j) fun i j => .int (i % j)) oMod := fun F H x y m n k p q Q sf o1 o2 e h => by
  unfold oMod at e
  split at e
  · rename_i i j
    obtain ⟨h0, rfl⟩ := guardO_some e
    rw [own_i o1, own_i o2]
    exact ⟨i, j, rfl, rfl, h0, ok_i (k := .fz (.int 0)) sf h⟩
  · cases e
def oPow : M → M → Option M
  | .fz (.int i), .fz (.int j) => guardO (0 ≤ j ∧ j ≤ 1000000 ∧ i.natAbs < 18446744073709551616) (.fz (.int (i ^ j.toNat)))
  | _, _ => none
theorem sp_pow {G : Glob} : Spec2 G (rI CPow fun i j => .int (i ^ j.toNat)) oPow := fun F H x y m n k p q Q sf o1 o2 e h => by
  unfold oPow at e
  split at e
  · rename_i i j
    obtain ⟨⟨h0, h1, h2⟩, rfl⟩ := guardO_some e
    rw [own_i o1, own_i o2]
    exact ⟨i, j, rfl, rfl, ⟨h0, h1, h2⟩, ok_i (k := .fz (.int 0)) sf h⟩
  · cases e
def oNeg : M → Option M
  | .fz (.int i) => some (.fz (.int (-i)))
  | _ => none
theorem sp_neg {G : Glob} : Spec1 G (rU fun i => .int (-i)) oNeg := fun F H x m k p Q sf o e h => by
  unfold oNeg at e
  split at e
  · rename_i i
    cases e
    rw [own_i o]
    exact ⟨i, rfl, ok_i (k := .fz (.int 0)) sf h⟩
  · cases e

/-! ### < <= > >= of numbers -/
def oLt : M → M → Option M
  | .fz (.int i), .fz (.int j) => some (.fz (.bool (decide (i < j))))
  | _, _ => none
def oLe : M → M → Option M
  | .fz (.int i), .fz (.int j) => some (.fz (.bool (decide (i ≤ j))))
  | _, _ => none
def oGt : M → M → Option M
  | .fz (.int i), .fz (.int j) => some (.fz (.bool (decide (j < i))))
  | _, _ => none
def oGe : M → M → Option M
  | .fz (.int i), .fz (.int j) => some (.fz (.bool (decide (j ≤ i))))
  | _, _ => none
theorem sp_lt {G : Glob} : Spec2 G (rI0 fun i j => .bl (decide (i < j))) oLt := fun F H x y m n k p q Q sf o1 o2 e h => by
  unfold oLt at e
  split at e
  · rename_i i j; cases e; rw [own_i o1, own_i o2]; exact ⟨i, j, rfl, rfl, ok_b sf h⟩
  · cases e
theorem sp_le {G : Glob} : Spec2 G (rI0 fun i j => .bl (decide (i ≤ j))) oLe := fun F H x y m n k p q Q sf o1 o2 e h => by
  unfold oLe at e
  split at e
  · rename_i i j; cases e; rw [own_i o1, own_i o2]; exact ⟨i, j, rfl, rfl, ok_b sf h⟩
  · cases e
theorem sp_gt {G : Glob} : Spec2 G (rI0 fun i j => .bl (decide (j < i))) oGt := fun F H x y m n k p q Q sf o1 o2 e h => by
  unfold oGt at e
  split at e
  · rename_i i j; cases e; rw [own_i o1, own_i o2]; exact ⟨i, j, rfl, rfl, ok_b sf h⟩
  · cases e
theorem sp_ge {G : Glob} : Spec2 G (rI0 fun i j => .bl (decide (j ≤ i))) oGe := fun F H x y m n k p q Q sf o1 o2 e h => by
  unfold oGe at e
  split at e
  · rename_i i j; cases e; rw [own_i o1, own_i o2]; exact ⟨i, j, rfl, rfl, ok_b sf h⟩
  · cases e
end

/-! ### data as the model reads it -/
section
variable {K : PySem.W.Frag} {H : Hp}
mutual
theorem Rep.dp : ∀ {v : V} {d : D}, Rep K H v d → d.plain = true → Dp K H v d
  | _, _, .non, _ => .non
  | _, _, .bl b, _ => .bl b
  | _, _, .int i, _ => .int i
  | _, _, .str x _, _ => .str x
  | _, .list ds, .lst h _ r, e => .lst h (RepAll.dp r (show PyData.plainAll ds = true from e))
  | _, .tuple ds, .tup h _ r, e => .tup h (RepAll.dp r (show PyData.plainAll ds = true from e))
  | _, .dict _, .dK _ _, e => by cases e
  | _, .dict _, .dT _ _, e => by cases e
theorem RepAll.dp : ∀ {vs : List V} {ds : List D}, RepAll K H vs ds → PyData.plainAll ds = true → DpAll K H vs ds
  | _, _, .nil, _ => .nil
  | _, d :: ds, .cons h t, e => by
    have e' : (d.plain && PyData.plainAll ds) = true := e
    rw [Bool.and_eq_true] at e'
    exact .cons (Rep.dp h e'.1) (RepAll.dp t e'.2)
end
end
theorem Own.dp {G : Glob} {F H : Hp} {v : V} {m : M} {p : List Addr} {d : D} (sf : Same F H) (o : Own G F H v m p) (e : Sw.strip m = some d) (hp : d.plain = true) : Dp G.K H v d := by
  cases o with
  | fz r => cases e; exact (r.mono sf).dp hp
  | ol h _ r => cases e; exact .lst (.inl (.inl h)) ((r.mono sf).dp hp)
  | od h => cases e; cases hp
  | ob _ _ _ _ _ _ => cases e
def eqOk (d e : D) : Bool := d.plain && e.plain && decide (min d.depth e.depth ≤ 60)
def withD2 (f : D → D → Option M) (m n : M) : Option M := (strip m).bind fun d => (strip n).bind fun e => f d e
theorem withD2_some {f : D → D → Option M} {m n k : M} (h : withD2 f m n = some k) : ∃ d e, strip m = some d ∧ strip n = some e ∧ f d e = some k := by
  unfold withD2 at h
  cases e1 : strip m with
  | none => rw [e1] at h; cases h
  | some d =>
    cases e2 : strip n with
    | none => rw [e1, e2] at h; cases h
    | some e => rw [e1, e2] at h; exact ⟨d, e, rfl, rfl, h⟩
def oEq : M → M → Option M := withD2 fun d e => if eqOk d e = true then some (.fz (.bool (PyData.eqv d e))) else none
def oNe : M → M → Option M := withD2 fun d e => if eqOk d e = true then some (.fz (.bool (!PyData.eqv d e))) else none
section
variable {X : L2.Cx}
def rEqM (K : PySem.W.Frag) : L2.R2 := fun x y H Q => ∃ d e, Dp K H x d ∧ Dp K H y e ∧ eqOk d e = true ∧ Q (.bl (PyData.eqv d e)) H
def rNeM (K : PySem.W.Frag) : L2.R2 := fun x y H Q => ∃ d e, Dp K H x d ∧ Dp K H y e ∧ eqOk d e = true ∧ Q (.bl (!PyData.eqv d e)) H
theorem eqOk_d {d e : D} (h : eqOk d e = true) : d.plain = true ∧ e.plain = true ∧ min d.depth e.depth ≤ 60 := by
  unfold eqOk at h
  simp only [Bool.and_eq_true, decide_eq_true_eq] at h
  exact ⟨h.1.1, h.1.2, h.2⟩
theorem op_eqM (hu : X.A.units + 65 < cLine) : OpR X (compareOp .Eq) (rEqM X.K) := by
  intro pins s σ H x y v u Q I rx ry h
  obtain ⟨d, e, hd, he, ok, q⟩ := h
  obtain ⟨h1, h2, h3⟩ := eqOk_d ok
  obtain ⟨as, r1⟩ := Dp.reads I d x v hd rx
  obtain ⟨bs, r2⟩ := Dp.reads I e y u he ry
  exact SeqAt.eq_plain r1 r2 h1 h2 (by omega) ⟨.bl _, H, I, rfl, q⟩
theorem op_neM (hu : X.A.units + 65 < cLine) : OpR X (compareOp .NotEq) (rNeM X.K) := by
  intro pins s σ H x y v u Q I rx ry h
  obtain ⟨d, e, hd, he, ok, q⟩ := h
  obtain ⟨h1, h2, h3⟩ := eqOk_d ok
  obtain ⟨as, r1⟩ := Dp.reads I d x v hd rx
  obtain ⟨bs, r2⟩ := Dp.reads I e y u he ry
  exact SeqAt.ne_plain r1 r2 h1 h2 (by omega) ⟨.bl _, H, I, rfl, q⟩
theorem sp_eq {G : Glob} : Spec2 G (rEqM G.K) oEq := fun F H x y m n k p q Q sf o1 o2 e h => by
  obtain ⟨d, e', e1, e2, e⟩ := withD2_some e
  split at e
  · rename_i ok
    cases e
    obtain ⟨h1, h2, h3⟩ := eqOk_d ok
    exact ⟨d, e', o1.dp sf e1 h1, o2.dp sf e2 h2, ok, ok_b sf h⟩
  · cases e
theorem sp_ne {G : Glob} : Spec2 G (rNeM G.K) oNe := fun F H x y m n k p q Q sf o1 o2 e h => by
  obtain ⟨d, e', e1, e2, e⟩ := withD2_some e
  split at e
  · rename_i ok
    cases e
    obtain ⟨h1, h2, h3⟩ := eqOk_d ok
    exact ⟨d, e', o1.dp sf e1 h1, o2.dp sf e2 h2, ok, ok_b sf h⟩
  · cases e

/-! ### in, not in -/
def seqOf : D → Option (List D)
  | .list xs => some xs
  | .tuple xs => some xs
  | _ => none
def inOk (d : D) (xs : List D) : Bool := d.plain && PyData.plainAll xs && decide (min (PyData.depthAll xs) d.depth ≤ 60)
/-- whether a sign (or a text) is in a text -/
def strIn (x z : Str) : Bool := match x.cps.toList with
  | [c] => decide (c ∈ z.cps.toList)
  | _ => !(Builtin.Str.occurrences z x 0 z.length 1).isEmpty
def memD (d c : D) : Option Bool := match d, c with
  | .str x, .str z => some (strIn x z)
  | d, c => (seqOf c).bind fun xs => if inOk d xs = true then some (xs.any fun z => PyData.eqv z d) else none
def oIn : M → M → Option M := withD2 fun d c => (memD d c).map fun b => .fz (.bool b)
def oNotIn : M → M → Option M := withD2 fun d c => (memD d c).map fun b => .fz (.bool (!b))
def rInM (K : PySem.W.Frag) (neg : Bool) : L2.R2 := fun x y H Q => ∃ d c b, Dp K H x d ∧ Dp K H y c ∧ memD d c = some b ∧ Q (.bl (if neg then !b else b)) H
theorem memD_seq {d c : D} {b : Bool} (h : memD d c = some b) : (∃ x z, d = .str x ∧ c = .str z ∧ b = strIn x z) ∨ ∃ xs, (c = .list xs ∨ c = .tuple xs) ∧ inOk d xs = true ∧ b = xs.any fun z => PyData.eqv z d := by
  unfold memD at h
  split at h
  · rename_i x z
    cases h
    exact .inl ⟨x, z, rfl, rfl, rfl⟩
  · refine .inr ?_
    cases c with
    | list xs =>
      simp only [seqOf, Option.bind_some] at h
      split at h
      · cases h; exact ⟨xs, .inl rfl, ‹_›, rfl⟩
      · cases h
    | tuple xs =>
      simp only [seqOf, Option.bind_some] at h
      split at h
      · cases h; exact ⟨xs, .inr rfl, ‹_›, rfl⟩
      · cases h
    | _ => simp [seqOf] at h
theorem inOk_d {d : D} {xs : List D} (h : inOk d xs = true) : d.plain = true ∧ PyData.plainAll xs = true ∧ min (PyData.depthAll xs) d.depth ≤ 60 := by
  unfold inOk at h
  simp only [Bool.and_eq_true, decide_eq_true_eq] at h
  exact ⟨h.1.1, h.1.2, h.2⟩
theorem str_eta (x : Str) {l : List Nat} (h : x.cps.toList = l) : x = ⟨l.toArray⟩ := by
  obtain ⟨a⟩ := x
  have : a = l.toArray := by rw [← h]
  rw [this]
theorem op_inM (hu : X.A.units + 65 < cLine) : OpR X (compareOp .In) (rInM X.K false) := by
  intro pins s σ H x y v u Q I rx ry h
  obtain ⟨d, c, b, hd, hc, hm, q⟩ := h
  rcases memD_seq hm with ⟨a, z, rfl, rfl, rfl⟩ | ⟨xs, hx, ok, rfl⟩
  · cases hd
    cases hc
    have q : Q (.bl (strIn a z)) H := q
    rcases e : a.cps.toList with _ | ⟨ch, _ | ⟨ch2, r⟩⟩
    · have e2 : strIn a z = !(Builtin.Str.occurrences z a 0 z.length 1).isEmpty := by unfold strIn; rw [e]
      rw [e2] at q
      exact op_in_str pins s σ H _ _ v u Q I rx ry ⟨a, z, rfl, rfl, q⟩
    · have e2 : strIn a z = decide (ch ∈ z.cps.toList) := by unfold strIn; rw [e]
      rw [e2] at q
      refine op_in_sign pins s σ H _ _ v u Q I rx ry ⟨ch, z, ?_, rfl, q⟩
      rw [str_eta a e]
    · have e2 : strIn a z = !(Builtin.Str.occurrences z a 0 z.length 1).isEmpty := by unfold strIn; rw [e]
      rw [e2] at q
      exact op_in_str pins s σ H _ _ v u Q I rx ry ⟨a, z, rfl, rfl, q⟩
  · obtain ⟨h1, h2, h3⟩ := inOk_d ok
    obtain ⟨as, r1⟩ := Dp.reads I d x v hd rx
    rcases hx with rfl | rfl
    · obtain ⟨bs, r2⟩ := Dp.reads I _ y u hc ry
      exact SeqAt.in_list_data r2 r1 h2 h1 (by omega) ⟨.bl _, H, I, rfl, q⟩
    · obtain ⟨bs, r2⟩ := Dp.reads I _ y u hc ry
      exact SeqAt.in_tuple_data r2 r1 h2 h1 (by omega) ⟨.bl _, H, I, rfl, q⟩
theorem op_notInM (hu : X.A.units + 65 < cLine) : OpR X (compareOp .NotIn) (rInM X.K true) := by
  intro pins s σ H x y v u Q I rx ry h
  obtain ⟨d, c, b, hd, hc, hm, q⟩ := h
  rcases memD_seq hm with ⟨a, z, rfl, rfl, rfl⟩ | ⟨xs, hx, ok, rfl⟩
  · cases hd
    cases hc
    have q : Q (.bl (!strIn a z)) H := q
    rcases e : a.cps.toList with _ | ⟨ch, _ | ⟨ch2, r⟩⟩
    · have e2 : strIn a z = !(Builtin.Str.occurrences z a 0 z.length 1).isEmpty := by unfold strIn; rw [e]
      rw [e2] at q
      exact L2.op_notIn_str pins s σ H _ _ v u Q I rx ry ⟨a, z, rfl, rfl, q⟩
    · have e2 : strIn a z = decide (ch ∈ z.cps.toList) := by unfold strIn; rw [e]
      rw [e2] at q
      refine op_notIn_sign pins s σ H _ _ v u Q I rx ry ⟨ch, z, ?_, rfl, q⟩
      rw [str_eta a e]
    · have e2 : strIn a z = !(Builtin.Str.occurrences z a 0 z.length 1).isEmpty := by unfold strIn; rw [e]
      rw [e2] at q
      exact L2.op_notIn_str pins s σ H _ _ v u Q I rx ry ⟨a, z, rfl, rfl, q⟩
  · obtain ⟨h1, h2, h3⟩ := inOk_d ok
    obtain ⟨as, r1⟩ := Dp.reads I d x v hd rx
    rcases hx with rfl | rfl
    · obtain ⟨bs, r2⟩ := Dp.reads I _ y u hc ry
      exact SeqAt.notIn_list_data r2 r1 h2 h1 (by omega) ⟨.bl _, H, I, rfl, q⟩
    · obtain ⟨bs, r2⟩ := Dp.reads I _ y u hc ry
      exact SeqAt.notIn_tuple_data r2 r1 h2 h1 (by omega) ⟨.bl _, H, I, rfl, q⟩
theorem strip_dp {G : Glob} {F H : Hp} {v : V} {m : M} {p : List Addr} {d : D} (sf : Same F H) (o : Own G F H v m p) (e : Sw.strip m = some d) (hp : d.plain = true) : Dp G.K H v d := o.dp sf e hp
theorem memD_plain {d c : D} {b : Bool} (h : memD d c = some b) : d.plain = true ∧ c.plain = true := by
  rcases memD_seq h with ⟨a, z, rfl, rfl, rfl⟩ | ⟨xs, hx, ok, rfl⟩
  · exact ⟨rfl, rfl⟩
  · obtain ⟨h1, h2, h3⟩ := inOk_d ok
    rcases hx with rfl | rfl
    · exact ⟨h1, h2⟩
    · exact ⟨h1, h2⟩
theorem sp_in {G : Glob} : Spec2 G (rInM G.K false) oIn := fun F H x y m n k p q Q sf o1 o2 e h => by
  obtain ⟨d, c, e1, e2, e⟩ := withD2_some e
  cases eb : memD d c with
  | none => rw [eb] at e; cases e
  | some b =>
    rw [eb] at e
    cases e
    obtain ⟨h1, h2⟩ := memD_plain eb
    exact ⟨d, c, b, o1.dp sf e1 h1, o2.dp sf e2 h2, eb, ok_b sf h⟩
theorem sp_notIn {G : Glob} : Spec2 G (rInM G.K true) oNotIn := fun F H x y m n k p q Q sf o1 o2 e h => by
  obtain ⟨d, c, e1, e2, e⟩ := withD2_some e
  cases eb : memD d c with
  | none => rw [eb] at e; cases e
  | some b =>
    rw [eb] at e
    cases e
    obtain ⟨h1, h2⟩ := memD_plain eb
    exact ⟨d, c, b, o1.dp sf e1 h1, o2.dp sf e2 h2, eb, ok_b sf h⟩

/-! ### is None, is not None -/
def isNone : M → Bool
  | .fz .none => true
  | _ => false
def oIsN : M → Option M := fun m => some (.fz (.bool (isNone m)))
def oNotN : M → Option M := fun m => some (.fz (.bool (!isNone m)))
theorem own_none {G : Glob} {F H : Hp} {v : V} {m : M} {p : List Addr} (o : Own G F H v m p) : decide (v = .non) = isNone m := by
  cases o with
  | fz r => cases r <;> rfl
  | ol _ _ _ => rfl
  | od _ => rfl
  | ob _ _ _ _ _ _ => rfl
theorem tIsN_E {G : Glob} {W : WX} {va : Ev} (σ : L2.St) (H : Hp) (Q : VK) (h : tE G W (eUn oIsN va) σ H Q) : tIsN (tE G W va) σ H Q := by
  have := eUn_run (r := fun x H Q => Q (.bl (decide (x = .non))) H) (fun F H x m k p Q sf o e h => by
    cases e
    rw [own_none o]
    exact ok_b sf h) σ H Q h
  exact this
theorem tNotN_E {G : Glob} {W : WX} {va : Ev} (σ : L2.St) (H : Hp) (Q : VK) (h : tE G W (eUn oNotN va) σ H Q) : tNotN (tE G W va) σ H Q := by
  have := eUn_run (r := fun x H Q => Q (.bl (!decide (x = .non))) H) (fun F H x m k p Q sf o e h => by
    cases e
    rw [own_none o]
    exact ok_b sf h) σ H Q h
  exact this
section
variable {W : WX} {a : Expr} {va : Ev} {pos : Pos} {j : Nat} {pos' : Pos}
theorem PC.imp {X : L2.Cx} {op : CmpOp} {a b : Expr} {t t' : TE} (h : PC X op a b t) (k : ∀ σ H Q, t' σ H Q → t σ H Q) : PC X op a b t' := ⟨fun pins s σ H Q I hw => h.run pins s σ H Q I (k σ H Q hw)⟩
theorem se_isN (ha : PE X a (tE (gl X) W va)) : PE X (.Compare a [.Is] [.Constant .none j pos'] pos) (tE (gl X) W (eUn oIsN va)) := PE.imp (pe_cmp (pc_isN ha) rfl) tIsN_E
theorem se_notN (ha : PE X a (tE (gl X) W va)) : PE X (.Compare a [.IsNot] [.Constant .none j pos'] pos) (tE (gl X) W (eUn oNotN va)) := PE.imp (pe_cmp (pc_notN ha) rfl) tNotN_E
theorem st_isN (ha : PE X a (tE (gl X) W va)) : PT X (.Compare a [.Is] [.Constant .none j pos'] pos) (tT (gl X) W (asB (eUn oIsN va))) := PT.imp (pt_cmp (pc_isN ha) rfl) fun σ H Q h => tIsN_E σ H _ (asB_run σ H Q h)
theorem st_notN (ha : PE X a (tE (gl X) W va)) : PT X (.Compare a [.IsNot] [.Constant .none j pos'] pos) (tT (gl X) W (asB (eUn oNotN va))) := PT.imp (pt_cmp (pc_notN ha) rfl) fun σ H Q h => tNotN_E σ H _ (asB_run σ H Q h)
end
end
end Sw

/-! SwJ: built-ins, subscripts, slices, methods. -/
namespace Sw
open PySem PySem.Spec PyProof.Rows L2

/-! ### len -/
def oLen : List M → Option M
  | [.fz (.str s)] => some (.fz (.int s.length))
  | [.fz (.list ds)] => some (.fz (.int ds.length))
  | [.fz (.tuple ds)] => some (.fz (.int ds.length))
  | [.ol ds] => some (.fz (.int ds.length))
  | _ => none
theorem one_of {G : Glob} {F H : Hp} {xs : List V} {m : M} (h : Paired (fun x m => ∃ p, Own G F H x m p) xs [m]) : ∃ x p, xs = [x] ∧ Own G F H x m p := by
  cases h with
  | cons o t =>
    cases t
    obtain ⟨p, o⟩ := o
    exact ⟨_, p, rfl, o⟩
theorem sp_len {G : Glob} : SpecN G (fun xs H Q => ∃ x n, xs = [x] ∧ LenV G.K x H n ∧ Q (.int n) H) oLen := fun F H xs ms k Q sf po e h => by
  unfold oLen at e
  split at e
  · rename_i s
    cases e
    obtain ⟨x, p, rfl, o⟩ := one_of po
    obtain ⟨rfl, w⟩ := own_s o
    exact ⟨_, _, rfl, ⟨w.2, rfl⟩, ok_i (k := .fz (.int 0)) sf h⟩
  · rename_i ds
    cases e
    obtain ⟨x, p, rfl, o⟩ := one_of po
    obtain ⟨a, xs, rfl, h1, h2, h3⟩ := own_l sf o rfl
    exact ⟨_, _, rfl, .inl ⟨xs, h1, rfl⟩, by rw [h3.length]; exact ok_i (k := .fz (.int 0)) sf h⟩
  · rename_i ds
    cases e
    obtain ⟨x, p, rfl, o⟩ := one_of po
    obtain ⟨a, xs, rfl, h1, h2, h3⟩ := own_t o
    exact ⟨_, _, rfl, .inr ⟨xs, Same.sqT sf h1, rfl⟩, by rw [h3.length]; exact ok_i (k := .fz (.int 0)) sf h⟩
  · rename_i ds
    cases e
    obtain ⟨x, p, rfl, o⟩ := one_of po
    obtain ⟨a, xs, rfl, h1, h2, h3⟩ := own_l sf o rfl
    exact ⟨_, _, rfl, .inl ⟨xs, h1, rfl⟩, by rw [h3.length]; exact ok_i (k := .fz (.int 0)) sf h⟩
  · cases e

/-! ### all, any, sum of a list -/
def boolsD : List D → Option (List Bool)
  | [] => some []
  | .bool b :: l => (boolsD l).map (b :: ·)
  | _ => none
theorem boolsD_rep {K : PySem.W.Frag} {F : Hp} : ∀ {ds : List D} {bs : List Bool} {xs : List V}, boolsD ds = some bs → RepAll K F xs ds → xs = bs.map V.bl
  | [], bs, xs, e, r => by cases e; cases r; rfl
  | .bool b :: l, bs, xs, e, r => by
    unfold boolsD at e
    cases q : boolsD l with
    | none => rw [q] at e; cases e
    | some cs =>
      rw [q] at e
      cases e
      cases r with
      | cons r1 r2 =>
        cases r1
        rw [List.map_cons, boolsD_rep q r2]
  | .none :: _, _, _, e, _ => by cases e
  | .int _ :: _, _, _, e, _ => by cases e
  | .str _ :: _, _, _, e, _ => by cases e
  | .list _ :: _, _, _, e, _ => by cases e
  | .tuple _ :: _, _, _, e, _ => by cases e
  | .dict _ :: _, _, _, e, _ => by cases e
def intsD : List D → Option (List Int)
  | [] => some []
  | .int b :: l => (intsD l).map (b :: ·)
  | _ => none
theorem intsD_rep {K : PySem.W.Frag} {F : Hp} : ∀ {ds : List D} {bs : List Int} {xs : List V}, intsD ds = some bs → RepAll K F xs ds → xs = bs.map V.int
  | [], bs, xs, e, r => by cases e; cases r; rfl
  | .int b :: l, bs, xs, e, r => by
    unfold intsD at e
    cases q : intsD l with
    | none => rw [q] at e; cases e
    | some cs =>
      rw [q] at e
      cases e
      cases r with
      | cons r1 r2 =>
        cases r1
        rw [List.map_cons, intsD_rep q r2]
  | .none :: _, _, _, e, _ => by cases e
  | .bool _ :: _, _, _, e, _ => by cases e
  | .str _ :: _, _, _, e, _ => by cases e
  | .list _ :: _, _, _, e, _ => by cases e
  | .tuple _ :: _, _, _, e, _ => by cases e
  | .dict _ :: _, _, _, e, _ => by cases e
def oneL (f : List D → Option M) : List M → Option M
  | [m] => (lstM m).bind f
  | _ => none
theorem oneL_some {f : List D → Option M} {ms : List M} {k : M} (h : oneL f ms = some k) : ∃ m ds, ms = [m] ∧ lstM m = some ds ∧ f ds = some k := by
  unfold oneL at h
  split at h
  · rename_i m
    cases q : lstM m with
    | none => rw [q] at h; cases h
    | some ds => rw [q] at h; exact ⟨m, ds, rfl, q, h⟩
  · cases h
def oAll : List M → Option M := oneL fun ds => (boolsD ds).map fun bs => .fz (.bool (bs.all id))
def oAny : List M → Option M := oneL fun ds => (boolsD ds).map fun bs => .fz (.bool (bs.any id))
def oSum : List M → Option M := oneL fun ds => (intsD ds).map fun ns => .fz (.int ns.sum)
theorem sp_all {G : Glob} : SpecN G (rAll G.K) oAll := fun F H xs ms k Q sf po e h => by
  obtain ⟨m, ds, rfl, q, e⟩ := oneL_some e
  obtain ⟨x, p, rfl, o⟩ := one_of po
  obtain ⟨a, xs, rfl, h1, h2, h3⟩ := own_l sf o q
  cases eb : boolsD ds with
  | none => rw [eb] at e; cases e
  | some bs =>
    rw [eb] at e
    cases e
    have ex := boolsD_rep eb h3
    subst ex
    exact ⟨a, bs, rfl, h1, ok_b sf h⟩
theorem sp_any {G : Glob} : SpecN G (rAny G.K) oAny := fun F H xs ms k Q sf po e h => by
  obtain ⟨m, ds, rfl, q, e⟩ := oneL_some e
  obtain ⟨x, p, rfl, o⟩ := one_of po
  obtain ⟨a, xs, rfl, h1, h2, h3⟩ := own_l sf o q
  cases eb : boolsD ds with
  | none => rw [eb] at e; cases e
  | some bs =>
    rw [eb] at e
    cases e
    have ex := boolsD_rep eb h3
    subst ex
    exact ⟨a, bs, rfl, h1, ok_b sf h⟩
theorem sp_sum {G : Glob} : SpecN G (rSum G.K) oSum := fun F H xs ms k Q sf po e h => by
  obtain ⟨m, ds, rfl, q, e⟩ := oneL_some e
  obtain ⟨x, p, rfl, o⟩ := one_of po
  obtain ⟨a, xs, rfl, h1, h2, h3⟩ := own_l sf o q
  cases eb : intsD ds with
  | none => rw [eb] at e; cases e
  | some bs =>
    rw [eb] at e
    cases e
    have ex := intsD_rep eb h3
    subst ex
    exact ⟨a, bs, rfl, h1, ok_i (k := .fz (.int 0)) sf h⟩
/-! ### int(x), str(n), tuple(x), list(x) -/
def oInt : List M → Option M
  | [.fz (.int i)] => some (.fz (.int i))
  | [.fz (.bool k)] => some (.fz (.int (if k then 1 else 0)))
  | _ => none
theorem sp_int {G : Glob} : SpecN G (fun xs H Q => (∃ i, xs = [.int i] ∧ Q (.int i) H) ∨ ∃ k, xs = [.bl k] ∧ Q (.int (if k then 1 else 0)) H) oInt := fun F H xs ms k Q sf po e h => by
  unfold oInt at e
  split at e
  · rename_i i
    cases e
    obtain ⟨x, p, rfl, o⟩ := one_of po
    rw [own_i o]
    exact .inl ⟨i, rfl, ok_i (k := .fz (.int 0)) sf h⟩
  · rename_i b
    cases e
    obtain ⟨x, p, rfl, o⟩ := one_of po
    rw [own_b o]
    exact .inr ⟨b, rfl, ok_i (k := .fz (.int 0)) sf h⟩
  · cases e
def oTuple : List M → Option M
  | [.fz (.tuple ds)] => some (.fz (.tuple ds))
  | [.fz (.list ds)] => some (.fz (.tuple ds))
  | [.ol ds] => some (.fz (.tuple ds))
  | _ => none
def rTupM (K : PySem.W.Frag) : List V → Hp → VK → Prop := fun xs H Q => ∃ p ys, xs = [.ref p] ∧ ((SqL K H p ys ∧ ∀ l, H l = none → Q (.ref l) (upd H l (.tup ys))) ∨ (SqT K H p ys ∧ Q (.ref p) H))
theorem sp_tuple {G : Glob} : SpecN G (rTupM G.K) oTuple := fun F H xs ms k Q sf po e h => by
  unfold oTuple at e
  split at e
  · rename_i ds
    cases e
    obtain ⟨x, p, rfl, o⟩ := one_of po
    obtain ⟨a, xs, rfl, h1, h2, h3⟩ := own_t o
    exact ⟨a, xs, rfl, .inr ⟨Same.sqT sf h1, ok_d sf (.tup h1 h2 h3) h⟩⟩
  · rename_i ds
    cases e
    obtain ⟨x, p, rfl, o⟩ := one_of po
    obtain ⟨a, xs, rfl, h1, h2, h3⟩ := own_l sf o rfl
    exact ⟨a, xs, rfl, .inl ⟨h1, ok_newT sf h2 h3 h⟩⟩
  · rename_i ds
    cases e
    obtain ⟨x, p, rfl, o⟩ := one_of po
    obtain ⟨a, xs, rfl, h1, h2, h3⟩ := own_l sf o rfl
    exact ⟨a, xs, rfl, .inl ⟨h1, ok_newT sf h2 h3 h⟩⟩
  · cases e
def oList : List M → Option M
  | [.fz (.tuple ds)] => some (.ol ds)
  | [.fz (.list ds)] => some (.ol ds)
  | [.ol ds] => some (.ol ds)
  | _ => none
theorem sp_list {G : Glob} : SpecN G (fun xs H Q => ∃ p ys, xs = [.ref p] ∧ (SqL G.K H p ys ∨ SqT G.K H p ys) ∧ ∀ l, H l = none → Q (.ref l) (upd H l (.lst ys))) oList := fun F H xs ms k Q sf po e h => by
  unfold oList at e
  split at e
  · rename_i ds
    cases e
    obtain ⟨x, p, rfl, o⟩ := one_of po
    obtain ⟨a, xs, rfl, h1, h2, h3⟩ := own_t o
    exact ⟨a, xs, rfl, .inr (Same.sqT sf h1), ok_newL sf h2 h3 h⟩
  · rename_i ds
    cases e
    obtain ⟨x, p, rfl, o⟩ := one_of po
    obtain ⟨a, xs, rfl, h1, h2, h3⟩ := own_l sf o rfl
    exact ⟨a, xs, rfl, .inl h1, ok_newL sf h2 h3 h⟩
  · rename_i ds
    cases e
    obtain ⟨x, p, rfl, o⟩ := one_of po
    obtain ⟨a, xs, rfl, h1, h2, h3⟩ := own_l sf o rfl
    exact ⟨a, xs, rfl, .inl h1, ok_newL sf h2 h3 h⟩
  · cases e

/-! ### isinstance of a built-in type -/
inductive Kd where
  | non | bool | int | str | list | tuple | dict
  deriving DecidableEq
def Kd.name : Kd → String
  | .non => "NoneType" | .bool => "bool" | .int => "int" | .str => "str" | .list => "list" | .tuple => "tuple" | .dict => "dict"
def kdD : D → Kd
  | .none => .non | .bool _ => .bool | .int _ => .int | .str _ => .str | .list _ => .list | .tuple _ => .tuple | .dict _ => .dict
def kdM : M → Option Kd
  | .fz d => some (kdD d)
  | .ol _ => some .list
  | .od _ => some .dict
  | _ => none
def isiK (a b : Kd) : Bool := match a, b with
  | .bool, .int => true
  | a, b => decide (a = b)
theorem kit_kd : ∀ a b : Kd, b ≠ .non → kitB a.name b.name = some (isiK a b) := by
  intro a b
  cases a <;> cases b <;> intro h <;> first | exact absurd rfl h | decide +kernel
def oIsi (b : Kd) : M → Option M := fun m => (kdM m).map fun a => .fz (.bool (isiK a b))
theorem tyX_of {G : Glob} {F H : Hp} {v : V} {m : M} {p : List Addr} {a : Kd} (sf : Same F H) (o : Own G F H v m p) (e : kdM m = some a) : TyX G.K H v (.type a.name) := by
  cases o with
  | fz r =>
    cases r with
    | non => cases e; exact .base .non
    | bl b => cases e; exact .base (.bl b)
    | int i => cases e; exact .base (.int i)
    | str x h => cases e; exact .base (.str x)
    | lst h _ _ =>
      cases e
      rcases h with (h | ⟨ob, h⟩) | ⟨ob, its, n, hk, hc, _⟩
      · exact .base (.lst (sf _ _ h))
      · exact .base (.frz (sf _ _ h))
      · exact .kList hk hc
    | tup h _ _ =>
      cases e
      rcases h with (h | ⟨ob, h⟩) | ⟨ob, its, n, hk, hc, _⟩
      · exact .base (.tup (sf _ _ h))
      · exact .fTuple (sf _ _ h)
      · exact .kTuple hk hc
    | dK h _ => cases e; exact .base (.dK (sf _ _ h))
    | dT h _ => cases e; exact .base (.dT (sf _ _ h))
  | ol h _ _ => cases e; exact .base (.lst h)
  | od h =>
    cases e
    cases h with
    | dK h _ => exact .base (.dK h)
    | dT h _ => exact .base (.dT h)
  | ob _ _ _ _ _ _ => cases e
section
variable {X : L2.Cx} {W : WX} {a : Expr} {va : Ev} {x : Str} {p pos q : Pos}
theorem se_isi (b : Kd) (hb : b ≠ .non) (hg : Gl X "isinstance") (hm : X.mg "isinstance" = none) (hgx : Gl X x) (hmx : X.mg x = none) (hv : bootBuiltins x = some (.type b.name)) (ha : PE X a (tE (gl X) W va)) (hn : x ≠ "__name__" := by decide) (hdb : (x == ("__debug__" : Str)) = false := by decide)
    (he : starEach [a, .Name x q] X.env = (false, eval a X.env) :: starEach [.Name x q] X.env := by rfl) (he2 : starEach [.Name x q] X.env = (false, eval (.Name x q) X.env) :: starEach [] X.env := by rfl) (hpl : (backTo pos (starEach [.Name x q] X.env)).any (·.1) = false := by rfl) :
    PE X (.Call (.Name "isinstance" p) [a, .Name x q] [] pos) (tE (gl X) W (eUn (oIsi b) va)) :=
  PE.imp (pe_callB call_isi hg hm (by decide +kernel) (pa_cons ha (pa_cons (pe_bltn (v := .ty b.name) hgx hmx hv rfl hn hdb) pa_nil he2) he) (by decide) (by decide) he hpl) fun σ H Q h => by
    have := eUn_run (r := fun v H Q => ∃ t, TyX X.K H v (.type t) ∧ ∃ r, kitB t b.name = some r ∧ Q (.bl r) H) (fun F H v m k p Q sf o e h => by
      unfold oIsi at e
      cases ek : kdM m with
      | none => rw [ek] at e; cases e
      | some c =>
        rw [ek] at e
        cases e
        exact ⟨c.name, tyX_of sf o ek, isiK c b, kit_kd c b hb, ok_b sf h⟩) σ H Q h
    obtain ⟨P, F0, F, fp, ε, ts, vs, R, hl, h2⟩ := this
    refine ⟨P, F0, F, fp, ε, ts, vs, R, hl, Got.mono h2 fun t ε1 h F1 H1 fp1 v1 l1 R1 ok1 => ?_⟩
    obtain ⟨t, ty, r, e, q⟩ := h F1 H1 fp1 v1 l1 R1 ok1
    exact ⟨v1, .ty b.name, _, _, r, rfl, .ty _, ty, kit_ty e, q⟩
end
end Sw

/-! SwK: subscripts, slices, methods, things changed in place. -/
namespace Sw
open PySem PySem.Spec PyProof.Rows L2

/-! ### a[i] -/
def oIx : M → M → Option M
  | .fz (.list ds), .fz (.int i) => (atI ds i).map .fz
  | .fz (.tuple ds), .fz (.int i) => (atI ds i).map .fz
  | .ol ds, .fz (.int i) => (atI ds i).map .fz
  | .fz (.str z), .fz (.int i) => (atI z.cps.toList i).map fun c => .fz (.str ⟨#[c]⟩)
  | _, _ => none
theorem RepAll.atI {K : PySem.W.Frag} {F : Hp} {xs : List V} {ds : List D} {i : Int} {d : D} (r : RepAll K F xs ds) (h : L2.atI ds i = some d) : ∃ v, L2.atI xs i = some v ∧ Rep K F v d := by
  unfold L2.atI at h ⊢
  rw [r.length]
  cases e : ixN ds.length i with
  | none => rw [e] at h; cases h
  | some j =>
    rw [e] at h
    obtain ⟨v, h1, h2⟩ := r.get (i := j) h
    exact ⟨v, h1, h2⟩
theorem map_some {α β : Type} {o : Option α} {f : α → β} {k : β} (h : o.map f = some k) : ∃ a, o = some a ∧ k = f a := by
  cases o with
  | none => cases h
  | some a => cases h; exact ⟨a, rfl, rfl⟩
theorem sp_ix {G : Glob} : Spec2 G (rIx G.K) oIx := fun F H x y m n k p q Q sf o1 o2 e h => by
  unfold oIx at e
  split at e
  · rename_i ds i
    obtain ⟨d, ed, rfl⟩ := map_some e
    obtain ⟨a, xs, rfl, h1, h2, h3⟩ := own_l sf o1 rfl
    rw [own_i o2]
    obtain ⟨v, g1, g2⟩ := h3.atI ed
    exact .inl ⟨a, xs, i, v, rfl, rfl, h1, g1, ok_d sf g2 h⟩
  · rename_i ds i
    obtain ⟨d, ed, rfl⟩ := map_some e
    obtain ⟨a, xs, rfl, h1, h2, h3⟩ := own_t o1
    rw [own_i o2]
    obtain ⟨v, g1, g2⟩ := h3.atI ed
    exact .inr (.inl ⟨a, xs, i, v, rfl, rfl, Same.sqT sf h1, g1, ok_d sf g2 h⟩)
  · rename_i ds i
    obtain ⟨d, ed, rfl⟩ := map_some e
    obtain ⟨a, xs, rfl, h1, h2, h3⟩ := own_l sf o1 rfl
    rw [own_i o2]
    obtain ⟨v, g1, g2⟩ := h3.atI ed
    exact .inl ⟨a, xs, i, v, rfl, rfl, h1, g1, ok_d sf g2 h⟩
  · rename_i z i
    obtain ⟨c, ed, rfl⟩ := map_some e
    obtain ⟨rfl, w⟩ := own_s o1
    rw [own_i o2]
    refine .inr (.inr ⟨z, i, c, rfl, rfl, w.2, ed, ok_d sf (.str _ ?_) h⟩)
    obtain ⟨j, _, hj, _⟩ := atI_get ed
    rw [Array.getElem?_toList] at hj
    exact strW1 w hj
  · cases e
section
variable {X : L2.Cx} {W : WX} {a b : Expr} {va vb : Ev} {pos : Pos}
theorem se_ix (ha : PE X a (tE (gl X) W va)) (hb : PE X b (tE (gl X) W vb)) (hs : PlainIx b) : PE X (.Subscript a b pos) (tE (gl X) W (eBin oIx va vb)) := PE.imp (pe_ix ix_seq ha hb hs) (eBin_run sp_ix)
end

/-! ### a[lo:hi] -/
def cutD (xs : List D) (lo hi : Option Int) : List D := (xs.drop (HT.sIx xs.length 0 lo)).take (HT.sIx xs.length xs.length hi - HT.sIx xs.length 0 lo)
def oSl (lo hi : Option Int) : M → Option M
  | .fz (.list ds) => some (.ol (cutD ds lo hi))
  | .ol ds => some (.ol (cutD ds lo hi))
  | .fz (.tuple ds) => some (.fz (.tuple (cutD ds lo hi)))
  | .fz (.str z) => some (.fz (.str (cutS z lo hi)))
  | _ => none
theorem RepAll.cut {K : PySem.W.Frag} {F : Hp} {xs : List V} {ds : List D} (r : RepAll K F xs ds) (lo hi : Option Int) : RepAll K F (cutV xs lo hi) (cutD ds lo hi) := by
  unfold cutV cutD
  rw [r.length]
  exact (r.drop _).take _
theorem cutD_whole {ds : List D} {lo hi : Option Int} (h : HT.sIx ds.length 0 lo = 0 ∧ HT.sIx ds.length ds.length hi = ds.length) : cutD ds lo hi = ds := by
  unfold cutD
  rw [h.1, h.2, List.drop_zero, Nat.sub_zero, List.take_length]
theorem strOk_cut {z : Str} (h : PyData.strOk z = true) (lo hi : Option Int) : PyData.strOk (cutS z lo hi) = true := by
  have h1 : z.cps.all (· < 0x110000) = true := h
  rw [← Array.all_toList, List.all_eq_true] at h1
  show (((z.cps.toList.drop _).take _).toArray).all _ = true
  rw [← Array.all_toList, List.all_eq_true]
  intro c hc
  exact h1 c (List.mem_of_mem_drop (List.mem_of_mem_take hc))
def rSlM (K : PySem.W.Frag) : V → Option Int → Option Int → Hp → VK → Prop := fun x lo hi H Q => rSlL K x lo hi H Q ∨ (rSlA K x lo hi H Q ∨ rSlS x lo hi H Q)
theorem sp_sl {G : Glob} {F H : Hp} {x : V} {lo hi : Option Int} {m k : M} {p : List Addr} {Q : VK} (sf : Same F H) (o : Own G F H x m p) (e : oSl lo hi m = some k) (h : ∀ F' H' v fp, Grow F H F' H' fp → Own G F' H' v k fp → Q v H') : rSlM G.K x lo hi H Q := by
  unfold oSl at e
  split at e
  · rename_i ds
    cases e
    obtain ⟨a, xs, rfl, h1, h2, h3⟩ := own_l sf o rfl
    exact .inl ⟨a, xs, rfl, h1, ok_newL sf (Nat.le_trans (cutV_length xs lo hi) h2) (h3.cut lo hi) h⟩
  · rename_i ds
    cases e
    obtain ⟨a, xs, rfl, h1, h2, h3⟩ := own_l sf o rfl
    exact .inl ⟨a, xs, rfl, h1, ok_newL sf (Nat.le_trans (cutV_length xs lo hi) h2) (h3.cut lo hi) h⟩
  · rename_i ds
    cases e
    obtain ⟨a, xs, rfl, h1, h2, h3⟩ := own_t o
    have hl := h3.length
    refine .inr (.inl ⟨a, xs, rfl, Same.sqT sf h1, fun hw => ?_, fun hw => ok_newT sf (Nat.le_trans (cutV_length xs lo hi) h2) (h3.cut lo hi) h⟩)
    rw [hl] at hw
    rw [cutD_whole hw] at h
    exact ok_d sf (.tup h1 h2 h3) h
  · rename_i z
    cases e
    obtain ⟨rfl, w⟩ := own_s o
    exact .inr (.inr ⟨z, rfl, w.2, ok_d sf (.str _ ⟨strOk_cut w.1 lo hi, Nat.le_trans (cutS_length z lo hi) w.2⟩) h⟩)
  · cases e
/-- a part of a slice: left out, or an int -/
abbrev Ov := Env → Rs (Option Int)
def pNone : Ov := fun ε => .ok none ε
def pSome (ev : Ev) : Ov := fun ε => (ev ε).bind fun t ε1 => match look ε1 t with
  | some (.fz (.int i)) => .ok (some i) ε1
  | _ => .no
def tP (G : Glob) (W : WX) (ov : Ov) : TO := fun σ H Q => ∃ (P F0 F : Hp) (fp : Nat → List Addr) (ε ts : Env) (vs : L2.St),
  Rel G P F0 F (ε ++ ts) (σ ++ vs) H fp ∧ ε.length = σ.length ∧ Got G W P F0 ts vs σ (ov ε) fun o ε' =>
    ∀ F' H' fp', ε'.length = σ.length → Rel G P F0 F' (ε' ++ ts) (σ ++ vs) H' fp' → Q o H'
theorem PO.imp {X : L2.Cx} {e : Option Expr} {t t' : TO} (h : PO X e t) (k : ∀ σ H Q, t' σ H Q → t σ H Q) : PO X e t' := ⟨fun pins s σ H Q I hw => h.run pins s σ H Q I (k σ H Q hw)⟩
def eSl (lo hi : Ov) (a : Ev) : Ev := fun ε => (a ε).bind fun t ε1 => (lo ε1).bind fun l ε2 => (hi ε2).bind fun u ε3 => retO ε3 ((look ε3 t).bind (oSl l u))
section
variable {X : L2.Cx} {W : WX} {a e : Expr} {va : Ev} {lo hi : Option Expr} {vl vh : Ov} {pos p2 : Pos}
theorem so_none : PO X none (tP (gl X) W pNone) := PO.imp po_none fun σ H Q h => by
  obtain ⟨P, F0, F, fp, ε, ts, vs, R, hl, h⟩ := h
  exact h F H fp hl R
theorem so_some (h : PE X e (tE (gl X) W va)) : PO X (some e) (tP (gl X) W (pSome va)) := PO.imp (po_some h) fun σ H Q h => by
  obtain ⟨P, F0, F, fp, ε, ts, vs, R, hl, h⟩ := h
  refine ⟨P, F0, F, fp, ε, ts, vs, R, hl, Got.mono (Got.bind h) fun t ε1 h F1 H1 fp1 v1 l1 R1 ok1 => ?_⟩
  split at h
  · rename_i i e
    obtain ⟨p, o⟩ := get_last l1 R1 ok1 e
    exact ⟨i, own_i o, h F1 H1 fp1 l1 (R1.drop1 l1)⟩
  · exact h.elim
theorem se_sl (ha : PE X a (tE (gl X) W va)) (hl : PO X lo (tP (gl X) W vl)) (hh : PO X hi (tP (gl X) W vh)) : PE X (.Subscript a (.Slice lo hi none p2) pos) (tE (gl X) W (eSl vl vh va)) :=
  PE.imp (pe_slice (SlR.or sl_list (SlR.or sl_tupA sl_str)) ha hl hh) fun σ H Q h => by
    obtain ⟨P, F0, F, fp, ε, ts, vs, R, hl, h⟩ := h
    refine ⟨P, F0, F, fp, ε, ts, vs, R, hl, Got.mono (Got.bind h) fun t ε1 h F1 H1 fp1 v1 l1 R1 ok1 => ?_⟩
    refine ⟨P, F0, F1, fp1, ε1, _, _, R1, l1, Got.drop1 (Got.mono (Got.bind h) fun l ε2 h F2 H2 fp2 l2 R2 => ?_)⟩
    refine ⟨P, F0, F2, fp2, ε2, _, _, R2, l2, Got.drop1 (Got.mono (Got.bind h) fun u ε3 h F3 H3 fp3 l3 R3 => ?_)⟩
    obtain ⟨k, ek, h⟩ := Got.retO h
    cases em : look ε3 t with
    | none => rw [em] at ek; cases ek
    | some m =>
      rw [em] at ek
      obtain ⟨p, o⟩ := get_last l3 R3 ok1 em
      refine sp_sl (G := gl X) R3.fH o ek fun F' H' v fp' g o => ?_
      obtain ⟨fp4, R4⟩ := (R3.drop1 l3).push' g o
      exact h F' H' fp4 v l3 R4 fun j hj => by cases hj
end

/-! ### methods of built-in types -/
structure SpecM (G : Glob) (TT : String) (r : V → List V → Hp → VK → Prop) (ok : M → Bool) (f : M → List M → Option M) : Prop where
  ty : ∀ (F H : Hp) (x : V) (m : M) (p : List Addr), Same F H → Own G F H x m p → ok m = true → tyV G.K TT x H
  run : ∀ (F H : Hp) (x : V) (m : M) (p : List Addr) (xs : List V) (ms : List M) (k : M) (Q : VK), Same F H → Own G F H x m p → Paired (fun x m => ∃ p, Own G F H x m p) xs ms → f m ms = some k →
    (∀ F' H' v fp, Grow F H F' H' fp → Own G F' H' v k fp → Q v H') → r x xs H Q
def okT (ok : M → Bool) (ε : Env) (t : T) : Bool := match look ε t with
  | some m => ok m
  | none => false
def eMet (ok : M → Bool) (f : M → List M → Option M) (o : Ev) (es : List Ev) : Ev := fun ε => (o ε).bind fun t ε1 => if okT ok ε1 t = true then (aList es ε1).bind fun l ε2 => retO ε2 ((look ε2 t).bind fun m => (looks ε2 l).bind fun ms => f m ms) else .no
theorem okT_some {ok : M → Bool} {ε : Env} {t : T} (h : okT ok ε t = true) : ∃ m, look ε t = some m ∧ ok m = true := by
  unfold okT at h
  cases e : look ε t with
  | none => rw [e] at h; cases h
  | some m => rw [e] at h; exact ⟨m, rfl, h⟩
theorem bind2_some {ε : Env} {t : T} {l : List T} {f : M → List M → Option M} {k : M} (h : ((look ε t).bind fun m => (looks ε l).bind fun ms => f m ms) = some k) : ∃ m ms, look ε t = some m ∧ looks ε l = some ms ∧ f m ms = some k := by
  cases e : look ε t with
  | none => rw [e] at h; cases h
  | some m =>
    cases e2 : looks ε l with
    | none => rw [e, e2] at h; cases h
    | some ms => rw [e, e2] at h; exact ⟨m, ms, rfl, rfl, h⟩
section
variable {X : L2.Cx} {W : WX} {o e : Expr} {es : List Expr} {vo : Ev} {ves : List Ev} {name : Str} {apos cpos : Pos} {TT id : String} {r : V → List V → Hp → VK → Prop} {ok : M → Bool} {f : M → List M → Option M}
theorem eMet_run {G : Glob} (sp : SpecM G TT r ok f) (σ : L2.St) (H : Hp) (Q : VK) (h : tE G W (eMet ok f vo ves) σ H Q) : tBM G.K TT r (tE G W vo) (tA G W (aList ves)) σ H Q := by
  obtain ⟨P, F0, F, fp, ε, ts, vs, R, hl, h⟩ := h
  refine ⟨P, F0, F, fp, ε, ts, vs, R, hl, Got.mono (Got.bind h) fun t ε1 h F1 H1 fp1 v1 l1 R1 ok1 => ?_⟩
  by_cases hk : okT ok ε1 t = true
  · rw [if_pos hk] at h
    obtain ⟨m, em, hm⟩ := okT_some hk
    obtain ⟨p, o1⟩ := get_last l1 R1 ok1 em
    refine ⟨sp.ty F1 H1 v1 m p R1.fH o1 hm, P, F0, F1, fp1, ε1, _, _, R1, l1, Got.drop1 (Got.mono (Got.bind h) fun l ε2 h F2 H2 fp2 us l2 R2 ok2 => ?_)⟩
    obtain ⟨k, ek, h⟩ := Got.retO h
    obtain ⟨m2, ms, e1, e2, ek⟩ := bind2_some ek
    have hz : (ts ++ [t.slot]).length = (vs ++ [some v1]).length := by
      have := R1.len
      simp only [List.length_append] at this ⊢
      omega
    have R3 := Rel.dropN l2 (by simp [ok2.length]) R2
    obtain ⟨p2, o2⟩ := get_last l2 R3 ok1 e1
    refine sp.run F2 H2 v1 m2 p2 us ms k Q R2.fH o2 (looks_at l2 l us ms _ _ R2 hz ok2 e2) ek fun F' H' v fp' g o => ?_
    obtain ⟨fp4, R4⟩ := (R3.drop1 l2).push' g o
    exact h F' H' fp4 v l2 R4 fun j hj => by cases hj
  · rw [if_neg hk] at h
    exact h.elim
theorem se_bm (pa : PlainAttrs TT) (slot : Slot TT name id) (hty : typeOf (.builtin id) = pure (.type "method_descriptor")) (hm : MtR X id r) (sp : SpecM (gl X) TT r ok f) (ho : PE X o (tE (gl X) W vo)) (ha : PA X (e :: es) (tA (gl X) W (aList ves)))
    (hbase : attributeBase o name X.env (eval o X.env) = eval o X.env := by rfl)
    (hfew : ((backTo cpos (starEach (e :: es) X.env)).all (fun x => !x.1) && (backToKw cpos (keywordEach [] X.env)).all (fun x => x.1.isSome)
      && decide ((e :: es).length + ([] : List Keyword).length + (if ([] : List Keyword).isEmpty then 0 else 1) < 30)) = true := by rfl)
    (hline : (apos.endLine == cpos.line) = true := by rfl) (hs : starEach (e :: es) X.env = (false, eval e X.env) :: starEach es X.env := by rfl) (hplain : (backTo cpos (starEach es X.env)).any (·.1) = false := by rfl) :
    PE X (.Call (.Attribute o name apos) (e :: es) [] cpos) (tE (gl X) W (eMet ok f vo ves)) := PE.imp (pe_bm pa slot hty hm ho ha hbase hfew hline hs hplain) (eMet_run sp)
end
def isStrM : M → Bool
  | .fz (.str _) => true
  | _ => false
def isLstM : M → Bool
  | .fz (.list _) => true
  | .ol _ => true
  | _ => false
theorem ty_str {G : Glob} {F H : Hp} {x : V} {m : M} {p : List Addr} (sf : Same F H) (o : Own G F H x m p) (h : isStrM m = true) : tyV G.K "str" x H := by
  unfold isStrM at h
  split at h
  · obtain ⟨rfl, _⟩ := own_s o
    exact rfl
  · cases h
theorem ty_list {G : Glob} {F H : Hp} {x : V} {m : M} {p : List Addr} (sf : Same F H) (o : Own G F H x m p) (h : isLstM m = true) : tyV G.K "list" x H := by
  unfold isLstM at h
  split at h
  · obtain ⟨a, xs, rfl, h1, h2, h3⟩ := own_l sf o rfl
    exact .inl ⟨rfl, xs, h1⟩
  · obtain ⟨a, xs, rfl, h1, h2, h3⟩ := own_l sf o rfl
    exact .inl ⟨rfl, xs, h1⟩
  · cases h

/-! ### sep.join(xs) -/
def strsD : List D → Option (List Str)
  | [] => some []
  | .str b :: l => (strsD l).map (b :: ·)
  | _ => none
theorem strsD_rep {K : PySem.W.Frag} {F : Hp} : ∀ {ds : List D} {bs : List Str} {xs : List V}, strsD ds = some bs → RepAll K F xs ds → xs = bs.map V.str ∧ ∀ b ∈ bs, StrW b
  | [], bs, xs, e, r => by cases e; cases r; exact ⟨rfl, fun _ h => by cases h⟩
  | .str b :: l, bs, xs, e, r => by
    unfold strsD at e
    cases q : strsD l with
    | none => rw [q] at e; cases e
    | some cs =>
      rw [q] at e
      cases e
      cases r with
      | cons r1 r2 =>
        cases r1 with
        | str x hw =>
          obtain ⟨e1, e2⟩ := strsD_rep q r2
          refine ⟨by rw [List.map_cons, e1], fun b hb => ?_⟩
          rcases List.mem_cons.mp hb with h | h
          · rw [h]; exact hw
          · exact e2 b h
  | .none :: _, _, _, e, _ => by cases e
  | .bool _ :: _, _, _, e, _ => by cases e
  | .int _ :: _, _, _, e, _ => by cases e
  | .list _ :: _, _, _, e, _ => by cases e
  | .tuple _ :: _, _, _, e, _ => by cases e
  | .dict _ :: _, _, _, e, _ => by cases e
def joinOf (a : Str) (ds : List D) : Option M := (strsD ds).bind fun ys => guardO ((ys.map (·.length)).sum + ys.length * a.length ≤ 1000000) (.fz (.str (Str.join a ys)))
def oJoin : M → List M → Option M
  | .fz (.str a), [.fz (.list ds)] => joinOf a ds
  | .fz (.str a), [.ol ds] => joinOf a ds
  | .fz (.str a), [.fz (.tuple ds)] => joinOf a ds
  | _, _ => none
theorem strOk_join {a : Str} (ha : PyData.strOk a = true) : ∀ {ys : List Str}, (∀ y ∈ ys, StrW y) → PyData.strOk (Str.join a ys) = true
  | [], _ => (show PyData.strOk Str.empty = true from (show (#[] : Array Nat).all _ = true by simp))
  | [x], h => (h x List.mem_cons_self).1
  | x :: y :: r, h => by
    show PyData.strOk (x ++ a ++ Str.join a (y :: r)) = true
    exact strOk_append (strOk_append (h x List.mem_cons_self).1 ha) (strOk_join ha fun z hz => h z (List.mem_cons_of_mem _ hz))
theorem joinOf_some {a : Str} {ds : List D} {k : M} (h : joinOf a ds = some k) : ∃ ys, strsD ds = some ys ∧ (ys.map (·.length)).sum + ys.length * a.length ≤ 1000000 ∧ k = .fz (.str (Str.join a ys)) := by
  unfold joinOf at h
  cases e : strsD ds with
  | none => rw [e] at h; cases h
  | some ys =>
    rw [e] at h
    obtain ⟨h1, h2⟩ := guardO_some h
    exact ⟨ys, rfl, h1, h2⟩
def rJoinM (K : PySem.W.Frag) : V → List V → Hp → VK → Prop := fun x xs H Q => ∃ a p, ∃ ys : List Str, x = .str a ∧ xs = [.ref p] ∧ (SqL K H p (ys.map V.str) ∨ SqT K H p (ys.map V.str)) ∧ (ys.map (·.length)).sum + ys.length * a.length ≤ 16777216 ∧ Q (.str (Txt.join a ys)) H
theorem join_w {a : Str} {ys : List Str} (ha : StrW a) (hy : ∀ y ∈ ys, StrW y) (h : (ys.map (·.length)).sum + ys.length * a.length ≤ 1000000) : StrW (Str.join a ys) :=
  ⟨strOk_join ha.1 hy, Nat.le_trans (StrLaws.join_length_le a ys) (Nat.le_trans h (by decide))⟩
theorem sp_join {G : Glob} : SpecM G "str" (rJoinM G.K) isStrM oJoin where
  ty := fun _ _ _ _ _ sf o h => ty_str sf o h
  run := fun F H x m p xs ms k Q sf o po e h => by
    unfold oJoin at e
    split at e
    · rename_i a ds
      obtain ⟨ys, e1, e2, rfl⟩ := joinOf_some e
      obtain ⟨rfl, w⟩ := own_s o
      obtain ⟨x, p, rfl, o⟩ := one_of po
      obtain ⟨l, xs, rfl, h1, h2, h3⟩ := own_l sf o rfl
      obtain ⟨rfl, hw⟩ := strsD_rep e1 h3
      exact ⟨a, l, ys, rfl, rfl, .inl h1, by omega, by rw [TL.join_eq]; exact ok_d sf (.str _ (join_w w hw e2)) h⟩
    · rename_i a ds
      obtain ⟨ys, e1, e2, rfl⟩ := joinOf_some e
      obtain ⟨rfl, w⟩ := own_s o
      obtain ⟨x, p, rfl, o⟩ := one_of po
      obtain ⟨l, xs, rfl, h1, h2, h3⟩ := own_l sf o rfl
      obtain ⟨rfl, hw⟩ := strsD_rep e1 h3
      exact ⟨a, l, ys, rfl, rfl, .inl h1, by omega, by rw [TL.join_eq]; exact ok_d sf (.str _ (join_w w hw e2)) h⟩
    · rename_i a ds
      obtain ⟨ys, e1, e2, rfl⟩ := joinOf_some e
      obtain ⟨rfl, w⟩ := own_s o
      obtain ⟨x, p, rfl, o⟩ := one_of po
      obtain ⟨l, xs, rfl, h1, h2, h3⟩ := own_t o
      obtain ⟨rfl, hw⟩ := strsD_rep e1 h3
      exact ⟨a, l, ys, rfl, rfl, .inr (Same.sqT sf h1), by omega, by rw [TL.join_eq]; exact ok_d sf (.str _ (join_w w hw e2)) h⟩
    · cases e
end Sw

/-! SwL: things changed in place: methods on a name's own thing, x[i] = v; a[::-1]. -/
namespace Sw
open PySem PySem.Spec PyProof.Rows L2

/-! ### methods that change a name's own thing -/
structure SpecMut (G : Glob) (TT : String) (r : V → List V → Hp → VK → Prop) (ok : M → Bool) (f : M → List M → Option (M × D)) : Prop where
  ty : ∀ (F H : Hp) (x : V) (m : M) (p : List Addr), Same F H → Own G F H x m p → ok m = true → tyV G.K TT x H
  run : ∀ (F H : Hp) (x : V) (m : M) (p : List Addr) (xs : List V) (ms : List M) (k : M) (d : D) (Q : VK), Same F H → Own G F H x m p → Paired (fun x m => ∃ p, Own G F H x m p) xs ms → f m ms = some (k, d) →
    (∀ H' v, (∀ b, b ∉ p → H' b = H b) → Own G F H' x k p → Rep G.K F v d → Q v H') → r x xs H Q
def mutR (f : M → List M → Option (M × D)) (i : Nat) (ε : Env) (l : List T) : Rs T :=
  match (look ε (.var i)).bind fun m => (looks ε l).bind fun ms => f m ms with
  | some kd => .ok (.val (.fz kd.2)) (ε.set i (some kd.1))
  | none => .no
def eMut (ok : M → Bool) (f : M → List M → Option (M × D)) (i : Nat) (es : List Ev) : Ev := fun ε => if okT ok ε (.var i) = true then (aList es ε).bind fun l ε2 => mutR f i ε2 l else .no
theorem bind2M_some {ε : Env} {t : T} {l : List T} {f : M → List M → Option (M × D)} {k : M × D} (h : ((look ε t).bind fun m => (looks ε l).bind fun ms => f m ms) = some k) : ∃ m ms, look ε t = some m ∧ looks ε l = some ms ∧ f m ms = some k := by
  cases e : look ε t with
  | none => rw [e] at h; cases h
  | some m =>
    cases e2 : looks ε l with
    | none => rw [e, e2] at h; cases h
    | some ms => rw [e, e2] at h; exact ⟨m, ms, rfl, rfl, h⟩
theorem look_var {ε : Env} {i : Nat} {m : M} (h : look ε (.var i) = some m) : ε[i]? = some (some m) := join_some h
/-- what a change of a slot's own thing leaves -/
theorem mut_rel {G : Glob} {P F0 F H H' : Hp} {ε ts : Env} {σ vs : L2.St} {fp : Nat → List Addr} {i : Nat} {m k : M} {x : V} (hl : ε.length = σ.length) (R : Rel G P F0 F (ε ++ ts) (σ ++ vs) H fp) (e : ε[i]? = some (some m)) (ev : σ[i]? = some (some x))
    (hk : ∀ b, b ∉ fp i → H' b = H b) (o : Own G F H' x k (fp i)) : Rel G P F0 F (ε.set i (some k) ++ ts) (σ ++ vs) H' fp := by
  have hi : i < ε.length := (List.getElem?_eq_some_iff.mp e).1
  have R' := Rel.mutate (n := i) (m' := k) R (by rw [List.getElem?_append_left hi]; exact e) (by rw [List.getElem?_append_left (by omega)]; exact ev) hk o
  rw [List.set_append_left _ _ hi] at R'
  exact R'
theorem own_at {G : Glob} {P F0 F H : Hp} {ε ts : Env} {σ vs : L2.St} {fp : Nat → List Addr} {i : Nat} {m : M} {x : V} (hl : ε.length = σ.length) (R : Rel G P F0 F (ε ++ ts) (σ ++ vs) H fp) (e : ε[i]? = some (some m)) (ev : σ[i]? = some (some x)) : Own G F H x m (fp i) := by
  have hi : i < ε.length := (List.getElem?_eq_some_iff.mp e).1
  obtain ⟨v, h1, h2⟩ := R.own i m (by rw [List.getElem?_append_left hi]; exact e)
  rw [List.getElem?_append_left (by omega), ev] at h1
  cases h1
  exact h2
theorem eVar_got {G : Glob} {W : WX} {P F0 : Hp} {ts : Env} {vs σ : L2.St} {i : Nat} {ε : Env} {m : M} {K : T → Env → Prop} (e : ε[i]? = some (some m)) (h : K (.var i) ε) : Got G W P F0 ts vs σ (eVar i ε) K := by
  unfold eVar
  rw [e]
  exact h
section
variable {X : L2.Cx} {W : WX} {o e : Expr} {es : List Expr} {ves : List Ev} {name : Str} {apos cpos npos : Pos} {TT id : String} {r : V → List V → Hp → VK → Prop} {ok : M → Bool} {f : M → List M → Option (M × D)} {i : Nat} {x : Str}
theorem eMut_run {G : Glob} (sp : SpecMut G TT r ok f) (σ : L2.St) (H : Hp) (Q : VK) (h : tE G W (eMut ok f i ves) σ H Q) : tBM G.K TT r (tE G W (eVar i)) (tA G W (aList ves)) σ H Q := by
  obtain ⟨P, F0, F, fp, ε, ts, vs, R, hl, h⟩ := h
  unfold eMut at h
  by_cases hk : okT ok ε (.var i) = true
  · rw [if_pos hk] at h
    obtain ⟨m, em, hm⟩ := okT_some hk
    refine ⟨P, F0, F, fp, ε, ts, vs, R, hl, eVar_got (look_var em) fun F1 H1 fp1 v1 l1 R1 ok1 => ?_⟩
    have o1 := own_at l1 R1 (look_var em) (ok1 i rfl)
    refine ⟨sp.ty F1 H1 v1 m _ R1.fH o1 hm, P, F0, F1, fp1, ε, _, _, R1, l1, Got.drop1 (Got.mono (Got.bind h) fun l ε2 h F2 H2 fp2 us l2 R2 ok2 => ?_)⟩
    unfold mutR at h
    cases eb : ((look ε2 (.var i)).bind fun m => (looks ε2 l).bind fun ms => f m ms) with
    | none => rw [eb] at h; exact h.elim
    | some kd =>
      rw [eb] at h
      obtain ⟨k, d⟩ := kd
      obtain ⟨m2, ms, e1, e2, ek⟩ := bind2M_some eb
      have hz : (ts ++ [(T.var i).slot]).length = (vs ++ [some v1]).length := by
        have := R1.len
        simp only [List.length_append] at this ⊢
        omega
      have R3 := Rel.drop1 l2 (Rel.dropN l2 (by simp [ok2.length]) R2)
      have o2 := own_at l2 R2 (look_var e1) (ok1 i rfl)
      refine sp.run F2 H2 v1 m2 _ us ms k d Q R2.fH o2 (looks_at l2 l us ms _ _ R2 hz ok2 e2) ek fun H' v g o rd => ?_
      have R4 := mut_rel l2 R3 (look_var e1) (ok1 i rfl) g o
      obtain ⟨fp4, R5⟩ := R4.pushS rd
      exact h F2 H' fp4 v (by rw [List.length_set]; exact l2) R5 fun j hj => by cases hj
  · rw [if_neg hk] at h
    exact h.elim
theorem eMut0_run {G : Glob} (sp : SpecMut G TT r ok f) (σ : L2.St) (H : Hp) (Q : VK) (h : tE G W (eMut ok f i []) σ H Q) : tBM0 G.K TT r (tE G W (eVar i)) σ H Q := by
  obtain ⟨P, F0, F, fp, ε, ts, vs, R, hl, h⟩ := h
  unfold eMut at h
  by_cases hk : okT ok ε (.var i) = true
  · rw [if_pos hk] at h
    obtain ⟨m, em, hm⟩ := okT_some hk
    refine ⟨P, F0, F, fp, ε, ts, vs, R, hl, eVar_got (look_var em) fun F1 H1 fp1 v1 l1 R1 ok1 => ?_⟩
    have o1 := own_at l1 R1 (look_var em) (ok1 i rfl)
    refine ⟨sp.ty F1 H1 v1 m _ R1.fH o1 hm, ?_⟩
    have h := show Got G W P F0 ts vs σ (mutR f i ε []) _ from h
    unfold mutR at h
    cases eb : ((look ε (.var i)).bind fun m => (looks ε []).bind fun ms => f m ms) with
    | none => rw [eb] at h; exact h.elim
    | some kd =>
      rw [eb] at h
      obtain ⟨k, d⟩ := kd
      obtain ⟨m2, ms, e1, e2, ek⟩ := bind2M_some eb
      cases e2
      have R3 := Rel.drop1 l1 R1
      have o2 := own_at l1 R1 (look_var e1) (ok1 i rfl)
      refine sp.run F1 H1 v1 m2 _ [] [] k d Q R1.fH o2 .nil ek fun H' v g o rd => ?_
      have R4 := mut_rel l1 R3 (look_var e1) (ok1 i rfl) g o
      obtain ⟨fp4, R5⟩ := R4.pushS rd
      exact h F1 H' fp4 v (by rw [List.length_set]; exact l1) R5 fun j hj => by cases hj
  · rw [if_neg hk] at h
    exact h.elim
theorem se_mut (pa : PlainAttrs TT) (slot : Slot TT name id) (hty : typeOf (.builtin id) = pure (.type "method_descriptor")) (hm : MtR X id r) (sp : SpecMut (gl X) TT r ok f) (ho : PE X o (tE (gl X) W (eVar i))) (ha : PA X (e :: es) (tA (gl X) W (aList ves)))
    (hbase : attributeBase o name X.env (eval o X.env) = eval o X.env := by rfl)
    (hfew : ((backTo cpos (starEach (e :: es) X.env)).all (fun x => !x.1) && (backToKw cpos (keywordEach [] X.env)).all (fun x => x.1.isSome)
      && decide ((e :: es).length + ([] : List Keyword).length + (if ([] : List Keyword).isEmpty then 0 else 1) < 30)) = true := by rfl)
    (hline : (apos.endLine == cpos.line) = true := by rfl) (hs : starEach (e :: es) X.env = (false, eval e X.env) :: starEach es X.env := by rfl) (hplain : (backTo cpos (starEach es X.env)).any (·.1) = false := by rfl) :
    PE X (.Call (.Attribute o name apos) (e :: es) [] cpos) (tE (gl X) W (eMut ok f i ves)) := PE.imp (pe_bm pa slot hty hm ho ha hbase hfew hline hs hplain) (eMut_run sp)
theorem se_mut0 (pa : PlainAttrs TT) (slot : Slot TT name id) (hty : typeOf (.builtin id) = pure (.type "method_descriptor")) (hm : MtR X id r) (sp : SpecMut (gl X) TT r ok f) (ho : PE X o (tE (gl X) W (eVar i)))
    (hbase : attributeBase o name X.env (eval o X.env) = eval o X.env := by rfl) (hline : (apos.endLine == cpos.line) = true := by rfl) : PE X (.Call (.Attribute o name apos) [] [] cpos) (tE (gl X) W (eMut ok f i [])) :=
  PE.imp (pe_bm0 pa slot hty hm ho hbase hline) (eMut0_run sp)
end
def isOl : M → Bool
  | .ol _ => true
  | _ => false
theorem ty_ol {G : Glob} {F H : Hp} {x : V} {m : M} {p : List Addr} (o : Own G F H x m p) (h : isOl m = true) : tyV G.K "list" x H := by
  cases o with
  | ol h1 h2 h3 => exact .inl ⟨rfl, _, .inl (.inl h1)⟩
  | fz r => cases h
  | od h' => cases h
  | ob h1 h2 h3 h4 h5 h6 => cases h
def fzD : M → Option D
  | .fz d => some d
  | _ => none
def gd {α : Type} (p : Prop) [Decidable p] (m : α) : Option α := if p then some m else none
theorem gd_some {α : Type} {p : Prop} [Decidable p] {m k : α} (h : gd p m = some k) : p ∧ k = m := by
  unfold gd at h
  split at h
  · cases h; exact ⟨‹_›, rfl⟩
  · cases h
def fAppend : M → List M → Option (M × D)
  | .ol ds, [.fz d] => gd (ds.length < 16777216) (.ol (ds ++ [d]), .none)
  | _, _ => none
theorem upd_out {H : Hp} {a : Addr} {o : HO} : ∀ b, b ∉ [a] → upd H a o b = H b := fun b hb => upd_ne fun e => hb (by rw [e]; exact List.mem_singleton_self _)
theorem lineM {n : Nat} (h : n < 16777216) : n < sizeLine := Nat.lt_of_lt_of_le h (by decide)
theorem rep_of {G : Glob} {F H : Hp} {v : V} {d : D} {p : List Addr} (o : Own G F H v (.fz d) p) : Rep G.K F v d := o.rep.1
theorem sp_append {G : Glob} : SpecMut G "list" rAppend isOl fAppend where
  ty := fun _ _ _ _ _ _ o h => ty_ol o h
  run := fun F H x m p xs ms k d Q sf o po e h => by
    unfold fAppend at e
    split at e
    · rename_i ds d'
      obtain ⟨hz, e⟩ := gd_some e
      cases e
      obtain ⟨y, p', rfl, oy⟩ := one_of po
      cases o with
      | ol h1 h2 h3 =>
        rename_i a vs
        have hl := h3.length
        refine ⟨a, vs, y, rfl, rfl, h1, lineM (by omega), h _ _ upd_out (.ol upd_same ?_ (h3.append (.cons (rep_of oy) .nil))) .non⟩
        rw [List.length_append, List.length_singleton]
        have := lineM hz
        omega
    · cases e
def fPop : M → List M → Option (M × D)
  | .ol ds, [] => (ds[ds.length - 1]?).map fun d => (.ol ds.dropLast, d)
  | _, _ => none
theorem RepAll.dropLast {K : PySem.W.Frag} {H : Hp} {vs : List V} {ds : List D} (h : RepAll K H vs ds) : RepAll K H vs.dropLast ds.dropLast := by
  rw [List.dropLast_eq_take, List.dropLast_eq_take, h.length]
  exact h.take _
theorem sp_pop {G : Glob} : SpecMut G "list" rPop isOl fPop where
  ty := fun _ _ _ _ _ _ o h => ty_ol o h
  run := fun F H x m p xs ms k d Q sf o po e h => by
    unfold fPop at e
    split at e
    · rename_i ds
      obtain ⟨d', ed, e⟩ := map_some e
      cases e
      cases po
      cases o with
      | ol h1 h2 h3 =>
        rename_i a vs
        have hl := h3.length
        obtain ⟨y, hy, ry⟩ := h3.get ed
        rw [← hl] at hy
        refine ⟨a, vs, y, rfl, rfl, h1, hy, h _ _ upd_out (.ol upd_same ?_ h3.dropLast) ry⟩
        rw [List.length_dropLast]
        omega
    · cases e
def fPopAt : M → List M → Option (M × D)
  | .ol ds, [.fz (.int i)] => (seqIndex? i ds.length).bind fun k => (ds[k]?).map fun d => (.ol (ds.eraseIdx k), d)
  | _, _ => none
theorem RepAll.eraseIdx {K : PySem.W.Frag} {H : Hp} : ∀ {vs : List V} {ds : List D} (k : Nat), RepAll K H vs ds → RepAll K H (vs.eraseIdx k) (ds.eraseIdx k)
  | _, _, _, .nil => .nil
  | _, _, 0, .cons _ t => t
  | _, _, k + 1, .cons h t => .cons h (RepAll.eraseIdx k t)
theorem seqIx_lim {i : Int} {n k : Nat} (h : seqIndex? i n = some k) (hn : n ≤ sizeLine) : -(2 ^ 63) ≤ i ∧ i < 2 ^ 63 := by
  have hl := line63
  unfold seqIndex? at h
  by_cases hc : (0 ≤ (if i < 0 then i + (n : Int) else i) && (if i < 0 then i + (n : Int) else i) < (n : Int)) = true
  · rw [Bool.and_eq_true, decide_eq_true_eq, decide_eq_true_eq] at hc
    by_cases h0 : i < 0
    · rw [if_pos h0] at hc; omega
    · rw [if_neg h0] at hc; omega
  · rw [if_neg hc] at h; cases h
theorem sp_popAt {G : Glob} : SpecMut G "list" rPopAt isOl fPopAt where
  ty := fun _ _ _ _ _ _ o h => ty_ol o h
  run := fun F H x m p xs ms k d Q sf o po e h => by
    unfold fPopAt at e
    split at e
    · rename_i ds i
      cases ek : seqIndex? i ds.length with
      | none => rw [ek] at e; cases e
      | some j =>
        rw [ek] at e
        obtain ⟨d', ed, e⟩ := map_some e
        cases e
        obtain ⟨y, p', rfl, oy⟩ := one_of po
        have hy := own_i oy
        subst hy
        cases o with
        | ol h1 h2 h3 =>
          rename_i a vs
          have hl := h3.length
          obtain ⟨y, hy, ry⟩ := h3.get ed
          rw [← hl] at ek
          obtain ⟨l1, l2⟩ := seqIx_lim ek h2
          refine ⟨a, vs, i, j, y, rfl, rfl, h1, l1, l2, ek, hy, h _ _ upd_out (.ol upd_same ?_ (h3.eraseIdx j)) ry⟩
          have := List.length_eraseIdx_le vs j
          omega
    · cases e

/-! ### x[i] = v -/
def SpecSet (G : Glob) (t : TSet) (f : M → M → D → Option M) : Prop := ∀ (F H : Hp) (x y v : V) (m n k : M) (d : D) (p q : List Addr) (Q : Hp → Prop), Same F H → Own G F H x m p → Own G F H y n q → Rep G.K F v d → f m n d = some k →
  (∀ H', (∀ b, b ∉ p → H' b = H b) → Own G F H' x k p → Q H') → t x y v H Q
def setR (f : M → M → D → Option M) (i : Nat) (ε : Env) (t u : T) : SR :=
  match (look ε (.var i)).bind fun m => (look ε u).bind fun n => (look ε t).bind fun v => (fzD v).bind fun d => f m n d with
  | some k => .nx (ε.set i (some k))
  | none => .no
/-- the value, the thing's name, the place -/
def sPut (f : M → M → D → Option M) (i : Nat) (ve vi : Ev) : Sv := fun ε => SR.ofR (eFz ve ε) fun t ε1 => SR.ofR (eVar i ε1) fun _ ε2 => SR.ofR (vi ε2) fun u ε3 => setR f i ε3 t u
theorem setR_some {f : M → M → D → Option M} {i : Nat} {ε : Env} {t u : T} {k : M} (h : ((look ε (.var i)).bind fun m => (look ε u).bind fun n => (look ε t).bind fun v => (fzD v).bind fun d => f m n d) = some k) :
    ∃ m n d, look ε (.var i) = some m ∧ look ε u = some n ∧ look ε t = some (.fz d) ∧ f m n d = some k := by
  cases e1 : look ε (.var i) with
  | none => rw [e1] at h; cases h
  | some m =>
    cases e2 : look ε u with
    | none => rw [e1, e2] at h; cases h
    | some n =>
      cases e3 : look ε t with
      | none => rw [e1, e2, e3] at h; cases h
      | some v =>
        cases v with
        | fz d => rw [e1, e2, e3] at h; exact ⟨m, n, d, rfl, rfl, rfl, h⟩
        | _ => rw [e1, e2, e3] at h; cases h
section
variable {X : L2.Cx} {W : WX} {A : List Nat} {o ix e : Expr} {vi ve : Ev} {i : Nat} {t : TSet} {f : M → M → D → Option M} {pos pos2 : Pos}
theorem GotS.exc1 {α : Type} {G : Glob} {P F0 : Hp} {ts : Env} {vs σ : L2.St} {D : Ends} {r : Rs α} {g : α → Env → SR} {x : Option M} {y : Option V} (h : GotS G W A P F0 ts vs σ D (SR.ofR r g)) : Got G W P F0 (ts ++ [x]) (vs ++ [y]) σ r fun a ε => GotS G W A P F0 ts vs σ D (g a ε) := Got.drop1 (GotS.ofR h)
theorem Got.drop2 {α : Type} {G : Glob} {P F0 : Hp} {ts : Env} {vs σ : L2.St} {r : Rs α} {K : α → Env → Prop} {x x' : Option M} {y y' : Option V} (h : Got G W P F0 ts vs σ r K) : Got G W P F0 ((ts ++ [x]) ++ [x']) ((vs ++ [y]) ++ [y']) σ r K := Got.drop1 (Got.drop1 h)
theorem sPut_run {G : Glob} (sp : SpecSet G t f) (D : Ends) (σ : L2.St) (H : Hp) (h : tS G W A (sPut f i ve vi) D σ H) : tAsg (tE G W (eFz ve)) (gSub (tE G W (eVar i)) (tE G W vi) t) D σ H := by
  obtain ⟨P, F0, F, fp, ε, ts, vs, R, hl, h⟩ := h
  refine ⟨P, F0, F, fp, ε, ts, vs, R, hl, Got.mono (GotS.ofR h) fun t1 ε1 h F1 H1 fp1 v1 l1 R1 ok1 => ?_⟩
  have h' := h
  unfold SR.ofR eVar at h'
  rcases e0 : ε1[i]? with _ | _ | m0
  · rw [e0] at h'; exact h'.elim
  · rw [e0] at h'; exact h'.elim
  rw [e0] at h'
  have h := h'
  refine ⟨P, F0, F1, fp1, ε1, _, _, R1, l1, eVar_got e0 fun F2 H2 fp2 v2 l2 R2 ok2 => ?_⟩
  refine ⟨P, F0, F2, fp2, ε1, _, _, R2, l2, Got.mono (Got.drop1 (GotS.exc1 h)) fun u ε3 h F3 H3 fp3 v3 l3 R3 ok3 => ?_⟩
  unfold setR at h
  cases eb : ((look ε3 (.var i)).bind fun m => (look ε3 u).bind fun n => (look ε3 t1).bind fun v => (fzD v).bind fun d => f m n d) with
  | none => rw [eb] at h; exact h.elim
  | some k =>
    rw [eb] at h
    obtain ⟨m, n, d, e1, e2, e3, ek⟩ := setR_some eb
    have R4 := R3.drop1 l3
    have R5 := R4.drop1 l3
    obtain ⟨q, o2⟩ := get_last l3 R3 ok3 e2
    obtain ⟨q', o3⟩ := get_last l3 R5 ok1 e3
    have o1 := own_at l3 R5 (look_var e1) (ok2 i rfl)
    refine sp F3 H3 v2 v3 v1 m n k d _ q _ R3.fH o1 o2 (rep_of o3) ek fun H' g o => ?_
    have R6 := mut_rel l3 (R5.drop1 l3) (look_var e1) (ok2 i rfl) g o
    exact h F3 H' _ σ (by rw [List.length_set]; exact l3) (.refl _ _) R6
theorem sp_put (hs : PSet X t) (sp : SpecSet (gl X) t f) (he : PE X e (tE (gl X) W (eFz ve))) (ho : PE X o (tE (gl X) W (eVar i))) (hi : PE X ix (tE (gl X) W vi))
    (ha : ∀ v, assign (.Subscript o ix pos) X.env v = (do
      let ov ← holding [v] (eval o X.env)
      let iv ← holding [v, ov] (eval ix X.env)
      standAt pos
      holding [v, ov, iv] (setItem ov iv v)
      release [v, ov, iv] []) := by intro _; rfl)
    (h1 : swapsWithSole [.Subscript o ix pos] e pos2.line X.env = pure false := by rfl) (h2 : swappedStores [.Subscript o ix pos] e X.env = pure none := by rfl)
    (h3 : (assignEach [.Subscript o ix pos] X.env).map (·.2) = [assign (.Subscript o ix pos) X.env] := by rfl) :
    PS X (.Assign [.Subscript o ix pos] e pos2) (tS (gl X) W A (sPut f i ve vi)) := PS.imp (ps_asg he (pg_sub ho hi hs ha) h1 h2 h3) (sPut_run sp)
end
def fSetL : M → M → D → Option M
  | .ol ds, .fz (.int i), d => (ixN ds.length i).map fun j => .ol (ds.set j d)
  | _, _, _ => none
theorem sp_setL {G : Glob} : SpecSet G rSetL fSetL := fun F H x y v m n k d p q Q sf o1 o2 rd e h => by
  unfold fSetL at e
  split at e
  · rename_i ds i d
    obtain ⟨j, ej, e⟩ := map_some e
    cases e
    have := own_i o2
    subst this
    cases o1 with
    | ol h1 h2 h3 =>
      rw [← h3.length] at ej
      exact ⟨_, _, _, j, rfl, rfl, h1, ej, h _ upd_out (.ol upd_same (by rw [List.length_set]; exact h2) (h3.set j rd))⟩
  · cases e

/-! ### a[::-1] -/
def RvR (X : L2.Cx) (r : V → Hp → VK → Prop) : Prop := ∀ (pins : List (Addr × Obj)) (s : Shared) (σ : L2.St) (H : Hp) (x : V) (v vl vu vs : Value) (sl : Addr) (Q : VK), Inv X pins σ H s → RelV x v → s.heap.IsSliceOf sl vl vu vs → IsPart vl none → IsPart vu none →
  IsPart vs (some (-1)) → r x H Q → ∃ T id, typeLookup (.type T) "__getitem__" = pure (some (.builtin id)) ∧ s.TypeIs v T ∧ wpAny (model X.prog X.w) X.A (getItem v (.ref sl)) (EP X pins σ Q) X.xe s
theorem RvR.or {X : L2.Cx} {r r' : V → Hp → VK → Prop} (h : RvR X r) (h' : RvR X r') : RvR X fun x H Q => r x H Q ∨ r' x H Q := by
  intro pins s σ H x v vl vu vs sl Q I rx hs pl pu ps q
  rcases q with q | q
  · exact h pins s σ H x v vl vu vs sl Q I rx hs pl pu ps q
  · exact h' pins s σ H x v vl vu vs sl Q I rx hs pl pu ps q
def tRv (r : V → Hp → VK → Prop) (te : TE) : TE := fun σ H Q => te σ H fun x H1 => r x H1 Q
theorem pe_rv {X : L2.Cx} {r : V → Hp → VK → Prop} {e : Expr} {te : TE} {k : Nat} {p1 p2 p3 pos : Pos} (hr : RvR X r) (he : PE X e te) : PE X (.Subscript e (.Slice none none (some (.UnaryOp .USub (.Constant (.int 1) k p1) p2)) p3) pos) (tRv r te) := by
  refine ⟨fun pins s σ H Q I h => ?_⟩
  refine Subscript_ (thn (he.run pins s σ H _ I h) fun v s1 ⟨x, H1, I1, r1, q1⟩ => ?_)
  have hst : PO X (some (.UnaryOp .USub (.Constant (.int 1) k p1) p2)) (tPart (tUn (rU fun i => .int (-i)) (tC (.int 1)))) := po_some (pe_un un_neg pe_int)
  refine wpAny_Slice (thn (po_none.run pins s1 σ H1 (fun o H2 => o = none ∧ H2 = H1) I1 ⟨rfl, rfl⟩) fun vl s2 ⟨l, H2, I2, pl, el, e2⟩ => ?_)
  subst el e2
  refine thn (po_none.run pins s2 σ H2 (fun o H3 => o = none ∧ H3 = H2) I2 ⟨rfl, rfl⟩) fun vu s3 ⟨u, H3, I3, pu, eu, e3⟩ => ?_
  subst eu e3
  refine thn (hst.run pins s3 σ H3 (fun o H4 => o = some (-1) ∧ H4 = H3) I3 ⟨1, rfl, -1, rfl, rfl, rfl⟩) fun vs s4 ⟨o, H4, I4, ps, eo, e4⟩ => ?_
  subst eo e4
  have I5 : Inv X pins σ H4 { s4 with heap := s4.heap.push { cls := .type "slice", data := .fields #[vl, vu, vs] } } := I4.kept (t' := s4.toks) fun b ob q => Heap.get?_push_of_some _ q
  obtain ⟨T, id, hT, ht, hg⟩ := hr pins { s4 with heap := s4.heap.push { cls := .type "slice", data := .fields #[vl, vu, vs] } } σ H4 x v vl vu vs s4.heap.objs.size Q I5 r1 (Heap.IsSliceOf.new _ vl vu vs) pl pu ps q1
  show wpAny (model X.prog X.w) X.A (subscriptTail e (.Slice none none (some (.UnaryOp .USub (.Constant (.int 1) k p1) p2)) p3) v (.ref s4.heap.objs.size)) (EP X pins σ Q) X.xe { s4 with heap := s4.heap.push { cls := .type "slice", data := .fields #[vl, vu, vs] } }
  exact tail_any (ops := [v, .ref s4.heap.objs.size]) ht hT hg (by with_unfolding_all rfl)
def rRvL (K : PySem.W.Frag) : V → Hp → VK → Prop := fun x H Q => ∃ a xs, x = .ref a ∧ SqL K H a xs ∧ ∀ p, H p = none → Q (.ref p) (upd H p (.lst xs.reverse))
theorem rv_list {X : L2.Cx} : RvR X (rRvL X.K) := by
  intro pins s σ H x v vl vu vs sl Q I rx hs pl pu ps q
  obtain ⟨a, xs, rfl, hx, q⟩ := q
  cases rx
  obtain ⟨its, r, ht, hz⟩ := I.list hx
  have hlen := r.length
  refine ⟨"list", _, PySem.slot_list_getitem.lookup, ht.isList.typeIs, ?_⟩
  refine wpAny_getItem_list_slice ht.isList hs pl pu ps (by decide) ?_ (by rw [List.size_toArray]; omega)
  rw [PySem.W.krv_pick]
  refine ⟨.ref _, _, I.laid (t' := s.toks) (o := .lst xs.reverse) (fun b ob q => Heap.get?_push_of_some _ q) (Nat.le_refl _) ?_, rfl, q _ (I.hok.fresh (Nat.le_refl _))⟩
  exact ⟨by rw [List.length_reverse]; exact hz, _, 0, r.reverse, Heap.get?_push_size _ rfl⟩
section
variable {prog : Program} {w : World} {A : Around} {E : Value → Shared → Prop} {s : Shared}
theorem slicePart_m1 {v : Value} {Q : Option Int → Shared → Prop} (p : IsPart v (some (-1))) (h : Q (some (-1)) s) : wpAny (model prog w) A (Builtin.Slice.slicePartIndex v) Q E s := HT.slicePart_ p h
theorem places_rev (n : Nat) : Builtin.Slice.slicePlaces ((n : Int) - 1) (-1) (-1) = n := by
  unfold Builtin.Slice.slicePlaces
  have h1 : ¬ ((-1 : Int) > 0) := by omega
  simp only [h1, if_false]
  by_cases h : (n : Int) - 1 > -1
  · rw [if_pos h, show (- -1 : Int) = 1 by decide, Int.ediv_one]
    omega
  · rw [if_neg h]
    omega
theorem sliceApplied_rev {sl : Addr} {vl vu vs : Value} {n : Nat} {Q : Int × Int × Nat → Shared → Prop} (hs : s.heap.IsSliceOf sl vl vu vs) (pl : IsPart vl none) (pu : IsPart vu none) (ps : IsPart vs (some (-1)))
    (h : Q ((n : Int) - 1, -1, n) s) : wpAny (model prog w) A (Builtin.Slice.sliceApplied (.ref sl) (pure (n : Int))) Q E s := by
  obtain ⟨os, hos, hcs, hds⟩ := id hs
  unfold Builtin.Slice.sliceApplied Builtin.Slice.sliceFields
  refine wpAny_bind (wpAny_bind (wpAny_field hos hds (x := vl) rfl (wpAny_bind (wpAny_field hos hds (x := vu) rfl (wpAny_bind (wpAny_field hos hds (x := vs) rfl (wpAny_pure ?_)))))))
  refine wpAny_bind (HT.slicePart_ ps ?_)
  show wpAny _ _ (if ((-1 : Int) == 0) = true then _ else _) _ _ s
  rw [if_neg (by decide)]
  refine wpAny_bind (HT.slicePart_ pl (wpAny_bind (HT.slicePart_ pu (wpAny_bind (wpAny_pure ?_)))))
  have e : Builtin.Slice.sliceAdjust none none (-1) (n : Int) = ((n : Int) - 1, -1) := by
    unfold Builtin.Slice.sliceAdjust
    rfl
  show wpAny _ _ (match Builtin.Slice.sliceAdjust none none (-1) (n : Int) with | (lo, hi) => pure (lo, (-1 : Int), Builtin.Slice.slicePlaces lo hi (-1))) _ _ s
  rw [e]
  show wpAny _ _ (pure ((n : Int) - 1, (-1 : Int), Builtin.Slice.slicePlaces ((n : Int) - 1) (-1) (-1))) _ _ s
  rw [places_rev]
  exact wpAny_pure h
theorem pick_rev (xs : Array Value) : ((List.range xs.size).filterMap fun (m : Nat) => xs[(((xs.size : Nat) : Int) - 1 + (m : Int) * -1).toNat]?).toArray = xs.toList.reverse.toArray := by
  have e : ((List.range xs.size).filterMap fun (m : Nat) => xs[(((xs.size : Nat) : Int) - 1 + (m : Int) * -1).toNat]?) = ((List.range xs.size).map fun k => xs.size - 1 - k).filterMap (xs[·]?) := by
    rw [List.filterMap_map]
    have e0 : (fun (m : Nat) => xs[(((xs.size : Nat) : Int) - 1 + (m : Int) * -1).toNat]?) = ((fun x => xs[x]?) ∘ fun k => xs.size - 1 - k) := by
      funext m
      show xs[_]? = xs[xs.size - 1 - m]?
      have e2 : (((xs.size : Nat) : Int) - 1 + (m : Int) * -1).toNat = xs.size - 1 - m := by omega
      rw [e2]
    rw [e0]
  rw [e, PySem.W.krv_range, List.filterMap_reverse, PySem.W.krv_all]
theorem getItem_tuple_rev {t sl : Addr} {items : Array Value} {vl vu vs : Value} {Q : Value → Shared → Prop} (ht : IsTup s.heap t items) (hs : s.heap.IsSliceOf sl vl vu vs) (pl : IsPart vl none) (pu : IsPart vu none) (ps : IsPart vs (some (-1)))
    (h : Q (.ref s.heap.objs.size) { s with heap := s.heap.push { cls := .type "tuple", data := .seq items.toList.reverse.toArray } })
    (hsz : items.size ≤ sizeLine) : wpAny (model prog w) A (getItem (.ref t) (.ref sl)) Q E s := by
  have htake : sizeOk (.seq items.toList.reverse.toArray) := by
    show items.toList.reverse.toArray.size ≤ sizeLine
    rw [List.size_toArray, List.length_reverse, Array.length_toList]
    exact hsz
  obtain ⟨os, hos, hcs, hds⟩ := id hs
  have hTs : s.TypeIs (.ref sl) "slice" := ⟨os, hos, hcs⟩
  unfold getItem
  try with_reducible refine wpAny_holding ?_
  first | refine wpAny_bind (wpAny_pure ?_) | skip
  refine wpAny_bind (wpAny_sequenceKey ht.typeIs (by decide) ?_)
  refine wpAny_bind (wpAny_callSpecial?_slot (name := Str.ofString "__getitem__") ht.typeIs PyProof.Rows.slot_tuple_getitem
    (wpAny_call_entry PyProof.Rows.slot_tuple_getitem ht.typeIs entry_tuple_getitem ?_ (args_tuple_getitem _ _)))
  show wpAny _ _ (Builtin.Tuple.tupleItemsOf (.ref t) >>= _) _ _ s
  refine wpAny_bind (tupleItemsOf_ ht ?_)
  refine wpAny_bind (wpAny_typeOf hTs ?_)
  rw [if_pos (by decide)]
  refine wpAny_bind (sliceApplied_rev hs pl pu ps ?_)
  have hno : ¬ (((((items.size : Nat) : Int) - 1) == 0 && (-1 : Int) == 1 && items.size == items.size) = true) := by
    intro q
    rw [Bool.and_eq_true, Bool.and_eq_true] at q
    exact absurd q.1.2 (by decide)
  show wpAny _ _ (if ((((items.size : Nat) : Int) - 1) == 0 && (-1 : Int) == 1 && items.size == items.size) = true then _ else _) _ _ s
  rw [if_neg hno, pick_rev]
  first
    | exact wpAny_bind (m := Builtin.Tuple.tupleExact _) (wpAny_newObj_type (wpAny_pure ⟨_, rfl, wpAny_pure h⟩) htake)
    | exact wpAny_bind (m := Builtin.Tuple.tupleExact _) (wpAny_newObj_type (wpAny_bind (wpAny_pure (wpAny_pure ⟨_, rfl, wpAny_pure h⟩))) htake)
    | exact wpAny_bind (wpAny_bind (m := Builtin.Tuple.tupleExact _) (wpAny_newObj_type (wpAny_pure (wpAny_pure ⟨_, rfl, wpAny_pure h⟩)) htake))
    | exact wpAny_bind (wpAny_bind (m := Builtin.Tuple.tupleExact _) (wpAny_newObj_type (wpAny_pure ⟨_, rfl, wpAny_pure h⟩) htake))
end
def rRvT (K : PySem.W.Frag) : V → Hp → VK → Prop := fun x H Q => ∃ a xs, x = .ref a ∧ SqT K H a xs ∧ ∀ p, H p = none → Q (.ref p) (upd H p (.tup xs.reverse))
theorem rv_tup {X : L2.Cx} : RvR X (rRvT X.K) := by
  intro pins s σ H x v vl vu vs sl Q I rx hs pl pu ps q
  obtain ⟨a, xs, rfl, hx, q⟩ := q
  cases rx
  obtain ⟨its, r, ht, hz⟩ := I.tuple hx
  have hlen := r.length
  refine ⟨"tuple", _, PyProof.Rows.slot_tuple_getitem.lookup, ht.typeIs, ?_⟩
  refine getItem_tuple_rev ht hs pl pu ps ?_ (by rw [List.size_toArray]; omega)
  refine ⟨.ref _, _, I.laid (t' := s.toks) (o := .tup xs.reverse) (fun b ob q => Heap.get?_push_of_some _ q) (Nat.le_refl _) ?_, rfl, q _ (I.hok.fresh (Nat.le_refl _))⟩
  exact ⟨by rw [List.length_reverse]; exact hz, _, r.reverse, IsTup.new s.heap _⟩
def oRv : M → Option M
  | .fz (.list ds) => some (.ol ds.reverse)
  | .ol ds => some (.ol ds.reverse)
  | .fz (.tuple ds) => some (.fz (.tuple ds.reverse))
  | _ => none
def rRvM (K : PySem.W.Frag) : V → Hp → VK → Prop := fun x H Q => rRvL K x H Q ∨ rRvT K x H Q
theorem rv_M {X : L2.Cx} : RvR X (rRvM X.K) := RvR.or rv_list rv_tup
theorem sp_rv {G : Glob} : Spec1 G (rRvM G.K) oRv := fun F H x m k p Q sf o e h => by
  unfold oRv at e
  split at e
  · rename_i ds
    cases e
    obtain ⟨a, xs, rfl, h1, h2, h3⟩ := own_l sf o rfl
    exact .inl ⟨a, xs, rfl, h1, ok_newL sf (by rw [List.length_reverse]; exact h2) h3.reverse h⟩
  · rename_i ds
    cases e
    obtain ⟨a, xs, rfl, h1, h2, h3⟩ := own_l sf o rfl
    exact .inl ⟨a, xs, rfl, h1, ok_newL sf (by rw [List.length_reverse]; exact h2) h3.reverse h⟩
  · rename_i ds
    cases e
    obtain ⟨a, xs, rfl, h1, h2, h3⟩ := own_t o
    exact .inr ⟨a, xs, rfl, Same.sqT sf h1, ok_newT sf (by rw [List.length_reverse]; exact h2) h3.reverse h⟩
  · cases e
theorem se_rv {X : L2.Cx} {W : WX} {e : Expr} {ve : Ev} {k : Nat} {p1 p2 p3 pos : Pos} (he : PE X e (tE (gl X) W ve)) : PE X (.Subscript e (.Slice none none (some (.UnaryOp .USub (.Constant (.int 1) k p1) p2)) p3) pos) (tE (gl X) W (eUn oRv ve)) :=
  PE.imp (pe_rv rv_M he) (eUn_run sp_rv)
end Sw

/-! SwM: reversed(..). -/
namespace Sw
open PySem PySem.Spec PyProof.Rows L2 RT
theorem rev_at {α : Type} {xs : List α} {i : Nat} (h : i < xs.length) : xs.reverse[i]? = xs[xs.length - 1 - i]? := by
  rw [List.getElem?_reverse h]
theorem wk_rev {G : Glob} {a : Addr} {ds : List D} : WkOk G (Itv G.K a ds.length) ds.reverse [.list ds] [.ref a] := fun F H sf ra => by
  cases ra with
  | cons r t =>
    cases t
    cases r with
    | lst hs hz rr =>
      rename_i xs
      have hl := rr.length
      have hs' : SqL G.K H a xs := Same.sqL sf hs
      rw [List.length_reverse]
      refine ⟨fun i hi => ⟨hi, xs, xs[ds.length - 1 - i]'(by omega), hs', List.getElem?_eq_getElem _⟩, Nat.le_refl _, fun i x H' hi y => ?_⟩
      obtain ⟨e1, e2⟩ := y
      subst e1
      have e2 := e2 xs hs'
      have hi2 : ds.length - 1 - i < ds.length := by omega
      obtain ⟨v, g1, g2⟩ := rr.get (i := ds.length - 1 - i) (List.getElem?_eq_getElem hi2)
      rw [e2] at g1
      cases g1
      exact ⟨F, Grow.refl sf, _, by rw [rev_at hi]; exact List.getElem?_eq_getElem hi2, g2⟩
theorem wk_revT {G : Glob} {a : Addr} {ds : List D} : WkOk G (ItvT G.K a ds.length) ds.reverse [.tuple ds] [.ref a] := fun F H sf ra => by
  cases ra with
  | cons r t =>
    cases t
    cases r with
    | tup hs hz rr =>
      rename_i xs
      have hl := rr.length
      have hs' : SqT G.K H a xs := Same.sqT sf hs
      rw [List.length_reverse]
      refine ⟨fun i hi => ⟨hi, xs, xs[ds.length - 1 - i]'(by omega), hs', List.getElem?_eq_getElem _⟩, Nat.le_refl _, fun i x H' hi y => ?_⟩
      obtain ⟨e1, e2⟩ := y
      subst e1
      have e2 := e2 xs hs'
      have hi2 : ds.length - 1 - i < ds.length := by omega
      obtain ⟨v, g1, g2⟩ := rr.get (i := ds.length - 1 - i) (List.getElem?_eq_getElem hi2)
      rw [e2] at g1
      cases g1
      exact ⟨F, Grow.refl sf, _, by rw [rev_at hi]; exact List.getElem?_eq_getElem hi2, g2⟩
def iRv (ev : Ev) : Iv := fun ε => (eFz ev ε).bind fun t ε1 => match t with
  | .val (.fz (.list ds)) => .ok (ds.reverse, [.list ds]) ε1
  | .val (.fz (.tuple ds)) => .ok (ds.reverse, [.tuple ds]) ε1
  | _ => .no
theorem si_rev {X : L2.Cx} {W : WX} {tg e : Expr} {ve : Ev} {p pos : Pos} (he : PE X e (tE (gl X) W ve)) (hg : Gl X "reversed") (hm : X.mg "reversed" = none) (hs : starEach [e] X.env = (false, eval e X.env) :: starEach [] X.env := by rfl) :
    PI X tg (.Call (.Name "reversed" p) [e] [] pos) (tI (gl X) W (iRv ve)) := PI.imp (pi_revA hg hm he hs) fun σ H Rk h => by
  obtain ⟨P, F0, F, fp, ε, ts, vs, R, hl, h⟩ := h
  refine eFz_run σ H _ ⟨P, F0, F, fp, ε, ts, vs, R, hl, Got.mono (Got.bind h) fun t ε1 h F1 H1 fp1 v1 l1 R1 ok1 => ?_⟩
  split at h
  · rename_i ds
    obtain ⟨p, o⟩ := get_last (t := .val (.fz (.list ds))) l1 R1 ok1 rfl
    obtain ⟨r, _⟩ := o.rep
    cases r with
    | lst hs hz rr =>
      refine ⟨_, _, rfl, .inl ⟨Same.sqL R1.fH hs, ?_⟩⟩
      rw [rr.length]
      exact h F1 H1 fp1 _ [_] l1 (hold1 R1) wk_rev (by rw [List.length_reverse, ← rr.length]; exact hz) rfl
  · rename_i ds
    obtain ⟨p, o⟩ := get_last (t := .val (.fz (.tuple ds))) l1 R1 ok1 rfl
    obtain ⟨r, _⟩ := o.rep
    cases r with
    | tup hs hz rr =>
      refine ⟨_, _, rfl, .inr ⟨Same.sqT R1.fH hs, ?_⟩⟩
      rw [rr.length]
      exact h F1 H1 fp1 _ [_] l1 (hold1 R1) wk_revT (by rw [List.length_reverse, ← rr.length]; exact hz) rfl
  · exact h.elim
end Sw

/-! SwN: the words of the printed derivations. -/
namespace Sw
open PySem PySem.Spec PyProof.Rows L2

def visB (sc : Scope) (x : Str) : Bool := match sc.names.lookup x with
  | some .local => true
  | some .cell => true
  | some .free => true
  | _ => false
def locB (sc : Scope) (x : Str) : Bool := match sc.names.lookup x with
  | some .local => true
  | some .cell => true
  | _ => false
theorem visB_ok {sc : Scope} {x : Str} (h : visB sc x = true) : Vis sc x := by
  unfold visB at h
  unfold Vis
  split at h <;> first | (cases h; done) | simp_all
theorem locB_ok {sc : Scope} {x : Str} (h : locB sc x = true) : L2.Loc sc x := by
  unfold locB at h
  unfold L2.Loc
  split at h <;> first | (cases h; done) | simp_all
section
variable {X : L2.Cx} {W : WX} {N : List Str} {sc : Scope} {x : Str} {p pos : Pos} {i : Nat} {A : List Nat}
theorem zv (eN : X.N = N) (eS : X.env.scope = sc) (i : Nat) (h1 : N[i]? = some x := by rfl) (h2 : visB sc x = true := by rfl) (hd : (x == ("__debug__" : Str)) = false := by decide) (hcd : (x == ("__classdict__" : Str)) = false := by decide) : PE X (.Name x p) (tE (gl X) W (eVar i)) :=
  se_var (by rw [eN]; exact h1) (by rw [eS]; exact visB_ok h2) hd hcd
theorem zg (eS : X.env.scope = sc) (h : (sc.names.lookup x) = some .globalImplicit := by rfl) : Gl X x := by
  show X.env.scope.names.lookup x = _
  rw [eS]
  exact h
theorem zs {e : Expr} {ve : Ev} (eN : X.N = N) (eS : X.env.scope = sc) (eF : X.fn = fun _ => true) (nd : N.Nodup) (i : Nat) (he : PE X e (tE (gl X) W ve)) (hA : i ∈ A := by decide) (h1 : N[i]? = some x := by rfl) (h2 : locB sc x = true := by rfl)
    (hs : swapsWith e (some (.Name x p)) pos.line X.env = pure false := by rfl) : PS X (.Assign [.Name x p] e pos) (tS (gl X) W A (sAsg i ve)) :=
  sp_set (by rw [eN]; exact nd) (by rw [eN]; exact h1) (by rw [eS]; exact locB_ok h2) he hA hs (.inl (by rw [eF]))
/-- a target by name, in a def's body -/
theorem zt (eN : X.N = N) (eS : X.env.scope = sc) (eF : X.fn = fun _ => true) (nd : N.Nodup) (i : Nat) (hA : i ∈ A := by decide) (h1 : N[i]? = some x := by rfl) (h2 : locB sc x = true := by rfl) : PG X (.Name x p) (tG (gl X) A (bNm i)) :=
  sg_name (by rw [eN]; exact nd) (by rw [eN]; exact h1) (by rw [eS]; exact locB_ok h2) hA (.inl (by rw [eF]))
/-- a target by name, in a comprehension -/
theorem zc (eN : X.N = N) (eS : X.env.scope = sc) (eF : X.fn = fun x => sc.names.lookup x == some .cell) (nd : N.Nodup) (i : Nat) (hA : i ∈ A := by decide) (h1 : N[i]? = some x := by rfl) (h2 : locB sc x = true := by rfl) : PG X (.Name x p) (tG (gl X) A (bNm i)) :=
  sg_name (by rw [eN]; exact nd) (by rw [eN]; exact h1) (by rw [eS]; exact locB_ok h2) hA (by
    rw [eF, eS]
    rcases locB_ok h2 with h | h
    · exact .inr h
    · refine .inl ?_
      show (sc.names.lookup x == some .cell) = true
      rw [h]
      decide)
theorem zb {scope : Scope} {own : List (Str × Nat)} (eN : X.N = N) (eS : X.env.scope = sc) (h : BlkOk N sc scope own) : BlkOk X.N X.env.scope scope own := by
  rw [eN, eS]
  exact h
theorem znd (eN : X.N = N) (nd : N.Nodup) : X.N.Nodup := by rw [eN]; exact nd
end
/-- a comprehension stored in a name of the def's own, on one line -/
theorem swl {X : L2.Cx} {sc scope : Scope} {elt : Expr} {gs : List Comprehension} {pos py : Pos} {y : Str} {l : Nat} (eS : X.env.scope = sc) (hk : sc.kind = .function := by rfl) (hy : sc.names.lookup y = some .local := by rfl) (hl : (py.line == pos.line) = true := by rfl)
    (ha : (scope.names.any fun (n, k) => n == y && (k == .local || k == .cell)) = false := by decide +kernel) : swapsWith (.ListComp elt gs scope pos) (some (.Name y py)) l X.env = pure true := sw_true (by rw [eS]; exact hk) (by rw [eS]; exact hy) hl ha
/-- .. in a name that a comprehension of the def uses -/
theorem swc {X : L2.Cx} {sc scope : Scope} {elt : Expr} {gs : List Comprehension} {pos py : Pos} {y : Str} {l : Nat} (eS : X.env.scope = sc) (hy : sc.names.lookup y = some .cell := by rfl) : swapsWith (.ListComp elt gs scope pos) (some (.Name y py)) l X.env = pure false := by
  have ky : X.env.kindOf y = some .cell := by show X.env.scope.names.lookup y = _; rw [eS]; exact hy
  unfold swapsWith
  simp only [ky]
  have e : (some NameKind.cell == some NameKind.local) = false := by decide
  rw [e]
  simp
/-! names in a comprehension's block -/
theorem rl_ne {env : PySem.Env} : ∀ {names : List (Str × NameKind)} {x : Str} {k : NameKind}, names.lookup x = some k → k ≠ .free →
    (names.map fun (n, k) => if (k == NameKind.free && env.scope.kind == .function && env.kindOf n == some .cell) then (n, NameKind.cell) else (n, k)).lookup x = some k
  | [], _, _, h, _ => by simp at h
  | (n, k') :: r, x, k, h, hk => by
    have ih := @rl_ne env r x k
    show List.lookup x ((if (k' == NameKind.free && env.scope.kind == .function && env.kindOf n == some .cell) = true then (n, NameKind.cell) else (n, k')) :: _) = _
    cases hx : x == n with
    | true =>
      simp only [List.lookup_cons, hx] at h
      cases h
      have : (k' == NameKind.free) = false := by cases k' <;> first | rfl | exact absurd rfl hk
      rw [this]
      simp [List.lookup_cons, hx]
    | false =>
      simp only [List.lookup_cons, hx] at h
      by_cases hc : (k' == NameKind.free && env.scope.kind == .function && env.kindOf n == some .cell) = true
      · rw [if_pos hc]; simp only [List.lookup_cons, hx]; exact ih h hk
      · rw [if_neg hc]; simp only [List.lookup_cons, hx]; exact ih h hk
theorem rl_free {env : PySem.Env} : ∀ {names : List (Str × NameKind)} {x : Str}, names.lookup x = some .free →
    (names.map fun (n, k) => if (k == NameKind.free && env.scope.kind == .function && env.kindOf n == some .cell) then (n, NameKind.cell) else (n, k)).lookup x = some .cell ∨
    (names.map fun (n, k) => if (k == NameKind.free && env.scope.kind == .function && env.kindOf n == some .cell) then (n, NameKind.cell) else (n, k)).lookup x = some .free
  | [], _, h => by simp at h
  | (n, k') :: r, x, h => by
    have ih := @rl_free env r x
    show List.lookup x ((if (k' == NameKind.free && env.scope.kind == .function && env.kindOf n == some .cell) = true then (n, NameKind.cell) else (n, k')) :: _) = _ ∨ List.lookup x ((if (k' == NameKind.free && env.scope.kind == .function && env.kindOf n == some .cell) = true then (n, NameKind.cell) else (n, k')) :: _) = _
    cases hx : x == n with
    | true =>
      simp only [List.lookup_cons, hx] at h
      cases h
      by_cases hc : (NameKind.free == NameKind.free && env.scope.kind == .function && env.kindOf n == some .cell) = true
      · rw [if_pos hc]; left; simp [List.lookup_cons, hx]
      · rw [if_neg hc]; right; simp [List.lookup_cons, hx]
    | false =>
      simp only [List.lookup_cons, hx] at h
      by_cases hc : (k' == NameKind.free && env.scope.kind == .function && env.kindOf n == some .cell) = true
      · rw [if_pos hc]; simp only [List.lookup_cons, hx]; exact ih h
      · rw [if_neg hc]; simp only [List.lookup_cons, hx]; exact ih h
theorem rl_vis {scope : Scope} {env : PySem.Env} {x : Str} (h : visB scope x = true) : Vis (relabel scope env) x := by
  rcases visB_ok h with h | h | h
  · exact .inl (rl_ne h (by decide))
  · exact .inr (.inl (rl_ne h (by decide)))
  · exact (rl_free h).elim (fun h => .inr (.inl h)) fun h => .inr (.inr h)
theorem rl_loc {scope : Scope} {env : PySem.Env} {x : Str} (h : locB scope x = true) : L2.Loc (relabel scope env) x := by
  rcases locB_ok h with h | h
  · exact .inl (rl_ne h (by decide))
  · exact .inr (rl_ne h (by decide))
section
variable {X : L2.Cx} {W : WX} {N : List Str} {scope : Scope} {x : Str} {p : Pos} {A : List Nat} {s : Shared} {H : Hp} {C : Addr} {cl : List (Str × Addr)} {fp : List Addr}
theorem zvb (eN : X.N = N) (i : Nat) (h1 : N[i]? = some x := by rfl) (h2 : visB scope x = true := by rfl) (hd : (x == ("__debug__" : Str)) = false := by decide) (hcd : (x == ("__classdict__" : Str)) = false := by decide) : PE (X.blk s H scope (compEnvC scope cl C X.env) fp) (.Name x p) (tE (gl (X.blk s H scope (compEnvC scope cl C X.env) fp)) W (eVar i)) :=
  se_var (X := X.blk s H scope (compEnvC scope cl C X.env) fp) (by show X.N[i]? = _; rw [eN]; exact h1) (rl_vis h2) hd hcd
theorem zgb (X : L2.Cx) (s : Shared) (H : Hp) (scope : Scope) (cl : List (Str × Addr)) (C : Addr) (fp : List Addr) {x : Str} (h : (scope.names.lookup x) = some .globalImplicit := by rfl) : Gl (X.blk s H scope (compEnvC scope cl C X.env) fp) x := rl_ne h (by decide)
theorem zcb (eN : X.N = N) (nd : N.Nodup) (i : Nat) (hA : i ∈ A := by decide) (h1 : N[i]? = some x := by rfl) (h2 : locB scope x = true := by rfl) : PG (X.blk s H scope (compEnvC scope cl C X.env) fp) (.Name x p) (tG (gl (X.blk s H scope (compEnvC scope cl C X.env) fp)) A (bNm i)) :=
  sg_name (X := X.blk s H scope (compEnvC scope cl C X.env) fp) (by show X.N.Nodup; rw [eN]; exact nd) (by show X.N[i]? = _; rw [eN]; exact h1) (rl_loc h2) hA (by
    rcases locB_ok h2 with h | h
    · exact .inr (rl_ne h (by decide))
    · refine .inl ?_
      show (scope.names.lookup x == some .cell) = true
      rw [h]
      decide)
theorem zbb {scope2 : Scope} {own : List (Str × Nat)} (eN : X.N = N) (h : BlkOk N scope scope2 own) : BlkOk (X.blk s H scope (compEnvC scope cl C X.env) fp).N (X.blk s H scope (compEnvC scope cl C X.env) fp).env.scope scope2 own := by
  refine ⟨h.kind, h.uniq, ?_, fun y hy e => ?_, ?_⟩
  · show ∀ p ∈ own, X.N[p.2]? = some p.1
    rw [eN]; exact h.ix
  · rcases h.free y hy e with g | g
    · exact .inl (rl_ne g (by decide))
    · exact rl_free g
  · show ∀ y ∈ scope2.names, y.2 = .local ∨ y.2 = .cell → y.1 ∈ own.map (·.1) ∨ y.1 ∉ X.N
    rw [eN]; exact h.own
end

/-! ### (a, b) = e -/
def sUnp (b : Bd) (ev : Ev) : Sv := fun ε => SR.ofR (eFz ev ε) fun t ε1 => match t with
  | .val (.fz d) => match b d ε1 with
    | some ε' => .nx ε'
    | none => .no
  | _ => .no
section
variable {X : L2.Cx} {W : WX} {A : List Nat} {e tg : Expr} {ve : Ev} {b : Bd} {pos : Pos}
theorem sUnp_run {G : Glob} (D : Ends) (σ : L2.St) (H : Hp) (h : tS G W A (sUnp b ve) D σ H) : tAsg (tE G W (eFz ve)) (tG G A b) D σ H := by
  obtain ⟨P, F0, F, fp, ε, ts, vs, R, hl, h⟩ := h
  refine ⟨P, F0, F, fp, ε, ts, vs, R, hl, Got.mono (GotS.ofR h) fun t ε1 h F1 H1 fp1 v1 l1 R1 ok1 => ?_⟩
  split at h
  · rename_i d
    obtain ⟨p, o⟩ := get_last (t := .val (.fz d)) l1 R1 ok1 rfl
    cases q : b d ε1 with
    | none => rw [q] at h; exact h.elim
    | some ε' =>
      rw [q] at h
      exact ⟨P, F0, F1, fp1, ε1, ts, vs, d, R1.drop1 l1, l1, rep_of o, ε', q, fun σ' fp' l k R' => h F1 H1 fp' σ' l k R'⟩
  · exact h.elim
theorem sp_unp (he : PE X e (tE (gl X) W ve)) (hg : PG X tg (tG (gl X) A b)) (hs : swapsWithSole [tg] e pos.line X.env = pure false := by rfl) (hw : swappedStores [tg] e X.env = pure none := by rfl)
    (h1 : (assignEach [tg] X.env).map (·.2) = [assign tg X.env] := by rfl) : PS X (.Assign [tg] e pos) (tS (gl X) W A (sUnp b ve)) := PS.imp (ps_asg (se_fz he) hg hs hw h1) sUnp_run
end

/-! ### a def -/
theorem toFun {K : PySem.W.Frag} {x q : Str} {st : Stmt} {f : Addr} {fd : FuncData} (F : FunD K x q (defArgs st) (defBody st) (defScope st) [] [] f fd) : Fun K x q st f fd := by
  obtain ⟨oc, od, dV, kV, doc, pm, an, cdv, ct, osl, rfl, lk, hcd, hD, hK⟩ := F.ex
  rcases hD with ⟨_, rfl⟩ | ⟨e, _⟩
  · exact ⟨⟨oc, od, kV, doc, pm, an, cdv, ct, osl, rfl, lk, hcd⟩, F.kp⟩
  · exact absurd rfl e
/-- a def of the text stands in the module -/
def Dfn (K : PySem.W.Frag) (mg : Str → Option Value) (x : Str) (st : Stmt) : Prop := ∃ f fd, Fun K x x st f fd ∧ mg x = some (.ref f)
/-- the names that the module leaves to the built-ins -/
def Fre (mg : Str → Option Value) (xs : List Str) : Prop := ∀ x ∈ xs, mg x = none
theorem has_of {P : Program} {w : World} {K : PySem.W.Frag} {mg : Str → Option Value} {base : Heap} {x : Str} {st : Stmt} {N ps : List Str} {k : Nat} {B A : List Nat} {sv : Sv} (D : Dfn K mg x st) (S : FnScope N ps (defScope st))
    (hB : ∀ i, i < ps.length → i ∉ B → i ∉ A)
    (hb : ∀ (kV doc pm : Value) (an : Option Addr) (cdv ct : Value) (us : List Value), us.length = ps.length → bindArgs (PySem.W.fnOf x x (defArgs st) (defBody st) (defScope st) .none kV doc pm an cdv ct) ⟨us, []⟩ = pure (ps.zip us))
    (body : ∀ (X : L2.Cx) (W : WX), X.prog = P → X.w = w → X.K = K → X.mg = mg → X.base = base → X.N = N → X.env.scope = defScope st → X.fn = (fun _ => true) → X.stack = X.env :: X.outer → X.env.frame = some X.env.locals →
      (∃ (q : Str) (f : Addr) (n : Nat) (cd : Value), X.env = envOfC q (defScope st) n f cd) →
      Stg X k W → Takes X W → PassesOwn (model X.prog X.w) X.A X.env X.xe → PSs X (defBody st) (tS (gl X) W A sv)) :
    Has P w K mg base (k + 1) x ps (mkFn N.length ps.length B sv) := by
  obtain ⟨f, fd, F, e⟩ := D
  exact ⟨f, fd, e, F.kp, F.binds hb, fn_ok F S hB body⟩
end Sw

/-! SwO: the head's words: from the mirror of law to the law. -/
namespace Sw
open PySem PySem.Spec PyProof.Rows L2
theorem repInts {K : PySem.W.Frag} {H : Hp} : ∀ ns : List Int, RepAll K H (ns.map V.int) (ns.map PyData.int)
  | [] => .nil
  | n :: ns => .cons (.int n) (repInts ns)
theorem law_start {K : PySem.W.Frag} {mg : Str → Option Value} {H : Hp} {a : Addr} {ns : List Int} {fn : Fn} {outs : Env} (hS : SqL K H a (ns.map V.int)) (hl : ns.length ≤ sizeLine) (e : fn [.fz (.list (ns.map .int))] = .ok (.fz (.bool true)) outs) :
    spF ⟨K, mg⟩ fn [.ref a] H (fun v _ => v = .bl true) fun _ _ _ => False := by
  refine ⟨H, H, fun _ => [], [.fz (.list (ns.map .int))], ⟨rfl, fun i m h => ?_, (fun _ _ _ h => nomatch h), (fun _ _ h => nomatch h), (fun _ _ h => nomatch h), .refl _, .refl _, .refl _, fun _ _ h => .inl h⟩, ?_⟩
  · cases i with
    | zero =>
      cases h
      exact ⟨.ref a, rfl, .fz (.lst hS (by rw [List.length_map]; exact hl) (repInts ns))⟩
    | succ i => cases h
  · rw [e]
    intro F' H' fp' v ho R
    have hz := R.len
    simp only [List.length_append, List.length_map, List.length_singleton] at hz
    obtain ⟨w, h1, h2⟩ := R.own 1 (.fz (.bool true)) (by
      rw [List.getElem?_append_right (by simp at ho ⊢; omega)]
      have : 1 - outs.length = 0 := by omega
      rw [this]; rfl)
    cases h1
    exact own_b h2
theorem cx_out {P : Program} {w : World} (H : Hp) (s : Shared) (e : Value) (s' : Shared) (c : L2.CX P w [] H s (fun _ _ _ => False) e s') : False := by
  obtain ⟨_, _, _, _, _, _, _, _, _, _, _, _, z⟩ := c
  exact z.elim
/-- the walk of a law: its mirror's answer is enough -/
theorem walk_sw {l : PySem.W.OpenLaw} {n k : Nat} {q : Program} {loose : List Str} {XP : (Str → Option Value) → Heap → Prop} {YP : World → Heap → Prop} {d : DefRec} {x : Str} {fn : Fn}
    (hn : l.most = some n) (hn2 : n ≤ sizeLine) (hdf : d.params.defaults = []) (hr : Room k callerA)
    (F : ∀ (w : World) (mg : Str → Option Value) (fa : Addr) (h : Heap), YP w h → h.Ns mainGlobals mg → mg d.name = some (.ref fa) →
      ∃ (K : PySem.W.Frag) (fd : FuncData), K.In h ∧ (∀ (s : Shared) (u : Value), BindsTo s fd ⟨[u], []⟩ [(x, u)]) ∧
        ∀ base : Heap, K.In base → base.Ns mainGlobals mg → FnOk l.prog w K mg base (L2.CX l.prog w) k fa fd [x] (spF ⟨K, mg⟩ fn))
    (hm : ∀ ns : List Int, ns.length ≤ n → ∃ outs, fn [.fz (.list (ns.map .int))] = .ok (.fz (.bool true)) outs) :
    PySem.W.WalkO q loose XP YP l.row.toRowW d [] (fun f vs => PySem.call f vs) := by
  refine Att.attach_call hn hdf fun w s₀ s₁ mg mb fa o pm cd doc a vs ns G Y ho hd hcd hmg hobj hints hlen hg => ?_
  obtain ⟨K, fd, KX, hb, hF⟩ := F w mg fa _ Y G.T.g hmg
  obtain ⟨outs, e⟩ := hm ns hlen
  exact law_call KX G.T.g G.T.b G.T.builtins G.T.nolimit hg hobj hints (Nat.le_trans hlen hn2) hr hF hb (fun H hO hS => law_start hS (Nat.le_trans hlen hn2) e) fun H e s' => cx_out H s₁ e s'
end Sw

/-! SwP: mirrors run by simp. -/
namespace Sw
open PySem
section
variable {α β : Type} {a b c : Ev} {ε ε1 : Env} {i : Nat} {m k : M} {d : D}
@[simp] theorem r_bind_ok (x : α) (ε : Env) (f : α → Env → Rs β) : (Rs.ok x ε).bind f = f x ε := rfl
@[simp] theorem r_ofR_ok (x : α) (ε : Env) (f : α → Env → SR) : SR.ofR (.ok x ε) f = f x ε := rfl
def vark (i : Nat) (ε : Env) : Option (Option M) → Rs T
  | some (some _) => .ok (.var i) ε
  | _ => .no
@[simp] theorem r_vark (i : Nat) (ε : Env) (m : M) : vark i ε (some (some m)) = .ok (.var i) ε := rfl
@[simp] theorem r_var (i : Nat) (ε : Env) : eVar i ε = vark i ε ε[i]? := rfl
@[simp] theorem r_C (d : D) (ε : Env) : eC d ε = .ok (.val (.fz d)) ε := rfl
@[simp] theorem r_lookv (m : M) (ε : Env) : look ε (.val m) = some m := rfl
@[simp] theorem r_looki (i : Nat) (ε : Env) : look ε (.var i) = (ε[i]?).join := rfl
@[simp] theorem r_bin (f : M → M → Option M) (a b : Ev) (ε : Env) : eBin f a b ε = (a ε).bind fun t ε1 => (b ε1).bind fun u ε2 => retO ε2 (app2 f ε2 t u) := rfl
@[simp] theorem r_app2 (f : M → M → Option M) (ε : Env) (t u : T) : app2 f ε t u = (look ε t).bind fun m => (look ε u).bind fun n => f m n := by
  unfold app2; cases look ε t <;> cases look ε u <;> rfl
@[simp] theorem r_ret (m : M) (ε : Env) : retO ε (some m) = .ok (.val m) ε := rfl
@[simp] theorem r_un (f : M → Option M) (a : Ev) (ε : Env) : eUn f a ε = (a ε).bind fun t ε1 => retO ε1 ((look ε1 t).bind f) := rfl
def seqk (s : Sv) : SR → SR
  | .nx ε => s ε
  | r => r
@[simp] theorem r_seqk_nx (s : Sv) (ε : Env) : seqk s (.nx ε) = s ε := rfl
@[simp] theorem r_seqk_rt (s : Sv) (m : M) (ε : Env) : seqk s (.rt m ε) = .rt m ε := rfl
@[simp] theorem r_seqk_bk (s : Sv) (ε : Env) : seqk s (.bk ε) = .bk ε := rfl
@[simp] theorem r_seqk_ct (s : Sv) (ε : Env) : seqk s (.ct ε) = .ct ε := rfl
@[simp] theorem r_seqk_ex (s : Sv) (x : Ex) (ε : Env) : seqk s (.ex x ε) = .ex x ε := rfl
@[simp] theorem r_seq (s1 s2 : Sv) (ε : Env) : sSeq s1 s2 ε = seqk s2 (s1 ε) := rfl
@[simp] theorem r_if (c : Tv) (a b : Sv) (ε : Env) : sIf c a b ε = SR.ofR (c ε) fun k ε1 => if k = true then a ε1 else b ε1 := rfl
@[simp] theorem r_next (ε : Env) : sNext ε = .nx ε := rfl
def asBk (ε1 : Env) : Option M → Rs Bool
  | some (.fz (.bool k)) => .ok k ε1
  | _ => .no
@[simp] theorem r_asBk (k : Bool) (ε : Env) : asBk ε (some (.fz (.bool k))) = .ok k ε := rfl
@[simp] theorem r_asB (a : Ev) (ε : Env) : asB a ε = (a ε).bind fun t ε1 => asBk ε1 (look ε1 t) := by
  rfl
@[simp] theorem r_mvv (m : M) (ε : Env) : mv1 ε (.val m) = .ok (.val m) ε := rfl
def mvk (i : Nat) (ε : Env) : Option M → Rs T
  | some m => .ok (.val m) (if isOwn m = true then ε.set i none else ε)
  | none => .no
@[simp] theorem r_mvk (i : Nat) (ε : Env) (m : M) : mvk i ε (some m) = .ok (.val m) (if isOwn m = true then ε.set i none else ε) := rfl
@[simp] theorem r_mvi (i : Nat) (ε : Env) : mv1 ε (.var i) = mvk i ε (ε[i]?).join := rfl
@[simp] theorem r_mv (a : Ev) (ε : Env) : eMv a ε = (a ε).bind fun t ε1 => mv1 ε1 t := rfl
@[simp] theorem r_ownz (d : D) : isOwn (.fz d) = false := rfl
@[simp] theorem r_ownl (d : List D) : isOwn (.ol d) = true := rfl
def asgk (i : Nat) (ε1 : Env) : T → SR
  | .val m => .nx (ε1.set i (some m))
  | .var _ => .no
@[simp] theorem r_asgk (i : Nat) (ε1 : Env) (m : M) : asgk i ε1 (.val m) = .nx (ε1.set i (some m)) := rfl
@[simp] theorem r_asg (i : Nat) (a : Ev) (ε : Env) : sAsg i a ε = SR.ofR (eMv a ε) fun t ε1 => asgk i ε1 t := by
  rfl
def rtk (ε1 : Env) : T → SR
  | .val m => .rt m ε1
  | .var _ => .no
@[simp] theorem r_rtk (ε1 : Env) (m : M) : rtk ε1 (.val m) = .rt m ε1 := rfl
@[simp] theorem r_rtn (a : Ev) (ε : Env) : sRet a ε = SR.ofR (eMv a ε) fun t ε1 => rtk ε1 t := by
  rfl
@[simp] theorem r_frv (ε : Env) (d : D) : fr1 ε (.val (.fz d)) = .ok (.val (.fz d)) ε := rfl
@[simp] theorem r_fz (a : Ev) (ε : Env) : eFz a ε = (a ε).bind fun t ε1 => fr1 ε1 t := rfl
@[simp] theorem r_fzD (d : D) : fzD (.fz d) = some d := rfl
def nxk : Option Env → SR
  | some ε => .nx ε
  | none => .no
@[simp] theorem r_nxk (ε : Env) : nxk (some ε) = .nx ε := rfl
@[simp] theorem r_put (f : M → M → D → Option M) (i : Nat) (ve vi : Ev) (ε : Env) : sPut f i ve vi ε = SR.ofR (eFz ve ε) fun t ε1 => SR.ofR (eVar i ε1) fun _ ε2 => SR.ofR (vi ε2) fun u ε3 =>
    nxk (((look ε3 (.var i)).bind fun m => (look ε3 u).bind fun n => (look ε3 t).bind fun v => (fzD v).bind fun d => f m n d).map fun k => ε3.set i (some k)) := by
  unfold sPut
  congr 1; funext t ε1
  congr 1; funext _ ε2
  congr 1; funext u ε3
  unfold setR
  split
  · rename_i h; rw [h]; rfl
  · rename_i h; rw [h]; rfl
/-- a def's answer, of its body's end -/
def fink (np : Nat) (B : List Nat) : SR → FR
  | .rt m ε => .ok m ((List.range np).map fun i => if i ∈ B then none else (ε[i]?).join)
  | .nx ε => .ok (.fz .none) ((List.range np).map fun i => if i ∈ B then none else (ε[i]?).join)
  | .ex x ε => .exc x ((List.range np).map fun i => if i ∈ B then none else (ε[i]?).join)
  | _ => .no
theorem mk_run {n np : Nat} {B : List Nat} {sv : Sv} {ms : List M} (h : ms.length = np) : mkFn n np B sv ms = fink np B (sv (ms.map some ++ List.replicate (n - np) none)) := by
  unfold mkFn
  rw [if_pos h]
  rfl
@[simp] theorem r_fin1 (B : List Nat) (m : M) (ε : Env) : fink 1 B (.rt m ε) = .ok m [if 0 ∈ B then none else (ε[0]?).join] := rfl
@[simp] theorem r_fin2 (B : List Nat) (m : M) (ε : Env) : fink 2 B (.rt m ε) = .ok m [if 0 ∈ B then none else (ε[0]?).join, if 1 ∈ B then none else (ε[1]?).join] := rfl
@[simp] theorem r_fin3 (B : List Nat) (m : M) (ε : Env) : fink 3 B (.rt m ε) = .ok m [if 0 ∈ B then none else (ε[0]?).join, if 1 ∈ B then none else (ε[1]?).join, if 2 ∈ B then none else (ε[2]?).join] := rfl
@[simp] theorem r_fin4 (B : List Nat) (m : M) (ε : Env) : fink 4 B (.rt m ε) = .ok m [if 0 ∈ B then none else (ε[0]?).join, if 1 ∈ B then none else (ε[1]?).join, if 2 ∈ B then none else (ε[2]?).join, if 3 ∈ B then none else (ε[3]?).join] := rfl
/-! arguments, calls -/
@[simp] theorem r_al0 (ε : Env) : aList [] ε = .ok [] ε := rfl
@[simp] theorem r_al1 (e : Ev) (es : List Ev) (ε : Env) : aList (e :: es) ε = (e ε).bind fun t ε1 => (aList es ε1).bind fun l ε2 => .ok (t :: l) ε2 := rfl
@[simp] theorem r_an (ε : Env) : aNil ε = .ok [] ε := rfl
@[simp] theorem r_ac (e : Ev) (av : Av) (ε : Env) : aCons e av ε = (e ε).bind fun t ε1 => (av ε1).bind fun l ε2 => .ok (t :: l) ε2 := rfl
@[simp] theorem r_lk0 (ε : Env) : looks ε [] = some [] := rfl
@[simp] theorem r_lk1 (ε : Env) (t : T) (l : List T) : looks ε (t :: l) = (look ε t).bind fun m => (looks ε l).map fun ms => m :: ms := by
  show (match look ε t, looks ε l with
    | some m, some ms => some (m :: ms)
    | _, _ => none) = _
  cases look ε t <;> cases looks ε l <;> rfl
def callf (ε : Env) (l : List T) (n : Nat) : FR → Rs T
  | .ok m outs => if outs.length = n then .ok (.val m) (wbk ε ε l outs) else .no
  | .exc x outs => if outs.length = n then .exc x (wbk ε ε l outs) else .no
  | .no => .no
@[simp] theorem r_callf (ε : Env) (l : List T) (n : Nat) (m : M) (outs : List (Option M)) : callf ε l n (.ok m outs) = if outs.length = n then .ok (.val m) (wbk ε ε l outs) else .no := rfl
def callk (fn : Fn) (ε : Env) (l : List T) : Option (List M) → Rs T
  | some ms => if okArgs ε l = true then callf ε l ms.length (fn ms) else .no
  | none => .no
@[simp] theorem r_callk (fn : Fn) (ε : Env) (l : List T) (ms : List M) : callk fn ε l (some ms) = if okArgs ε l = true then callf ε l ms.length (fn ms) else .no := rfl
@[simp] theorem r_call (fn : Fn) (es : List Ev) (ε : Env) : eCall fn es ε = (aList es ε).bind fun l ε1 => callk fn ε1 l (looks ε1 l) := rfl
@[simp] theorem r_ok0 (ε : Env) : okArgs ε [] = true := rfl
@[simp] theorem r_okv (ε : Env) (m : M) (l : List T) : okArgs ε (.val m :: l) = okArgs ε l := rfl
@[simp] theorem r_oki (ε : Env) (i : Nat) (l : List T) : okArgs ε (.var i :: l) = ((!ownAt ε i || !l.any (T.isVar i)) && okArgs ε l) := rfl
@[simp] theorem r_iv (i : Nat) (m : M) : T.isVar i (.val m) = false := rfl
@[simp] theorem r_ii (i j : Nat) : T.isVar i (.var j) = (i == j) := rfl
def ownk : Option M → Bool
  | some m => isOwn m
  | none => false
@[simp] theorem r_ownk (m : M) : ownk (some m) = isOwn m := rfl
@[simp] theorem r_ownk0 : ownk none = false := rfl
@[simp] theorem r_ownAt (ε : Env) (i : Nat) : ownAt ε i = ownk (ε[i]?).join := rfl
@[simp] theorem r_wb0 (ε0 ε os : Env) : wbk ε0 ε [] os = ε := by unfold wbk; rfl
@[simp] theorem r_wbi (ε0 ε os : Env) (i : Nat) (l : List T) (o : Option M) : wbk ε0 ε (.var i :: l) (o :: os) = if ownAt ε0 i = true then wbk ε0 (ε.set i o) l os else wbk ε0 ε l os := rfl
@[simp] theorem r_wbv (ε0 ε os : Env) (m : M) (l : List T) (o : Option M) : wbk ε0 ε (.val m :: l) (o :: os) = wbk ε0 ε l os := rfl
@[simp] theorem r_appN (f : List M → Option M) (ε : Env) (l : List T) : appN f ε l = (looks ε l).bind f := rfl
@[simp] theorem r_cb (f : List M → Option M) (av : Av) (ε : Env) : eCB f av ε = (av ε).bind fun l ε1 => retO ε1 (appN f ε1 l) := rfl
@[simp] theorem r_fzs0 : fzs [] = some [] := rfl
@[simp] theorem r_fzs1 (d : D) (l : List T) : fzs (.val (.fz d) :: l) = (fzs l).map (d :: ·) := rfl
@[simp] theorem r_tup (es : List Ev) (ε : Env) : eTup es ε = (aList (es.map eFz) ε).bind fun l ε1 => retO ε1 ((fzs l).map fun ds => .fz (.tuple ds)) := rfl
@[simp] theorem r_lst (es : List Ev) (ε : Env) : eLst es ε = (aList (es.map eFz) ε).bind fun l ε1 => retO ε1 ((fzs l).map fun ds => .ol ds) := rfl
/-! frozen names -/
def frk (i : Nat) (ε : Env) : Option M → Rs T
  | some m => match strip m with
    | some d => .ok (.val (.fz d)) (ε.set i (some (.fz d)))
    | none => .no
  | none => .no
@[simp] theorem r_frkz (i : Nat) (ε : Env) (d : D) : frk i ε (some (.fz d)) = .ok (.val (.fz d)) (ε.set i (some (.fz d))) := rfl
@[simp] theorem r_frkl (i : Nat) (ε : Env) (ds : List D) : frk i ε (some (.ol ds)) = .ok (.val (.fz (.list ds))) (ε.set i (some (.fz (.list ds)))) := rfl
@[simp] theorem r_fri (i : Nat) (ε : Env) : fr1 ε (.var i) = frk i ε (ε[i]?).join := rfl
@[simp] theorem r_frl (ε : Env) (ds : List D) : fr1 ε (.val (.ol ds)) = .ok (.val (.fz (.list ds))) ε := rfl
/-! changes in place -/
def okk (ok : M → Bool) : Option M → Bool
  | some m => ok m
  | none => false
@[simp] theorem r_okk (ok : M → Bool) (m : M) : okk ok (some m) = ok m := rfl
@[simp] theorem r_okT (ok : M → Bool) (ε : Env) (t : T) : okT ok ε t = okk ok (look ε t) := by
  unfold okT okk; cases look ε t <;> rfl
def mutk (i : Nat) (ε : Env) : Option (M × D) → Rs T
  | some kd => .ok (.val (.fz kd.2)) (ε.set i (some kd.1))
  | none => .no
@[simp] theorem r_mutk (i : Nat) (ε : Env) (kd : M × D) : mutk i ε (some kd) = .ok (.val (.fz kd.2)) (ε.set i (some kd.1)) := rfl
@[simp] theorem r_mut (ok : M → Bool) (f : M → List M → Option (M × D)) (i : Nat) (es : List Ev) (ε : Env) : eMut ok f i es ε = if okT ok ε (.var i) = true then (aList es ε).bind fun l ε2 => mutk i ε2 ((look ε2 (.var i)).bind fun m => (looks ε2 l).bind fun ms => f m ms) else .no := by
  unfold eMut
  congr 1
@[simp] theorem r_isOl (ds : List D) : isOl (.ol ds) = true := rfl
@[simp] theorem r_drop (a : Ev) (ε : Env) : sDrop a ε = SR.ofR (a ε) fun _ ε1 => .nx ε1 := rfl
/-! slices -/
@[simp] theorem r_pn (ε : Env) : pNone ε = .ok none ε := rfl
def psk (ε : Env) : Option M → Rs (Option Int)
  | some (.fz (.int i)) => .ok (some i) ε
  | _ => .no
@[simp] theorem r_psk (ε : Env) (i : Int) : psk ε (some (.fz (.int i))) = .ok (some i) ε := rfl
@[simp] theorem r_ps (a : Ev) (ε : Env) : pSome a ε = (a ε).bind fun t ε1 => psk ε1 (look ε1 t) := by
  unfold pSome; rfl
@[simp] theorem r_sl (lo hi : Ov) (a : Ev) (ε : Env) : eSl lo hi a ε = (a ε).bind fun t ε1 => (lo ε1).bind fun l ε2 => (hi ε2).bind fun u ε3 => retO ε3 ((look ε3 t).bind (oSl l u)) := rfl
/-! and, or, not -/
@[simp] theorem r_ofB (c : Bool) (ε : Env) : ofB c ε = .ok (.val (.fz (.bool c))) ε := rfl
@[simp] theorem r_eand (a b : Ev) (ε : Env) : eAnd a b ε = (asB a ε).bind fun c ε1 => if c = true then b ε1 else ofB false ε1 := rfl
@[simp] theorem r_eor (a b : Ev) (ε : Env) : eOr a b ε = (asB a ε).bind fun c ε1 => if c = true then ofB true ε1 else b ε1 := rfl
@[simp] theorem r_enot (a : Ev) (ε : Env) : eNot a ε = (asB a ε).bind fun c ε1 => ofB (!c) ε1 := rfl
@[simp] theorem r_cand (a b : Tv) (ε : Env) : cAnd a b ε = (a ε).bind fun c ε1 => if c = true then b ε1 else .ok false ε1 := rfl
@[simp] theorem r_cor (a b : Tv) (ε : Env) : cOr a b ε = (a ε).bind fun c ε1 => if c = true then .ok true ε1 else b ε1 := rfl
@[simp] theorem r_cnot (a : Tv) (ε : Env) : cNot a ε = (a ε).bind fun c ε1 => .ok (!c) ε1 := rfl
@[simp] theorem r_cyes (ε : Env) : cYes ε = .ok true ε := rfl
@[simp] theorem r_eif (c : Tv) (a b : Ev) (ε : Env) : eIf c a b ε = (c ε).bind fun k ε1 => if k = true then a ε1 else b ε1 := rfl
/-! targets -/
@[simp] theorem r_bn (i : Nat) (d : D) (ε : Env) : bNm i d ε = some (ε.set i (some (.fz d))) := rfl
@[simp] theorem r_ba0 (ε : Env) : bAll [] [] ε = some ε := rfl
@[simp] theorem r_ba1 (b : Bd) (bs : List Bd) (d : D) (ds : List D) (ε : Env) : bAll (b :: bs) (d :: ds) ε = (b d ε).bind fun ε' => bAll bs ds ε' := rfl
@[simp] theorem r_btp (bs : List Bd) (ds : List D) (ε : Env) : bTp bs (.tuple ds) ε = bAll bs ds ε := rfl
def unpk (b : Bd) (ε : Env) : T → SR
  | .val (.fz d) => nxk (b d ε)
  | _ => .no
@[simp] theorem r_unpk (b : Bd) (ε : Env) (d : D) : unpk b ε (.val (.fz d)) = nxk (b d ε) := rfl
@[simp] theorem r_unp (b : Bd) (a : Ev) (ε : Env) : sUnp b a ε = SR.ofR (eFz a ε) fun t ε1 => unpk b ε1 t := by
  rfl
/-! what is walked -/
def seqk1 (ε1 : Env) : T → Rs (List D × List D)
  | .val (.fz (.list ds)) => .ok (ds, [.list ds]) ε1
  | .val (.fz (.tuple ds)) => .ok (ds, [.tuple ds]) ε1
  | .val (.fz (.str s)) => .ok (s.cps.toList.map fun c => .str ⟨#[c]⟩, [.str s]) ε1
  | _ => .no
@[simp] theorem r_sk1 (ε : Env) (ds : List D) : seqk1 ε (.val (.fz (.list ds))) = .ok (ds, [.list ds]) ε := rfl
@[simp] theorem r_sk2 (ε : Env) (ds : List D) : seqk1 ε (.val (.fz (.tuple ds))) = .ok (ds, [.tuple ds]) ε := rfl
@[simp] theorem r_sk3 (ε : Env) (z : Str) : seqk1 ε (.val (.fz (.str z))) = .ok (z.cps.toList.map fun c => .str ⟨#[c]⟩, [.str z]) ε := rfl
@[simp] theorem r_iseq (a : Ev) (ε : Env) : iSeq a ε = (eFz a ε).bind fun t ε1 => seqk1 ε1 t := rfl
def rvk (ε1 : Env) : T → Rs (List D × List D)
  | .val (.fz (.list ds)) => .ok (ds.reverse, [.list ds]) ε1
  | .val (.fz (.tuple ds)) => .ok (ds.reverse, [.tuple ds]) ε1
  | _ => .no
@[simp] theorem r_rk1 (ε : Env) (ds : List D) : rvk ε (.val (.fz (.list ds))) = .ok (ds.reverse, [.list ds]) ε := rfl
@[simp] theorem r_rk2 (ε : Env) (ds : List D) : rvk ε (.val (.fz (.tuple ds))) = .ok (ds.reverse, [.tuple ds]) ε := rfl
@[simp] theorem r_irv (a : Ev) (ε : Env) : iRv a ε = (eFz a ε).bind fun t ε1 => rvk ε1 t := rfl
def iak (ε : Env) : Option (List D × List D) → Rs (List D × List D)
  | some r => .ok r ε
  | none => .no
@[simp] theorem r_iak (ε : Env) (r : List D × List D) : iak ε (some r) = .ok r ε := rfl
@[simp] theorem r_iargs (f : List D → Option (List D)) (es : List Ev) (ε : Env) : iArgs f es ε = (aList (es.map eFz) ε).bind fun l ε1 => iak ε1 ((fzs l).bind fun ds => (f ds).map fun items => (items, ds)) := rfl
@[simp] theorem r_for (iv : Iv) (b : Bd) (s : Sv) (ε : Env) : sFor iv b s ε = SR.ofR (iv ε) fun dh ε1 => forR b s dh.1 ε1 := rfl
@[simp] theorem r_comp (iv : Iv) (own : List Nat) (b : Bd) (t : Tv) (e : Ev) (ε : Env) : eComp iv own b t e ε = (iv ε).bind fun dh ε1 => (compR own b t e dh.1 [] (wipeE ε1 own)).bind fun acc ε2 => .ok (.val (.ol acc)) ε2 := rfl
@[simp] theorem r_wp0 (ε : Env) : wipeE ε [] = ε := rfl
@[simp] theorem r_wp1 (ε : Env) (i : Nat) (l : List Nat) : wipeE ε (i :: l) = (wipeE ε l).set i none := rfl
@[simp] theorem r_nex (α : Type) (a : α) (ε : Env) : noExc (Rs.ok a ε) = .ok a ε := rfl
/-- one turn of a comprehension -/
def adk (own : List Nat) (acc : List D) (ε : Env) : T → Rs (List D)
  | .val (.fz y) => .ok (acc ++ [y]) (wipeE ε own)
  | _ => .no
@[simp] theorem r_adk (own : List Nat) (acc : List D) (ε : Env) (y : D) : adk own acc ε (.val (.fz y)) = .ok (acc ++ [y]) (wipeE ε own) := rfl
def cstep (own : List Nat) (t : Tv) (e : Ev) (acc : List D) (ε1 : Env) : Rs (List D) := (noExc (t ε1)).bind fun k ε2 => if k = true then (noExc (eFz e ε2)).bind fun t ε3 => adk own acc ε3 t else .ok acc (wipeE ε2 own)
theorem comp_cons {own : List Nat} {b : Bd} {t : Tv} {e : Ev} {d : D} {ds acc acc' : List D} {ε ε1 ε' : Env} (hb : b d ε = some ε1) (h : cstep own t e acc ε1 = .ok acc' ε') : compR own b t e (d :: ds) acc ε = compR own b t e ds acc' ε' := by
  have e0 : compR own b t e (d :: ds) acc ε = match b d ε with
    | none => .no
    | some ε1 => (noExc (t ε1)).bind fun k ε2 => if k = true then (noExc (eFz e ε2)).bind fun u ε3 => match u with
        | .val (.fz y) => compR own b t e ds (acc ++ [y]) (wipeE ε3 own)
        | _ => .no
      else compR own b t e ds acc (wipeE ε2 own) := rfl
  rw [e0, hb]
  unfold cstep at h
  dsimp only
  cases q : noExc (t ε1) with
  | no => rw [q] at h; cases h
  | exc x ε => rw [q] at h; cases h
  | ok k ε2 =>
    rw [q] at h
    rw [r_bind_ok] at h ⊢
    cases k with
    | false =>
      rw [if_neg (by decide)] at h ⊢
      cases h
      rfl
    | true =>
      rw [if_pos rfl] at h ⊢
      cases q2 : noExc (eFz e ε2) with
      | no => rw [q2] at h; cases h
      | exc x ε => rw [q2] at h; cases h
      | ok u ε3 =>
        rw [q2] at h
        rw [r_bind_ok] at h ⊢
        cases u with
        | var i => cases h
        | val m => cases m with
          | fz y => cases h; rfl
          | _ => cases h
/-- a comprehension by an invariant -/
theorem comp_inv {own : List Nat} {b : Bd} {t : Tv} {e : Ev} {ds : List D} (I : Nat → List D → Env → Prop) {ε : Env} (h0 : I 0 [] ε)
    (hs : ∀ j d acc ε, ds[j]? = some d → I j acc ε → ∃ ε1 acc' ε', b d ε = some ε1 ∧ cstep own t e acc ε1 = .ok acc' ε' ∧ I (j + 1) acc' ε') :
    ∃ acc ε', compR own b t e ds [] ε = .ok acc ε' ∧ I ds.length acc ε' := by
  have key : ∀ (n j : Nat) (acc : List D) (ε : Env), j + n = ds.length → I j acc ε → ∃ acc' ε', compR own b t e (ds.drop j) acc ε = .ok acc' ε' ∧ I ds.length acc' ε' := by
    intro n
    induction n with
    | zero =>
      intro j acc ε hj hi
      have : j = ds.length := by omega
      subst this
      rw [List.drop_length]
      exact ⟨acc, ε, rfl, hi⟩
    | succ n ih =>
      intro j acc ε hj hi
      have hlt : j < ds.length := by omega
      obtain ⟨ε1, acc', ε', h1, h2, h3⟩ := hs j ds[j] acc ε (List.getElem?_eq_getElem hlt) hi
      rw [List.drop_eq_getElem_cons hlt, comp_cons h1 h2]
      exact ih (j + 1) acc' ε' (by omega) h3
  exact key ds.length 0 [] ε (by omega) h0
/-- a pure comprehension without tests -/
theorem for_cons {b : Bd} {s : Sv} {d : D} {ds : List D} {ε ε1 ε2 : Env} (hb : b d ε = some ε1) (h : s ε1 = .nx ε2) : forR b s (d :: ds) ε = forR b s ds ε2 := by
  show (match b d ε with
    | none => SR.no
    | some ε1 => match s ε1 with
      | .nx ε2 => forR b s ds ε2
      | .ct ε2 => forR b s ds ε2
      | .bk ε2 => .nx ε2
      | r => r) = _
  rw [hb]
  dsimp only
  rw [h]
theorem for_inv {b : Bd} {s : Sv} {ds : List D} (I : Nat → Env → Prop) {ε : Env} (h0 : I 0 ε) (hs : ∀ j d ε, ds[j]? = some d → I j ε → ∃ ε1 ε', b d ε = some ε1 ∧ s ε1 = .nx ε' ∧ I (j + 1) ε') :
    ∃ ε', forR b s ds ε = .nx ε' ∧ I ds.length ε' := by
  have key : ∀ (n j : Nat) (ε : Env), j + n = ds.length → I j ε → ∃ ε', forR b s (ds.drop j) ε = .nx ε' ∧ I ds.length ε' := by
    intro n
    induction n with
    | zero =>
      intro j ε hj hi
      have : j = ds.length := by omega
      subst this
      rw [List.drop_length]
      exact ⟨ε, rfl, hi⟩
    | succ n ih =>
      intro j ε hj hi
      have hlt : j < ds.length := by omega
      obtain ⟨ε1, ε', h1, h2, h3⟩ := hs j ds[j] ε (List.getElem?_eq_getElem hlt) hi
      rw [List.drop_eq_getElem_cons hlt, for_cons h1 h2]
      exact ih (j + 1) ε' (by omega) h3
  exact key ds.length 0 ε (by omega) h0
end
end Sw

/-! SwQ: facts of operations on data. -/
namespace Sw
open PySem
def nums (w : List Int) : List D := w.map .int
@[simp] theorem nums_nil : nums [] = [] := rfl
@[simp] theorem nums_cons (n : Int) (w : List Int) : nums (n :: w) = .int n :: nums w := rfl
theorem nums_app (u v : List Int) : nums (u ++ v) = nums u ++ nums v := List.map_append
@[simp] theorem nums_len (w : List Int) : (nums w).length = w.length := List.length_map _
theorem plain_nums : ∀ w : List Int, PyData.plainAll (nums w) = true
  | [] => rfl
  | n :: w => by
    show (PyData.plain (.int n) && PyData.plainAll (nums w)) = true
    rw [plain_nums w]; rfl
theorem plainAll_of {α : Type} (f : α → D) (h : ∀ a, (f a).plain = true) : ∀ xs : List α, PyData.plainAll (xs.map f) = true
  | [] => rfl
  | x :: xs => by
    show (PyData.plain (f x) && PyData.plainAll (xs.map f)) = true
    rw [plainAll_of f h xs, h x]; rfl
theorem depthAll_of {α : Type} (f : α → D) (n : Nat) (h : ∀ a, (f a).depth ≤ n) : ∀ xs : List α, PyData.depthAll (xs.map f) ≤ n
  | [] => Nat.zero_le _
  | x :: xs => by
    show max (f x).depth (PyData.depthAll (xs.map f)) ≤ n
    exact Nat.max_le.mpr ⟨h x, depthAll_of f n h xs⟩
theorem depth_nums (w : List Int) : PyData.depthAll (nums w) ≤ 1 := depthAll_of _ 1 (fun a => by simp [PyData.depth]) w
/-- equal things -/
theorem oEq_same {m n : M} {d : D} (h1 : strip m = some d) (h2 : strip n = some d) (hp : d.plain = true) (hd : d.depth ≤ 60) : oEq m n = some (.fz (.bool true)) := by
  unfold oEq withD2
  rw [h1, h2]
  show (if eqOk d d = true then some (M.fz (.bool (PyData.eqv d d))) else none) = _
  have : eqOk d d = true := by
    unfold eqOk
    rw [hp]
    simp only [Bool.and_self, Bool.true_and, decide_eq_true_eq, Nat.min_self]
    exact hd
  rw [if_pos this, SeqAt.eqv_refl_plain d hp]
theorem oNe_same {m n : M} {d : D} (h1 : strip m = some d) (h2 : strip n = some d) (hp : d.plain = true) (hd : d.depth ≤ 60) : oNe m n = some (.fz (.bool false)) := by
  unfold oNe withD2
  rw [h1, h2]
  show (if eqOk d d = true then some (M.fz (.bool (!PyData.eqv d d))) else none) = _
  have : eqOk d d = true := by
    unfold eqOk
    rw [hp]
    simp only [Bool.and_self, Bool.true_and, decide_eq_true_eq, Nat.min_self]
    exact hd
  rw [if_pos this, SeqAt.eqv_refl_plain d hp]
  rfl
theorem eqOk_flat {d e : D} (h1 : d.plain = true) (h2 : e.plain = true) (h3 : d.depth ≤ 60) : eqOk d e = true := by
  unfold eqOk
  rw [h1, h2]
  simp only [Bool.and_self, Bool.true_and, decide_eq_true_eq]
  omega
theorem oEq_int (i j : Int) : oEq (.fz (.int i)) (.fz (.int j)) = some (.fz (.bool (decide (i = j)))) := by
  show (if eqOk (.int i) (.int j) = true then some (M.fz (.bool (PyData.eqv (.int i) (.int j)))) else none) = _
  rw [if_pos (eqOk_flat rfl rfl (by simp [PyData.depth]))]
  simp only [PyData.eqv]; rfl
theorem oNe_int (i j : Int) : oNe (.fz (.int i)) (.fz (.int j)) = some (.fz (.bool (!decide (i = j)))) := by
  show (if eqOk (.int i) (.int j) = true then some (M.fz (.bool (!PyData.eqv (.int i) (.int j)))) else none) = _
  rw [if_pos (eqOk_flat rfl rfl (by simp [PyData.depth]))]
  simp only [PyData.eqv]; rfl
theorem oEq_str (i j : Str) : oEq (.fz (.str i)) (.fz (.str j)) = some (.fz (.bool (decide (i = j)))) := by
  show (if eqOk (.str i) (.str j) = true then some (M.fz (.bool (PyData.eqv (.str i) (.str j)))) else none) = _
  rw [if_pos (eqOk_flat rfl rfl (by simp [PyData.depth]))]
  simp only [PyData.eqv]; rfl
theorem oNe_str (i j : Str) : oNe (.fz (.str i)) (.fz (.str j)) = some (.fz (.bool (!decide (i = j)))) := by
  show (if eqOk (.str i) (.str j) = true then some (M.fz (.bool (!PyData.eqv (.str i) (.str j)))) else none) = _
  rw [if_pos (eqOk_flat rfl rfl (by simp [PyData.depth]))]
  simp only [PyData.eqv]; rfl
theorem oNe_nil0 : oNe (.ol []) (.ol []) = some (.fz (.bool false)) := oNe_same (d := .list []) rfl rfl rfl (by simp [PyData.depth, PyData.depthAll])
/-- xs != [] -/
theorem oNe_cons {ds : List D} (hn : ds ≠ []) (hp : PyData.plainAll ds = true) : oNe (.ol ds) (.ol []) = some (.fz (.bool true)) := by
  show (if eqOk (.list ds) (.list []) = true then some (M.fz (.bool (!PyData.eqv (.list ds) (.list [])))) else none) = _
  have : eqOk (.list ds) (.list []) = true := by
    unfold eqOk
    rw [show (PyData.list ds).plain = true from hp]
    simp only [Bool.true_and, Bool.and_eq_true, decide_eq_true_eq]
    refine ⟨rfl, ?_⟩
    have : (PyData.list []).depth ≤ 60 := by simp [PyData.depth, PyData.depthAll]
    omega
  rw [if_pos this]
  cases ds with
  | nil => exact absurd rfl hn
  | cons d ds => rfl
theorem atI_last {α : Type} (xs : List α) (x : α) : L2.atI (xs ++ [x]) (-1) = some x := by
  unfold L2.atI L2.ixN
  have e : ((-1 : Int) + ((xs ++ [x]).length : Int)).toNat = xs.length := by rw [List.length_append]; simp; omega
  have h : -(((xs ++ [x]).length : Nat) : Int) ≤ -1 := by rw [List.length_append]; simp; omega
  rw [if_neg (by omega), if_pos h, e]
  show (xs ++ [x])[xs.length]? = some x
  simp
theorem atI_nat {α : Type} (xs : List α) (k : Nat) (h : k < xs.length) : L2.atI xs (k : Int) = some xs[k] := by
  unfold L2.atI L2.ixN
  have h1 : (0 : Int) ≤ k := by omega
  simp [h1, h]
theorem ixN_nat {n k : Nat} (h : k < n) : L2.ixN n (k : Int) = some k := by
  unfold L2.ixN
  have h1 : (0 : Int) ≤ k := by omega
  simp [h1, h]
theorem cut_to (xs : List D) (k : Nat) : cutD xs none (some (k : Int)) = xs.take k := by
  unfold cutD
  rw [HT.sIx_nat, HT.sIx_none, List.drop_zero, Nat.sub_zero]
  by_cases h : k ≤ xs.length
  · rw [Nat.min_eq_left h]
  · rw [Nat.min_eq_right (by omega), List.take_length, List.take_of_length_le (by omega)]
theorem cut_from (xs : List D) (k : Nat) : cutD xs (some (k : Int)) none = xs.drop k := by
  unfold cutD
  rw [HT.sIx_nat, HT.sIx_none]
  by_cases h : k ≤ xs.length
  · rw [Nat.min_eq_left h, List.take_of_length_le (by rw [List.length_drop]; exact Nat.le_refl _)]
  · rw [Nat.min_eq_right (by omega), List.drop_length, List.drop_of_length_le (by omega), List.take_nil]
theorem set_mid (A B : List D) (l r x : D) : (A ++ l :: r :: B).set A.length x = A ++ x :: r :: B := by
  rw [List.set_append_right _ _ (Nat.le_refl _), Nat.sub_self]; rfl
theorem set_mid1 (A B : List D) (l r x : D) : (A ++ l :: r :: B).set (A.length + 1) x = A ++ l :: x :: B := by
  rw [List.set_append_right _ _ (by omega), show A.length + 1 - A.length = 1 by omega]; rfl
theorem get_mid {α : Type} (A B : List α) (l r : α) : (A ++ l :: r :: B)[A.length]? = some l := by
  rw [List.getElem?_append_right (Nat.le_refl _), Nat.sub_self]; rfl
theorem get_mid1 {α : Type} (A B : List α) (l r : α) : (A ++ l :: r :: B)[A.length + 1]? = some r := by
  rw [List.getElem?_append_right (by omega), show A.length + 1 - A.length = 1 by omega]; rfl
theorem atI_some {α : Type} {xs : List α} {k : Nat} {x : α} (h : xs[k]? = some x) : L2.atI xs (k : Int) = some x := by
  have hk := (List.getElem?_eq_some_iff.mp h).1
  unfold L2.atI
  rw [ixN_nat hk]
  exact h
/-- a pure comprehension -/
theorem comp_map {own : List Nat} {b : Bd} {e : Ev} (f : D → D) {ε : Env} : ∀ (ds acc : List D), (∀ d ∈ ds, ∃ ε1, b d ε = some ε1 ∧ ∀ acc, cstep own cYes e acc ε1 = .ok (acc ++ [f d]) ε) → compR own b cYes e ds acc ε = .ok (acc ++ ds.map f) ε
  | [], acc, _ => by simp [compR]
  | d :: ds, acc, h => by
    obtain ⟨ε1, h1, h2⟩ := h d (by simp)
    rw [comp_cons h1 (h2 acc), comp_map f ds _ fun d' hd => h d' (by simp [hd])]
    simp
/-- .. with a test that is never met -/
theorem comp_none {own : List Nat} {b : Bd} {t : Tv} {e : Ev} {ε : Env} : ∀ (ds acc : List D), (∀ d ∈ ds, ∃ ε1, b d ε = some ε1 ∧ ∀ acc, cstep own t e acc ε1 = .ok acc ε) → compR own b t e ds acc ε = .ok acc ε
  | [], acc, _ => by simp [compR]
  | d :: ds, acc, h => by
    obtain ⟨ε1, h1, h2⟩ := h d (by simp)
    rw [comp_cons h1 (h2 acc), comp_none ds _ fun d' hd => h d' (by simp [hd])]
def upto (n : Nat) : List D := (List.range n).map fun (i : Nat) => .int (i : Int)
theorem range1_nat {n : Nat} (h : n ≤ 1000000) : range1 [.int (n : Int)] = some (upto n) := by
  show (if -1000000 ≤ (n : Int) ∧ (n : Int) ≤ 1000000 then some (rangeD 0 1 ((n : Int)).toNat) else none) = _
  rw [if_pos (by omega)]
  unfold rangeD upto
  have : (fun i : Nat => (PyData.int (0 + (i : Nat) * 1) : D)) = fun (i : Nat) => .int (i : Int) := by funext i; simp
  rw [this]
  rfl
end Sw

/-! K60m: words on wires, in plain Lean: free reduction as a stack, words that are a letter put round, the lengths. -/
namespace K60m
abbrev Wd := List Int
/-- one letter onto the stack -/
def pu (n : Int) : Wd → Wd
  | [] => [n]
  | m :: t => if m = -n then t else n :: m :: t
def act (s v : Wd) : Wd := v.foldl (fun s n => pu n s) s
def red (v : Wd) : Wd := (act [] v).reverse
def opp (w : Wd) : Wd := w.reverse.map (fun n => -n)
/-- no letter beside its contrary -/
def Re (w : Wd) : Prop := ∀ x a b y, w = x ++ a :: b :: y → b ≠ -a
theorem act_nil (s : Wd) : act s [] = s := rfl
theorem act_cons (s : Wd) (n : Int) (v : Wd) : act s (n :: v) = act (pu n s) v := rfl
theorem act_app (s u v : Wd) : act s (u ++ v) = act (act s u) v := List.foldl_append
theorem act_one (s : Wd) (n : Int) : act s [n] = pu n s := rfl
theorem Re.nil : Re [] := fun x a b y h => by cases x <;> cases h
theorem Re.one (n : Int) : Re [n] := fun x a b y h => by
  cases x with
  | nil => cases h
  | cons z x => cases x <;> cases h
theorem Re.tail {n : Int} {t : Wd} (h : Re (n :: t)) : Re t := fun x a b y e => h (n :: x) a b y (by rw [e]; rfl)
theorem Re.two {n m : Int} {t : Wd} (h : Re (n :: m :: t)) : m ≠ -n := h [] n m t rfl
theorem Re.cons {n m : Int} {t : Wd} (h : Re (m :: t)) (k : m ≠ -n) : Re (n :: m :: t) := fun x a b y e => by
  cases x with
  | nil => cases e; exact k
  | cons z x =>
    have e2 : m :: t = x ++ a :: b :: y := (List.cons.inj e).2
    exact h x a b y e2
theorem Re.rev {w : Wd} (h : Re w) : Re w.reverse := fun x a b y e => by
  have e2 : w = y.reverse ++ b :: a :: x.reverse := by
    have := congrArg List.reverse e
    simpa using this
  have := h _ _ _ _ e2
  omega
theorem Re.snoc {n m : Int} {t : Wd} (h : Re (t ++ [m])) (k : n ≠ -m) : Re (t ++ [m, n]) := by
  have h1 : Re (m :: t.reverse) := by simpa using h.rev
  have h2 : Re (n :: m :: t.reverse) := h1.cons (by omega)
  simpa using h2.rev
theorem Re.inner {x w y : Wd} (h : Re (x ++ w ++ y)) : Re w := fun x' a b y' e => h (x ++ x') a b (y' ++ y) (by rw [e]; simp)
theorem pu_pu {s : Wd} (h : Re s) (n : Int) : pu (-n) (pu n s) = s := by
  cases s with
  | nil => simp [pu]
  | cons m t =>
    by_cases k : m = -n
    · subst k
      simp only [pu, if_true]
      cases t with
      | nil => rfl
      | cons m2 t2 =>
        have := h.two
        simp only [pu]
        rw [if_neg (by omega)]
    · simp [pu, k]
theorem pu_pu' {s : Wd} (h : Re s) (n : Int) : pu n (pu (-n) s) = s := by
  have := pu_pu h (-n)
  rwa [Int.neg_neg] at this
theorem Re.pu {s : Wd} (h : Re s) (n : Int) : Re (pu n s) := by
  cases s with
  | nil => exact .one n
  | cons m t =>
    by_cases k : m = -n
    · simp only [K60m.pu, k, if_true]; exact h.tail
    · simp only [K60m.pu, k, if_false]; exact h.cons k
theorem Re.act {s : Wd} (h : Re s) : ∀ v : Wd, Re (act s v)
  | [] => h
  | n :: v => Re.act (h.pu n) v
theorem Re.red (v : Wd) : Re (red v) := (Re.nil.act v).rev
theorem act_snoc (s v : Wd) (n : Int) : act s (v ++ [n]) = pu n (act s v) := by rw [act_app]; rfl
theorem snoc_ind {P : Wd → Prop} (h0 : P []) (hs : ∀ v n, P v → P (v ++ [n])) (v : Wd) : P v := by
  have : ∀ u : Wd, P u.reverse := fun u => by
    induction u with
    | nil => exact h0
    | cons n u ih => rw [List.reverse_cons]; exact hs _ _ ih
  have h := this v.reverse
  rwa [List.reverse_reverse] at h
/-- a word acts as its reduction does -/
theorem act_red {s : Wd} (h : Re s) (v : Wd) : act s (red v) = act s v := by
  induction v using snoc_ind with
  | h0 => rfl
  | hs v n ih =>
    rw [act_snoc s v n]
    have e0 : red (v ++ [n]) = (pu n (act [] v)).reverse := by unfold red; rw [act_snoc]
    rw [e0]
    have ih : act s (act [] v).reverse = act s v := ih
    generalize act s v = z at ih ⊢
    generalize act [] v = t at ih ⊢
    cases t with
    | nil =>
      rw [← ih]
      rfl
    | cons m t =>
      rw [List.reverse_cons, act_snoc] at ih
      by_cases k : m = -n
      · subst k
        have e5 : pu n (-n :: t) = t := by simp [pu]
        rw [e5, ← ih, pu_pu' (h.act _)]
      · have e5 : pu n (m :: t) = n :: m :: t := by simp [pu, k]
        rw [e5, List.reverse_cons, act_snoc, List.reverse_cons, act_snoc, ih]
theorem act_self {w : Wd} (h : Re w) : act [] w = w.reverse := by
  induction w using snoc_ind with
  | h0 => rfl
  | hs v n ih =>
    have h1 : Re v := by
      have : Re ([] ++ v ++ [n]) := by simpa using h
      exact this.inner
    rw [act_snoc, ih h1, List.reverse_append]
    show pu n v.reverse = n :: v.reverse
    have h2 : Re (n :: v.reverse) := by simpa using h.rev
    cases e : v.reverse with
    | nil => rfl
    | cons m t =>
      rw [e] at h2
      simp only [pu]
      rw [if_neg h2.two]
theorem red_self {w : Wd} (h : Re w) : red w = w := by
  unfold red
  rw [act_self h, List.reverse_reverse]
theorem act_rev {s : Wd} (h : Re s) : act [] s.reverse = s := by rw [act_self h.rev, List.reverse_reverse]
theorem red_red (u v w : Wd) : red (u ++ red v ++ w) = red (u ++ v ++ w) := by
  unfold red
  rw [act_app, act_app, act_app, act_app]
  have := act_red (Re.nil.act u) v
  unfold red at this
  rw [this]
theorem opp_cons (n : Int) (w : Wd) : opp (n :: w) = opp w ++ [-n] := by simp [opp]
theorem opp_app (u v : Wd) : opp (u ++ v) = opp v ++ opp u := by simp [opp]
theorem opp_opp (w : Wd) : opp (opp w) = w := by
  unfold opp
  rw [← List.map_reverse, List.reverse_reverse, List.map_map]
  have : ((fun n : Int => -n) ∘ fun n => -n) = id := by funext n; simp
  rw [this, List.map_id]
theorem opp_len (w : Wd) : (opp w).length = w.length := by simp [opp]
theorem act_opp : ∀ {s : Wd} (w : Wd), Re s → act (act s w) (opp w) = s
  | s, [], h => rfl
  | s, n :: w, h => by
    rw [opp_cons, act_cons, act_app, act_opp w (h.pu n), act_one, pu_pu h]
theorem act_opp' {s : Wd} (w : Wd) (h : Re s) : act (act s (opp w)) w = s := by
  have := act_opp (opp w) h
  rwa [opp_opp] at this
theorem pu_len (n : Int) (s : Wd) : (pu n s).length ≤ s.length + 1 := by
  cases s with
  | nil => exact Nat.le_refl _
  | cons m t =>
    simp only [pu]
    split
    · simp only [List.length_cons]; omega
    · simp
theorem act_len : ∀ (s v : Wd), (act s v).length ≤ s.length + v.length
  | s, [] => Nat.le_refl _
  | s, n :: v => by
    have h1 := act_len (pu n s) v
    have h2 := pu_len n s
    rw [act_cons, List.length_cons]
    omega

/-! ### words that are a letter put round -/
def Lone (w : Wd) : Prop := ∃ u g, 0 < g ∧ w = u ++ [g] ++ opp u ∧ Re w
theorem Lone.re {w : Wd} (h : Lone w) : Re w := by obtain ⟨u, g, h1, h2, h3⟩ := h; exact h3
theorem lone_one {n : Int} (h : 0 < n) : Lone [n] := ⟨[], n, h, rfl, .one n⟩
theorem lone_conj1 {w : Wd} (h : Lone w) (n : Int) : Lone (red ([n] ++ w ++ [-n])) := by
  obtain ⟨u, g, hg, e, hr⟩ := h
  cases u with
  | nil =>
    have e : w = [g] := e
    subst e
    by_cases k : n = -g
    · subst k
      have : red ([-g] ++ [g] ++ [- -g]) = [g] := by simp [red, act, pu]
      rw [this]; exact lone_one hg
    · by_cases k2 : g = n
      · subst k2
        have e3 : ¬ (g = -g) := by omega
        have : red ([g] ++ [g] ++ [-g]) = [g] := by simp [red, act, pu, e3]
        rw [this]; exact lone_one hg
      · have e3 : ¬ (n = -g) := k
        have : red ([n] ++ [g] ++ [-n]) = [n, g, -n] := by simp [red, act, pu, e3, k2]
        rw [this]
        refine ⟨[n], g, hg, rfl, ?_⟩
        rw [← this]; exact Re.red _
  | cons m u =>
    have ez : w = [m] ++ (u ++ [g] ++ opp u) ++ [-m] := by rw [e, opp_cons]; simp
    have hz : Re (u ++ [g] ++ opp u) := by rw [ez] at hr; exact hr.inner
    by_cases k : n = -m
    · subst k
      have : red ([-m] ++ w ++ [- -m]) = u ++ [g] ++ opp u := by
        rw [ez]
        have e1 : [-m] ++ ([m] ++ (u ++ [g] ++ opp u) ++ [-m]) ++ [- -m] = [-m, m] ++ (u ++ [g] ++ opp u) ++ [-m, m] := by simp
        rw [e1]
        unfold red
        rw [act_app, act_app]
        have e2 : act [] [-m, m] = [] := by simp [act, pu]
        rw [e2, act_self hz]
        have e3 : act (u ++ [g] ++ opp u).reverse [-m, m] = (u ++ [g] ++ opp u).reverse := by
          show pu m (pu (-m) _) = _
          exact pu_pu' hz.rev m
        rw [e3, List.reverse_reverse]
      rw [this]
      exact ⟨u, g, hg, rfl, hz⟩
    · have hr2 : Re ([n] ++ w ++ [-n]) := by
        have h1 : Re (n :: w) := by
          rw [ez] at hr ⊢
          exact Re.cons (by simpa using hr) (by omega)
        have h2 : n :: w = (n :: ([m] ++ (u ++ [g] ++ opp u))) ++ [-m] := by rw [ez]; simp
        have h3 := Re.snoc (n := -n) (m := -m) (t := n :: ([m] ++ (u ++ [g] ++ opp u))) (by rw [← h2]; exact h1) (by omega)
        rw [ez]
        simpa using h3
      rw [red_self hr2]
      exact ⟨n :: m :: u, g, hg, by rw [opp_cons, e]; simp, hr2⟩
theorem lone_conj {w : Wd} (h : Lone w) : ∀ l : Wd, Lone (red (l ++ w ++ opp l))
  | [] => by
    have e : ([] : Wd) ++ w ++ opp [] = w := by simp [opp]
    rw [e, red_self h.re]; exact h
  | n :: l => by
    have e : n :: l ++ w ++ opp (n :: l) = [n] ++ (l ++ w ++ opp l) ++ [-n] := by rw [opp_cons]; simp
    rw [e, ← red_red]
    exact lone_conj1 (lone_conj h l) n
/-! ### words that act alike -/
theorem alike_opp {l l' : Wd} (h : ∀ s, Re s → act s l = act s l') {s : Wd} (hs : Re s) : act s (opp l) = act s (opp l') := by
  have e1 : act (act s (opp l)) l = s := act_opp' l hs
  rw [h _ (hs.act _)] at e1
  have e2 := act_opp l' (hs.act (opp l))
  rw [e1] at e2
  exact e2.symm
/-- a word that leads from a to b -/
theorem alike_of {a b l : Wd} (ha : Re a) (e : act a l = b) {s : Wd} (hs : Re s) : act s l = act s (opp a.reverse ++ b.reverse) := by
  have e1 : act s l = act s (opp a.reverse ++ (a.reverse ++ l)) := by rw [act_app, act_app, act_opp' _ hs]
  rw [e1, act_app, act_app (s := s)]
  rw [← act_red (hs.act _) (a.reverse ++ l)]
  unfold red
  rw [act_app, act_rev ha, e]
/-- over: the stack between -/
theorem over_len {a b c l r : Wd} (ha : Re a) (e1 : act a l = b) (e2 : act b r = c) : (act a (red (l ++ r ++ opp l))).length ≤ a.length + b.length + c.length := by
  have hb : Re b := by rw [← e1]; exact ha.act _
  have hc : Re c := by rw [← e2]; exact hb.act _
  rw [act_red ha, act_app, act_app, e1, e2, alike_opp (fun s hs => alike_of ha e1 hs) hc, opp_app, opp_opp]
  have := act_len c (opp b.reverse ++ a.reverse)
  rw [List.length_append, opp_len, List.length_reverse, List.length_reverse] at this
  omega
theorem under_len {a b c l r : Wd} (ha : Re a) (e1 : act a l = b) (e2 : act b r = c) : (act a r).length ≤ a.length + b.length + c.length := by
  have hb : Re b := by rw [← e1]; exact ha.act _
  rw [alike_of hb e2 ha]
  have := act_len a (opp b.reverse ++ c.reverse)
  rw [List.length_append, opp_len, List.length_reverse, List.length_reverse] at this
  omega
theorem word_len {a b l : Wd} (ha : Re a) (hl : Re l) (e1 : act a l = b) : l.length ≤ a.length + b.length := by
  have h1 := alike_of ha e1 Re.nil
  have h2 := act_len [] (opp a.reverse ++ b.reverse)
  rw [← h1, act_self hl, List.length_append, opp_len, List.length_reverse, List.length_reverse, List.length_reverse] at h2
  simpa using h2
end K60m

/-! K60n: rows of words, and their lengths. -/
namespace K60m
def cr (ov : Bool) (l r : Wd) : Wd × Wd := if ov = true then (red (l ++ r ++ opp l), l) else (r, red (opp r ++ l ++ r))
theorem cr_act {a : Wd} (ha : Re a) (ov : Bool) (l r : Wd) : act (act a (cr ov l r).1) (cr ov l r).2 = act (act a l) r := by
  cases ov with
  | true =>
    show act (act a (red (l ++ r ++ opp l))) l = _
    rw [act_red ha, act_app, act_app, act_opp' _ ((ha.act _).act _)]
  | false =>
    show act (act a r) (red (opp r ++ l ++ r)) = _
    rw [act_red (ha.act _), act_app, act_app, act_opp _ ha]
theorem cr_len {a b c l r : Wd} (ha : Re a) (e1 : act a l = b) (e2 : act b r = c) (ov : Bool) : (act a (cr ov l r).1).length ≤ a.length + b.length + c.length := by
  cases ov with
  | true => exact over_len ha e1 e2
  | false => exact under_len ha e1 e2
theorem cr_lone {l r : Wd} (hl : Lone l) (hr : Lone r) (ov : Bool) : Lone (cr ov l r).1 ∧ Lone (cr ov l r).2 := by
  cases ov with
  | true => exact ⟨lone_conj hr l, hl⟩
  | false =>
    refine ⟨hr, ?_⟩
    have := lone_conj hl (opp r)
    rw [opp_opp] at this
    exact this
def stepV (v : List Nat) (p : Nat) : List Nat := v.set (p + 1) (v.getD p 0 + v.getD (p + 1) 0 + v.getD (p + 2) 0)
def init (n : Nat) : Wd := (List.range n).map fun (k : Nat) => ((k : Int) + 1)
structure RowOk (n : Nat) (row : List Wd) (v : List Nat) : Prop where
  len : row.length = n
  lone : ∀ w ∈ row, Lone w
  prod : act [] row.flatten = (init n).reverse
  vl : v.length = 7
  le : ∀ j, j ≤ n → (act [] (row.take j).flatten).length ≤ v.getD j 0
theorem getD_set {v : List Nat} {i j x : Nat} (h : i < v.length) : (v.set i x).getD j 0 = if j = i then x else v.getD j 0 := by
  simp only [List.getD_eq_getElem?_getD]
  by_cases e : j = i
  · subst e
    rw [List.getElem?_set_self h, if_pos rfl]
    rfl
  · rw [List.getElem?_set_ne (fun q => e q.symm), if_neg e]
theorem RowOk.step {n : Nat} {A B : List Wd} {l r : Wd} {v : List Nat} (h : RowOk n (A ++ l :: r :: B) v) (hn : n ≤ 6) (ov : Bool) : RowOk n (A ++ (cr ov l r).1 :: (cr ov l r).2 :: B) (stepV v A.length) := by
  have hlen := h.len
  simp only [List.length_append, List.length_cons] at hlen
  have hvl := h.vl
  have hl := h.lone l (by simp)
  have hr := h.lone r (by simp)
  obtain ⟨k1, k2⟩ := cr_lone hl hr ov
  have ha : Re (act [] A.flatten) := Re.nil.act _
  refine ⟨by simpa using h.len, fun w hw => ?_, ?_, by unfold stepV; rw [List.length_set]; exact hvl, fun j hj => ?_⟩
  · rcases List.mem_append.mp hw with q | q
    · exact h.lone w (List.mem_append_left _ q)
    · rcases List.mem_cons.mp q with q | q
      · rw [q]; exact k1
      · rcases List.mem_cons.mp q with q | q
        · rw [q]; exact k2
        · exact h.lone w (by simp [q])
  · rw [← h.prod]
    simp only [List.flatten_append, List.flatten_cons, act_app]
    rw [cr_act ha]
  · have hp : A.length + 1 < v.length := by omega
    unfold stepV
    rw [getD_set hp]
    by_cases j1 : j ≤ A.length
    · rw [if_neg (by omega)]
      have e1 : (A ++ (cr ov l r).1 :: (cr ov l r).2 :: B).take j = A.take j := by rw [List.take_append_of_le_length j1]
      have e2 : (A ++ l :: r :: B).take j = A.take j := by rw [List.take_append_of_le_length j1]
      have := h.le j hj
      rw [e2] at this
      rw [e1]
      exact this
    · obtain ⟨i, rfl⟩ : ∃ i, j = A.length + (i + 1) := ⟨j - A.length - 1, by omega⟩
      have e1 : ∀ x y : Wd, (A ++ x :: y :: B).take (A.length + (i + 1)) = A ++ x :: (y :: B).take i := fun x y => by
        rw [List.take_append, List.take_of_length_le (by omega), Nat.add_sub_cancel_left, List.take_succ_cons]
      rw [e1]
      cases i with
      | zero =>
        rw [if_pos rfl]
        have q0 := h.le A.length (by omega)
        have q1 := h.le (A.length + 1) (by omega)
        have q2 := h.le (A.length + 2) (by omega)
        rw [List.take_append_of_le_length (Nat.le_refl _), List.take_length] at q0
        have e2 : (A ++ l :: r :: B).take (A.length + 1) = A ++ [l] := by rw [List.take_append, List.take_of_length_le (by omega), Nat.add_sub_cancel_left]; rfl
        have e3 : (A ++ l :: r :: B).take (A.length + 2) = A ++ [l, r] := by rw [List.take_append, List.take_of_length_le (by omega), Nat.add_sub_cancel_left]; rfl
        rw [e2] at q1
        rw [e3] at q2
        simp only [List.take_zero, List.flatten_append, List.flatten_cons, List.flatten_nil, List.append_nil, act_app] at q1 q2 ⊢
        have := cr_len ha (b := act (act [] A.flatten) l) (c := act (act (act [] A.flatten) l) r) rfl rfl ov
        omega
      | succ i =>
        rw [if_neg (by omega)]
        have q := h.le (A.length + (i + 1 + 1)) hj
        rw [e1] at q
        rw [List.take_succ_cons] at q ⊢
        simp only [List.flatten_append, List.flatten_cons, act_app] at q ⊢
        rw [cr_act ha]
        exact q
/-- the words of a row are short -/
theorem RowOk.words {n : Nat} {A B : List Wd} {l : Wd} {v : List Nat} (h : RowOk n (A ++ l :: B) v) : l.length ≤ v.getD A.length 0 + v.getD (A.length + 1) 0 := by
  have hlen := h.len
  simp only [List.length_append, List.length_cons] at hlen
  have hl := (h.lone l (by simp)).re
  have q0 := h.le A.length (by omega)
  have q1 := h.le (A.length + 1) (by omega)
  rw [List.take_append_of_le_length (Nat.le_refl _), List.take_length] at q0
  have e2 : (A ++ l :: B).take (A.length + 1) = A ++ [l] := by rw [List.take_append, List.take_of_length_le (by omega), Nat.add_sub_cancel_left]; rfl
  rw [e2] at q1
  simp only [List.flatten_append, List.flatten_cons, List.flatten_nil, List.append_nil, act_app] at q1
  have := word_len (Re.nil.act A.flatten) hl rfl
  omega
theorem sum7 {v : List Nat} (h : v.length = 7) : ∃ a b c d e f g, v = [a, b, c, d, e, f, g] := by
  match v, h with
  | [a, b, c, d, e, f, g], _ => exact ⟨a, b, c, d, e, f, g, rfl⟩
theorem three_le {v : List Nat} (h : v.length = 7) (p : Nat) : v.getD p 0 + v.getD (p + 1) 0 + v.getD (p + 2) 0 ≤ v.sum := by
  obtain ⟨a, b, c, d, e, f, g, rfl⟩ := sum7 h
  match p with
  | 0 => simp; omega
  | 1 => simp; omega
  | 2 => simp; omega
  | 3 => simp; omega
  | 4 => simp; omega
  | 5 => simp; omega
  | 6 => simp; omega
  | p + 7 => simp
theorem stepV_sum {v : List Nat} (h : v.length = 7) {p : Nat} (hp : p < 5) : (stepV v p).sum ≤ 2 * v.sum := by
  obtain ⟨a, b, c, d, e, f, g, rfl⟩ := sum7 h
  match p, hp with
  | 0, _ => simp [stepV]; omega
  | 1, _ => simp [stepV]; omega
  | 2, _ => simp [stepV]; omega
  | 3, _ => simp [stepV]; omega
  | 4, _ => simp [stepV]; omega
def chk : Nat → List Nat → Bool
  | 0, v => decide (v.sum ≤ 317)
  | k + 1, v => decide (v.sum ≤ 317) && (List.range 5).all fun p => chk k (stepV v p)
theorem chk6 : chk 6 [0, 1, 2, 3, 4, 5, 6] = true := by decide +kernel
theorem chk_ok : ∀ (k : Nat) (v : List Nat) (ps : List Nat), chk k v = true → (∀ p ∈ ps, p < 5) → ps.length ≤ k → (ps.foldl stepV v).sum ≤ 317
  | 0, v, [], h, _, _ => of_decide_eq_true h
  | 0, v, p :: ps, _, _, h => absurd h (by simp)
  | k + 1, v, [], h, _, _ => by
    unfold chk at h
    rw [Bool.and_eq_true] at h
    exact of_decide_eq_true h.1
  | k + 1, v, p :: ps, h, hp, hl => by
    unfold chk at h
    rw [Bool.and_eq_true, List.all_eq_true] at h
    exact chk_ok k _ ps (h.2 p (List.mem_range.mpr (hp p (by simp)))) (fun q hq => hp q (by simp [hq])) (by simpa using hl)
theorem stepV_len {v : List Nat} (p : Nat) : (stepV v p).length = v.length := by unfold stepV; rw [List.length_set]
theorem fold_len : ∀ (ps : List Nat) (v : List Nat), (ps.foldl stepV v).length = v.length
  | [], v => rfl
  | p :: ps, v => by rw [List.foldl_cons, fold_len ps, stepV_len]
theorem grow_le : ∀ (ps : List Nat) (v : List Nat), v.length = 7 → (∀ p ∈ ps, p < 5) → (ps.foldl stepV v).sum ≤ 2 ^ ps.length * v.sum
  | [], v, _, _ => by simp
  | p :: ps, v, h, hp => by
    have h1 := grow_le ps (stepV v p) (by rw [stepV_len]; exact h) (fun q hq => hp q (by simp [hq]))
    have h2 := stepV_sum h (hp p (by simp))
    rw [List.foldl_cons, List.length_cons, Nat.pow_succ]
    have h3 := Nat.mul_le_mul_left (2 ^ ps.length) h2
    rw [← Nat.mul_assoc] at h3
    omega
theorem sum_le {ps : List Nat} (hp : ∀ p ∈ ps, p < 5) (hl : ps.length ≤ 20) : (ps.foldl stepV [0, 1, 2, 3, 4, 5, 6]).sum ≤ 5193728 := by
  rw [← List.take_append_drop 6 ps, List.foldl_append]
  have h1 := chk_ok 6 _ (ps.take 6) chk6 (fun p h => hp p (List.mem_of_mem_take h)) (by rw [List.length_take]; omega)
  have h2 := grow_le (ps.drop 6) ((ps.take 6).foldl stepV [0, 1, 2, 3, 4, 5, 6]) (by rw [fold_len]; rfl) (fun p h => hp p (List.mem_of_mem_drop h))
  have h3 : (ps.drop 6).length ≤ 14 := by rw [List.length_drop]; omega
  have h4 : 2 ^ (ps.drop 6).length ≤ 2 ^ 14 := Nat.pow_le_pow_right (by decide) h3
  have h5 := Nat.mul_le_mul h4 h1
  omega
theorem init_re (n : Nat) : Re (init n) := fun x a b y e => by
  have h1 : a ∈ init n := by rw [e]; simp
  have h2 : b ∈ init n := by rw [e]; simp
  unfold init at h1 h2
  obtain ⟨k, _, rfl⟩ := List.mem_map.mp h1
  obtain ⟨j, _, rfl⟩ := List.mem_map.mp h2
  omega
def row0 (n : Nat) : List Wd := (List.range n).map fun (k : Nat) => [((k : Int) + 1)]
theorem map_flat {α β : Type} (f : α → β) (xs : List α) : (xs.map fun k => [f k]).flatten = xs.map f := by
  induction xs with
  | nil => rfl
  | cons x xs ih => rw [List.map_cons, List.flatten_cons, ih]; rfl
theorem row0_flat (n : Nat) : (row0 n).flatten = init n := map_flat (fun (k : Nat) => ((k : Int) + 1)) _
theorem flat_ones (xs : List Nat) : ((xs.map fun (k : Nat) => [((k : Int) + 1)]).flatten).length = xs.length := by
  induction xs with
  | nil => rfl
  | cons x xs ih => simp only [List.map_cons, List.flatten_cons, List.length_append, ih, List.length_cons, List.length_nil]; omega
theorem RowOk.start {n : Nat} (hn : n ≤ 6) : RowOk n (row0 n) [0, 1, 2, 3, 4, 5, 6] := by
  refine ⟨by simp [row0], fun w hw => ?_, ?_, rfl, fun j hj => ?_⟩
  · obtain ⟨k, _, rfl⟩ := List.mem_map.mp hw
    exact lone_one (by omega)
  · rw [row0_flat, act_self (init_re n)]
  · have h1 := act_len [] ((row0 n).take j).flatten
    have h2 : ((row0 n).take j).flatten.length = j := by
      unfold row0
      rw [← List.map_take, flat_ones, List.length_take, List.length_range]
      omega
    have h3 : [0, 1, 2, 3, 4, 5, 6].getD j 0 = j := by
      have : j ≤ 6 := by omega
      match j, this with
      | 0, _ => rfl
      | 1, _ => rfl
      | 2, _ => rfl
      | 3, _ => rfl
      | 4, _ => rfl
      | 5, _ => rfl
      | 6, _ => rfl
    rw [h3]
    simpa [h2] using h1
/-- each beginning of the row's letters comes to a short stack -/
theorem RowOk.pre {n : Nat} {row : List Wd} {v : List Nat} (h : RowOk n row v) {u z : Wd} (e : row.flatten = u ++ z) : (act [] u).length ≤ 3 * v.sum := by
  have key : ∀ (B A : List Wd), row = A ++ B → ∀ u z : Wd, B.flatten = u ++ z → (act (act [] A.flatten) u).length ≤ 3 * v.sum := by
    intro B
    induction B with
    | nil =>
      intro A eA u z e
      have : u = [] := by
        cases u with
        | nil => rfl
        | cons x u => cases e
      subst this
      have q := h.le A.length (by rw [← h.len, eA]; simp)
      rw [eA, List.append_nil, List.take_length] at q
      have := three_le h.vl A.length
      rw [act_nil]
      omega
    | cons w B ih =>
      intro A eA u z e
      rw [List.flatten_cons] at e
      rcases List.append_eq_append_iff.mp e with ⟨c, e1, e2⟩ | ⟨c, e1, e2⟩
      · have := ih (A ++ [w]) (by rw [eA]; simp) c z e2
        rw [List.flatten_append, act_app] at this
        rw [e1, act_app]
        simpa using this
      · have hw := RowOk.words (A := A) (l := w) (B := B) (by rw [← eA]; exact h)
        have q := h.le A.length (by rw [← h.len, eA]; simp)
        rw [eA, List.take_append_of_le_length (Nat.le_refl _), List.take_length] at q
        have h1 := act_len (act [] A.flatten) u
        have h2 : u.length ≤ w.length := by rw [e1]; simp
        have := three_le h.vl A.length
        omega
  exact key row [] rfl u z e
end K60m

/-! K60a: printed by gen.py. -/
namespace K60a
open PySem PySem.Spec PyProof.Rows L2 Sw
def top (i : Nat) : Stmt := PySem.Challenge.pw_slidewires_k60_words_on_wires.main.body.getD i (.Pass ⟨0, 0, 0, 0⟩)
def frees : List Str := ["range", "int", "all", "len", "tuple", "list", "isinstance", "bool", "reversed"]
theorem fr_range {mg : Str → Option Value} (h : Fre mg frees) : mg "range" = none := h _ (by decide +kernel)
theorem fr_int {mg : Str → Option Value} (h : Fre mg frees) : mg "int" = none := h _ (by decide +kernel)
theorem fr_all {mg : Str → Option Value} (h : Fre mg frees) : mg "all" = none := h _ (by decide +kernel)
theorem fr_len {mg : Str → Option Value} (h : Fre mg frees) : mg "len" = none := h _ (by decide +kernel)
theorem fr_tuple {mg : Str → Option Value} (h : Fre mg frees) : mg "tuple" = none := h _ (by decide +kernel)
theorem fr_list {mg : Str → Option Value} (h : Fre mg frees) : mg "list" = none := h _ (by decide +kernel)
theorem fr_isinstance {mg : Str → Option Value} (h : Fre mg frees) : mg "isinstance" = none := h _ (by decide +kernel)
theorem fr_bool {mg : Str → Option Value} (h : Fre mg frees) : mg "bool" = none := h _ (by decide +kernel)
theorem fr_reversed {mg : Str → Option Value} (h : Fre mg frees) : mg "reversed" = none := h _ (by decide +kernel)
/-! _law_draw: level 1; slots 0 _law_deck_here, 1 _law_most, 2 _law_found, 3 _law_mixed -/
abbrev st__law_draw : Stmt := top 8
theorem sc__law_draw : FnScope ["_law_deck_here", "_law_most", "_law_found", "_law_mixed"] ["_law_deck_here", "_law_most"] (defScope st__law_draw) := ⟨rfl, rfl, rfl, by decide +kernel, rfl, by decide +kernel, by decide +kernel⟩
def sv__law_draw : Sv :=
    (sSeq (sIf (asB (eBin oGt (eBin oIx (eVar 0) (eC (.int 0))) (eC (.int 0)))) (sSeq (sAsg 2 (eBin oMod (eBin oIx (eVar 0) (eC (.int 0))) (eVar 1)))
    (sSeq (sPut fSetL 0 (eBin oDiv (eBin oIx (eVar 0) (eC (.int 0))) (eVar 1)) (eC (.int 0)))
    (sRet (eVar 2)))) sNext)
    (sSeq (sPut fSetL 0 (eBin oAdd (eBin oIx (eVar 0) (eC (.int 1))) (eC (.int 1))) (eC (.int 1)))
    (sSeq (sAsg 3 (eBin oMod (eBin oMul (eBin oAdd (eBin oIx (eVar 0) (eC (.int 2))) (eBin oMul (eBin oMul (eC (.int 7919)) (eBin oIx (eVar 0) (eC (.int 1)))) (eBin oIx (eVar 0) (eC (.int 1))))) (eC (.int 48271))) (eC (.int 2147483647))))
    (sRet (eBin oMod (eBin oDiv (eBin oMod (eBin oMul (eVar 3) (eBin oAdd (eVar 3) (eC (.int 69621)))) (eC (.int 2147483629))) (eC (.int 8))) (eVar 1))))))
def fn__law_draw : Fn := mkFn 4 2 [] sv__law_draw
theorem h__law_draw {P : Program} {w : World} {K : PySem.W.Frag} {mg : Str → Option Value} {base : Heap} (fr : Fre mg frees) (D : Dfn K mg "_law_draw" st__law_draw) : Has P w K mg base 1 "_law_draw" ["_law_deck_here", "_law_most"] fn__law_draw :=
  has_of (N := ["_law_deck_here", "_law_most", "_law_found", "_law_mixed"]) (k := 0) (A := [2, 3]) (B := []) (sv := sv__law_draw) D sc__law_draw (by decide) (fun _ _ _ _ _ _ us hl => match us, hl with | [_, _], _ => rfl)
    fun X W e1 e2 e3 e4 e5 eN eS eF e9 e10 e11 S TK PO => by
    subst e1 e2 e3 e4 e5
    have nd := sc__law_draw.nd
    exact (ss_cons (sp_if (st_cmp op_gt sp_gt (se_ix (zv eN eS 0) se_int (by intro _ _; rfl)) se_int (by rfl)) (ss_cons (zs eN eS eF nd 2 (se_bin op_mod sp_mod (se_ix (zv eN eS 0) se_int (by intro _ _; rfl)) (zv eN eS 1)))
      (ss_cons (sp_put set_list sp_setL (se_fz (se_bin op_fdivW sp_div (se_ix (zv eN eS 0) se_int (by intro _ _; rfl)) (zv eN eS 1))) (zv eN eS 0) se_int)
      (ss_one (sp_ret (zv eN eS 2))))) ss_nil)
      (ss_cons (sp_put set_list sp_setL (se_fz (se_bin op_addM sp_add (se_ix (zv eN eS 0) se_int (by intro _ _; rfl)) se_int)) (zv eN eS 0) se_int)
      (ss_cons (zs eN eS eF nd 3 (se_bin op_mod sp_mod (se_bin op_mulM sp_mul (se_bin op_addM sp_add (se_ix (zv eN eS 0) se_int (by intro _ _; rfl)) (se_bin op_mulM sp_mul (se_bin op_mulM sp_mul se_int (se_ix (zv eN eS 0) se_int (by intro _ _; rfl))) (se_ix (zv eN eS 0) se_int (by intro _ _; rfl)))) se_int) se_int))
      (ss_one (sp_ret (se_bin op_mod sp_mod (se_bin op_fdivW sp_div (se_bin op_mod sp_mod (se_bin op_mulM sp_mul (zv eN eS 3) (se_bin op_addM sp_add (zv eN eS 3) se_int)) se_int) se_int) (zv eN eS 1)))))))
/-! _law_braid: level 2; slots 0 _law_deck_here, 1 _law_kit_here, 2 _law_many, 3 _law_most, 4 _law_above, 5 _law_layers, 6 _law_k, 7 _law_place, 8 _law_step, 9 _law_next_one -/
abbrev st__law_braid : Stmt := top 15
theorem sc__law_braid : FnScope ["_law_deck_here", "_law_kit_here", "_law_many", "_law_most", "_law_above", "_law_layers", "_law_k", "_law_place", "_law_step", "_law_next_one"] ["_law_deck_here", "_law_kit_here", "_law_many", "_law_most"] (defScope st__law_braid) := ⟨rfl, rfl, rfl, by decide +kernel, rfl, by decide +kernel, by decide +kernel⟩
def e__law_braid_0 : Ev :=
    (eBin oIx (eBin oIx (eVar 1) (eC (.int 1))) (eCall fn__law_draw [(eVar 0), (eCB oLen (aCons (eBin oIx (eVar 1) (eC (.int 1))) aNil))]))
def b__law_braid_1 : Sv :=
    (sSeq (sAsg 7 (eCall fn__law_draw [(eVar 0), (eBin oSub (eVar 2) (eC (.int 1)))]))
    (sSeq (sAsg 8 (eTup [(eBin oIx (eLst [(eC (.str "over")), (eC (.str "under"))]) (eCall fn__law_draw [(eVar 0), (eC (.int 2))]))]))
    (sSeq (sDrop (eMut isOl fAppend 5 [eFz (eTup [(eVar 7), (eVar 8)])]))
    (sIf (cAnd (asB (eBin oEq (eCall fn__law_draw [(eVar 0), (eC (.int 4))]) (eC (.int 1)))) (asB (eBin oGt (eVar 2) (eC (.int 2))))) (sSeq (sAsg 9 (eBin oSub (eBin oAdd (eVar 7) (eC (.int 1))) (eBin oMul (eC (.int 2)) (eCB oInt (aCons (eBin oEq (eVar 7) (eBin oSub (eVar 2) (eC (.int 2)))) aNil)))))
    (sAsg 5 (eBin oAdd (eVar 5) (eLst [(eTup [(eVar 9), (eTup [(eBin oIx (eLst [(eC (.str "over")), (eC (.str "under"))]) (eCall fn__law_draw [(eVar 0), (eC (.int 2))]))])]), (eTup [(eVar 7), (eVar 8)])])))) sNext))))
def sv__law_braid : Sv :=
    (sSeq (sAsg 4 (eCB oTuple (aCons (eComp (iArgs range1 [(eVar 2)]) [6] (bNm 6) cYes e__law_braid_0) aNil)))
    (sSeq (sAsg 5 (eLst []))
    (sSeq (sFor (iArgs range1 [(eBin oMul (eCall fn__law_draw [(eVar 0), (eBin oAdd (eVar 3) (eC (.int 1)))]) (eCB oInt (aCons (eBin oGt (eVar 2) (eC (.int 1))) aNil)))]) (bNm 6) b__law_braid_1)
    (sRet (eTup [(eVar 4), (eCB oTuple (aCons (eSl pNone (pSome (eC (.int 20))) (eVar 5)) aNil))])))))
def fn__law_braid : Fn := mkFn 10 4 [] sv__law_braid
theorem h__law_braid {P : Program} {w : World} {K : PySem.W.Frag} {mg : Str → Option Value} {base : Heap} (fr : Fre mg frees) (D : Dfn K mg "_law_braid" st__law_braid) (c__law_draw : Has P w K mg base 1 "_law_draw" ["_law_deck_here", "_law_most"] fn__law_draw) : Has P w K mg base 2 "_law_braid" ["_law_deck_here", "_law_kit_here", "_law_many", "_law_most"] fn__law_braid :=
  has_of (N := ["_law_deck_here", "_law_kit_here", "_law_many", "_law_most", "_law_above", "_law_layers", "_law_k", "_law_place", "_law_step", "_law_next_one"]) (k := 1) (A := [4, 5, 6, 7, 8, 9]) (B := []) (sv := sv__law_braid) D sc__law_braid (by decide) (fun _ _ _ _ _ _ us hl => match us, hl with | [_, _, _, _], _ => rfl)
    fun X W e1 e2 e3 e4 e5 eN eS eF e9 e10 e11 S TK PO => by
    subst e1 e2 e3 e4 e5
    have nd := sc__law_braid.nd
    exact (ss_cons (zs eN eS eF nd 4 (se_callTy call_tuple_of sp_tuple (zg eS) (fr_tuple fr) PyProof.Rows.boot_tuple (sa_cons (se_lc S.calm (znd eN nd) (si_range1 (zg eS) (fr_range fr) (sf_cons (zv eN eS 2) sf_nil)) (zb (own := [("_law_k", 6)]) eN eS ⟨rfl, by decide +kernel, by decide +kernel, by decide +kernel, by decide +kernel⟩) (fun s0 H0 C0 cl0 fp0 => (zcb (X := X) eN nd 6)) (fun s0 H0 C0 cl0 fp0 => sts_nil) (fun s0 H0 C0 cl0 fp0 => (se_ix (se_ix (zvb (X := X) eN 1) se_int (by intro _ _; rfl)) (se_call (S.blk s0 H0 _ _ fp0) (c__law_draw.mono (by decide)) (zgb X s0 H0 _ cl0 C0 fp0) (sl_cons (zvb (X := X) eN 0) (sl_cons (se_callB call_len sp_len (zgb X s0 H0 _ cl0 C0 fp0) (fr_len fr) PySem.boot_len (sa_cons (se_ix (zvb (X := X) eN 1) se_int (by intro _ _; rfl)) sa_nil)) sl_nil))) (by intro _ _; rfl)))) sa_nil)))
      (ss_cons (zs eN eS eF nd 5 (se_lst sf_nil))
      (ss_cons (sp_for PO S.calm (si_range1 (zg eS) (fr_range fr) (sf_cons (se_bin op_mulM sp_mul (se_call S (c__law_draw.mono (by decide)) (zg eS) (sl_cons (zv eN eS 0) (sl_cons (se_bin op_addM sp_add (zv eN eS 3) se_int) sl_nil))) (se_callTy call_int1 sp_int (zg eS) (fr_int fr) PyProof.Rows.boot_int (sa_cons (se_cmp op_gt sp_gt (zv eN eS 2) se_int (by rfl)) sa_nil))) sf_nil)) (zt eN eS eF nd 6) (ss_cons (zs eN eS eF nd 7 (se_call S (c__law_draw.mono (by decide)) (zg eS) (sl_cons (zv eN eS 0) (sl_cons (se_bin op_sub sp_sub (zv eN eS 2) se_int) sl_nil))))
      (ss_cons (zs eN eS eF nd 8 (se_tup (sf_cons (se_ix (se_lst (sf_cons (se_str ⟨by decide +kernel, by decide +kernel⟩) (sf_cons (se_str ⟨by decide +kernel, by decide +kernel⟩) sf_nil))) (se_call S (c__law_draw.mono (by decide)) (zg eS) (sl_cons (zv eN eS 0) (sl_cons se_int sl_nil))) (by intro _ _; rfl)) sf_nil)))
      (ss_cons (sp_expr (se_mut PySem.F.plainAttrs_list PySem.F.slot_list_append PySem.F.type_list_append mt_append sp_append (zv eN eS 5) (sl_cons (se_fz (se_tup (sf_cons (zv eN eS 7) (sf_cons (zv eN eS 8) sf_nil)))) sl_nil)))
      (ss_one (sp_if (PW.pt (sw_and (st_cmp (op_eqM S.hu) sp_eq (se_call S (c__law_draw.mono (by decide)) (zg eS) (sl_cons (zv eN eS 0) (sl_cons se_int sl_nil))) se_int (by rfl)) (sw_and1 (st_cmp op_gt sp_gt (zv eN eS 2) se_int (by rfl))))) (ss_cons (zs eN eS eF nd 9 (se_bin op_sub sp_sub (se_bin op_addM sp_add (zv eN eS 7) se_int) (se_bin op_mulM sp_mul se_int (se_callTy call_int1 sp_int (zg eS) (fr_int fr) PyProof.Rows.boot_int (sa_cons (se_cmp (op_eqM S.hu) sp_eq (zv eN eS 7) (se_bin op_sub sp_sub (zv eN eS 2) se_int) (by rfl)) sa_nil)))))
      (ss_one (zs eN eS eF nd 5 (se_bin op_addM sp_add (zv eN eS 5) (se_lst (sf_cons (se_tup (sf_cons (zv eN eS 9) (sf_cons (se_tup (sf_cons (se_ix (se_lst (sf_cons (se_str ⟨by decide +kernel, by decide +kernel⟩) (sf_cons (se_str ⟨by decide +kernel, by decide +kernel⟩) sf_nil))) (se_call S (c__law_draw.mono (by decide)) (zg eS) (sl_cons (zv eN eS 0) (sl_cons se_int sl_nil))) (by intro _ _; rfl)) sf_nil)) sf_nil))) (sf_cons (se_tup (sf_cons (zv eN eS 7) (sf_cons (zv eN eS 8) sf_nil))) sf_nil))))))) ss_nil))))))
      (ss_one (sp_ret (se_tup (sf_cons (zv eN eS 4) (sf_cons (se_callTy call_tuple_of sp_tuple (zg eS) (fr_tuple fr) PyProof.Rows.boot_tuple (sa_cons (se_sl (zv eN eS 5) so_none (so_some se_int)) sa_nil)) sf_nil))))))))
/-! _law_deck: level 1; slots 0 _law_cell -/
abbrev st__law_deck : Stmt := top 7
theorem sc__law_deck : FnScope ["_law_cell"] ["_law_cell"] (defScope st__law_deck) := ⟨rfl, rfl, rfl, by decide +kernel, rfl, by decide +kernel, by decide +kernel⟩
def sv__law_deck : Sv :=
    (sSeq (sIf (asB (eBin oLt (eVar 0) (eBin oPow (eC (.int 10)) (eC (.int 18))))) (sRet (eLst [(eC (.int 0)), (eC (.int 0)), (eBin oMod (eVar 0) (eC (.int 2147483647)))])) sNext)
    (sRet (eLst [(eVar 0), (eC (.int 0)), (eBin oMod (eVar 0) (eC (.int 2147483647)))])))
def fn__law_deck : Fn := mkFn 1 1 [] sv__law_deck
theorem h__law_deck {P : Program} {w : World} {K : PySem.W.Frag} {mg : Str → Option Value} {base : Heap} (fr : Fre mg frees) (D : Dfn K mg "_law_deck" st__law_deck) : Has P w K mg base 1 "_law_deck" ["_law_cell"] fn__law_deck :=
  has_of (N := ["_law_cell"]) (k := 0) (A := []) (B := []) (sv := sv__law_deck) D sc__law_deck (by decide) (fun _ _ _ _ _ _ us hl => match us, hl with | [_], _ => rfl)
    fun X W e1 e2 e3 e4 e5 eN eS eF e9 e10 e11 S TK PO => by
    subst e1 e2 e3 e4 e5
    have nd := sc__law_deck.nd
    exact (ss_cons (sp_if (st_cmp op_lt sp_lt (zv eN eS 0) (se_bin op_pow sp_pow se_int se_int) (by rfl)) (ss_one (sp_ret (se_lst (sf_cons se_int (sf_cons se_int (sf_cons (se_bin op_mod sp_mod (zv eN eS 0) se_int) sf_nil)))))) ss_nil)
      (ss_one (sp_ret (se_lst (sf_cons (zv eN eS 0) (sf_cons se_int (sf_cons (se_bin op_mod sp_mod (zv eN eS 0) se_int) sf_nil)))))))
/-! _law_cell_at: level 1; slots 0 _law_script, 1 _law_k -/
abbrev st__law_cell_at : Stmt := top 6
theorem sc__law_cell_at : FnScope ["_law_script", "_law_k"] ["_law_script", "_law_k"] (defScope st__law_cell_at) := ⟨rfl, rfl, rfl, by decide +kernel, rfl, by decide +kernel, by decide +kernel⟩
def sv__law_cell_at : Sv :=
    (sSeq (sIf (asB (eBin oLt (eVar 1) (eCB oLen (aCons (eVar 0) aNil)))) (sRet (eBin oIx (eVar 0) (eVar 1))) sNext)
    (sRet (eC (.int 0))))
def fn__law_cell_at : Fn := mkFn 2 2 [] sv__law_cell_at
theorem h__law_cell_at {P : Program} {w : World} {K : PySem.W.Frag} {mg : Str → Option Value} {base : Heap} (fr : Fre mg frees) (D : Dfn K mg "_law_cell_at" st__law_cell_at) : Has P w K mg base 1 "_law_cell_at" ["_law_script", "_law_k"] fn__law_cell_at :=
  has_of (N := ["_law_script", "_law_k"]) (k := 0) (A := []) (B := []) (sv := sv__law_cell_at) D sc__law_cell_at (by decide) (fun _ _ _ _ _ _ us hl => match us, hl with | [_, _], _ => rfl)
    fun X W e1 e2 e3 e4 e5 eN eS eF e9 e10 e11 S TK PO => by
    subst e1 e2 e3 e4 e5
    have nd := sc__law_cell_at.nd
    exact (ss_cons (sp_if (st_cmp op_lt sp_lt (zv eN eS 1) (se_callB call_len sp_len (zg eS) (fr_len fr) PySem.boot_len (sa_cons (zv eN eS 0) sa_nil)) (by rfl)) (ss_one (sp_ret (se_ix (zv eN eS 0) (zv eN eS 1) (by intro _ _; rfl)))) ss_nil)
      (ss_one (sp_ret se_int)))
/-! _law_deck_at: level 2; slots 0 _law_script, 1 _law_k, 2 _law_cell -/
abbrev st__law_deck_at : Stmt := top 11
theorem sc__law_deck_at : FnScope ["_law_script", "_law_k", "_law_cell"] ["_law_script", "_law_k"] (defScope st__law_deck_at) := ⟨rfl, rfl, rfl, by decide +kernel, rfl, by decide +kernel, by decide +kernel⟩
def sv__law_deck_at : Sv :=
    (sSeq (sAsg 2 (eCall fn__law_cell_at [(eVar 0), (eVar 1)]))
    (sSeq (sIf (asB (eBin oLt (eVar 2) (eBin oPow (eC (.int 10)) (eC (.int 18))))) (sRet (eCall fn__law_deck [(eBin oAdd (eBin oMul (eBin oMod (eVar 2) (eC (.int 2147483647))) (eC (.int 69621))) (eBin oMul (eC (.int 7919)) (eVar 1)))])) sNext)
    (sRet (eCall fn__law_deck [(eVar 2)]))))
def fn__law_deck_at : Fn := mkFn 3 2 [] sv__law_deck_at
theorem h__law_deck_at {P : Program} {w : World} {K : PySem.W.Frag} {mg : Str → Option Value} {base : Heap} (fr : Fre mg frees) (D : Dfn K mg "_law_deck_at" st__law_deck_at) (c__law_cell_at : Has P w K mg base 1 "_law_cell_at" ["_law_script", "_law_k"] fn__law_cell_at) (c__law_deck : Has P w K mg base 1 "_law_deck" ["_law_cell"] fn__law_deck) : Has P w K mg base 2 "_law_deck_at" ["_law_script", "_law_k"] fn__law_deck_at :=
  has_of (N := ["_law_script", "_law_k", "_law_cell"]) (k := 1) (A := [2]) (B := []) (sv := sv__law_deck_at) D sc__law_deck_at (by decide) (fun _ _ _ _ _ _ us hl => match us, hl with | [_, _], _ => rfl)
    fun X W e1 e2 e3 e4 e5 eN eS eF e9 e10 e11 S TK PO => by
    subst e1 e2 e3 e4 e5
    have nd := sc__law_deck_at.nd
    exact (ss_cons (zs eN eS eF nd 2 (se_call S (c__law_cell_at.mono (by decide)) (zg eS) (sl_cons (zv eN eS 0) (sl_cons (zv eN eS 1) sl_nil))))
      (ss_cons (sp_if (st_cmp op_lt sp_lt (zv eN eS 2) (se_bin op_pow sp_pow se_int se_int) (by rfl)) (ss_one (sp_ret (se_call S (c__law_deck.mono (by decide)) (zg eS) (sl_cons (se_bin op_addM sp_add (se_bin op_mulM sp_mul (se_bin op_mod sp_mod (zv eN eS 2) se_int) se_int) (se_bin op_mulM sp_mul se_int (zv eN eS 1))) sl_nil)))) ss_nil)
      (ss_one (sp_ret (se_call S (c__law_deck.mono (by decide)) (zg eS) (sl_cons (zv eN eS 2) sl_nil))))))
/-! _law_back: level 1; slots 0 _law_word, 1 _law_number -/
abbrev st__law_back : Stmt := top 13
theorem sc__law_back : FnScope ["_law_word", "_law_number"] ["_law_word"] (defScope st__law_back) := ⟨rfl, rfl, rfl, by decide +kernel, rfl, by decide +kernel, by decide +kernel⟩
def e__law_back_0 : Ev :=
    (eUn oNeg (eVar 1))
def sv__law_back : Sv :=
    (sRet (eComp (iSeq (eUn oRv (eVar 0))) [1] (bNm 1) cYes e__law_back_0))
def fn__law_back : Fn := mkFn 2 1 [] sv__law_back
theorem h__law_back {P : Program} {w : World} {K : PySem.W.Frag} {mg : Str → Option Value} {base : Heap} (fr : Fre mg frees) (D : Dfn K mg "_law_back" st__law_back) : Has P w K mg base 1 "_law_back" ["_law_word"] fn__law_back :=
  has_of (N := ["_law_word", "_law_number"]) (k := 0) (A := []) (B := []) (sv := sv__law_back) D sc__law_back (by decide) (fun _ _ _ _ _ _ us hl => match us, hl with | [_], _ => rfl)
    fun X W e1 e2 e3 e4 e5 eN eS eF e9 e10 e11 S TK PO => by
    subst e1 e2 e3 e4 e5
    have nd := sc__law_back.nd
    exact (ss_one (sp_ret (se_lc S.calm (znd eN nd) (si_seq (se_rv (zv eN eS 0))) (zb (own := [("_law_number", 1)]) eN eS ⟨rfl, by decide +kernel, by decide +kernel, by decide +kernel, by decide +kernel⟩) (fun s0 H0 C0 cl0 fp0 => (zcb (X := X) eN nd 1)) (fun s0 H0 C0 cl0 fp0 => sts_nil) (fun s0 H0 C0 cl0 fp0 => (se_un un_neg sp_neg (zvb (X := X) eN 1))))))
/-! _law_is_lone: level 2; slots 0 _law_word, 1 _law_middle -/
abbrev st__law_is_lone : Stmt := top 16
theorem sc__law_is_lone : FnScope ["_law_word", "_law_middle"] ["_law_word"] (defScope st__law_is_lone) := ⟨rfl, rfl, rfl, by decide +kernel, rfl, by decide +kernel, by decide +kernel⟩
def sv__law_is_lone : Sv :=
    (sSeq (sAsg 1 (eBin oDiv (eCB oLen (aCons (eVar 0) aNil)) (eC (.int 2))))
    (sRet (eAnd (eBin oEq (eBin oMod (eCB oLen (aCons (eVar 0) aNil)) (eC (.int 2))) (eC (.int 1))) (eAnd (eBin oGt (eBin oIx (eVar 0) (eVar 1)) (eC (.int 0))) (eBin oEq (eCB oList (aCons (eSl (pSome (eBin oAdd (eVar 1) (eC (.int 1)))) pNone (eVar 0)) aNil)) (eCall fn__law_back [(eSl pNone (pSome (eVar 1)) (eVar 0))]))))))
def fn__law_is_lone : Fn := mkFn 2 1 [] sv__law_is_lone
theorem h__law_is_lone {P : Program} {w : World} {K : PySem.W.Frag} {mg : Str → Option Value} {base : Heap} (fr : Fre mg frees) (D : Dfn K mg "_law_is_lone" st__law_is_lone) (c__law_back : Has P w K mg base 1 "_law_back" ["_law_word"] fn__law_back) : Has P w K mg base 2 "_law_is_lone" ["_law_word"] fn__law_is_lone :=
  has_of (N := ["_law_word", "_law_middle"]) (k := 1) (A := [1]) (B := []) (sv := sv__law_is_lone) D sc__law_is_lone (by decide) (fun _ _ _ _ _ _ us hl => match us, hl with | [_], _ => rfl)
    fun X W e1 e2 e3 e4 e5 eN eS eF e9 e10 e11 S TK PO => by
    subst e1 e2 e3 e4 e5
    have nd := sc__law_is_lone.nd
    exact (ss_cons (zs eN eS eF nd 1 (se_bin op_fdivW sp_div (se_callB call_len sp_len (zg eS) (fr_len fr) PySem.boot_len (sa_cons (zv eN eS 0) sa_nil)) se_int))
      (ss_one (sp_ret (se_and (se_cmp (op_eqM S.hu) sp_eq (se_bin op_mod sp_mod (se_callB call_len sp_len (zg eS) (fr_len fr) PySem.boot_len (sa_cons (zv eN eS 0) sa_nil)) se_int) se_int (by rfl)) (se_and (se_cmp op_gt sp_gt (se_ix (zv eN eS 0) (zv eN eS 1) (by intro _ _; rfl)) se_int (by rfl)) (se_one (se_cmp (op_eqM S.hu) sp_eq (se_callTy call_list_of sp_list (zg eS) (fr_list fr) PyProof.Rows.boot_list (sa_cons (se_sl (zv eN eS 0) (so_some (se_bin op_addM sp_add (zv eN eS 1) se_int)) so_none) sa_nil)) (se_call S (c__law_back.mono (by decide)) (zg eS) (sl_cons (se_sl (zv eN eS 0) so_none (so_some (zv eN eS 1))) sl_nil)) (by rfl))))))))
/-! _law_feet: level 2; slots 0 _law_deck_here, 1 _law_sorts, 2 _law_great, 3 _law_many, 4 _law_k -/
abbrev st__law_feet : Stmt := top 9
theorem sc__law_feet : FnScope ["_law_deck_here", "_law_sorts", "_law_great", "_law_many", "_law_k"] ["_law_deck_here", "_law_sorts", "_law_great"] (defScope st__law_feet) := ⟨rfl, rfl, rfl, by decide +kernel, rfl, by decide +kernel, by decide +kernel⟩
def e__law_feet_0 : Ev :=
    (eBin oIx (eVar 1) (eCall fn__law_draw [(eVar 0), (eCB oLen (aCons (eVar 1) aNil))]))
def sv__law_feet : Sv :=
    (sSeq (sAsg 3 (eBin oIx (eLst [(eC (.int 0)), (eC (.int 1)), (eC (.int 1)), (eC (.int 2)), (eC (.int 2)), (eC (.int 1)), (eC (.int 3)), (eC (.int 4))]) (eCall fn__law_draw [(eVar 0), (eBin oAdd (eC (.int 6)) (eBin oMul (eC (.int 2)) (eVar 2)))])))
    (sRet (eCB oTuple (aCons (eComp (iArgs range1 [(eVar 3)]) [4] (bNm 4) cYes e__law_feet_0) aNil))))
def fn__law_feet : Fn := mkFn 5 3 [] sv__law_feet
theorem h__law_feet {P : Program} {w : World} {K : PySem.W.Frag} {mg : Str → Option Value} {base : Heap} (fr : Fre mg frees) (D : Dfn K mg "_law_feet" st__law_feet) (c__law_draw : Has P w K mg base 1 "_law_draw" ["_law_deck_here", "_law_most"] fn__law_draw) : Has P w K mg base 2 "_law_feet" ["_law_deck_here", "_law_sorts", "_law_great"] fn__law_feet :=
  has_of (N := ["_law_deck_here", "_law_sorts", "_law_great", "_law_many", "_law_k"]) (k := 1) (A := [3]) (B := []) (sv := sv__law_feet) D sc__law_feet (by decide) (fun _ _ _ _ _ _ us hl => match us, hl with | [_, _, _], _ => rfl)
    fun X W e1 e2 e3 e4 e5 eN eS eF e9 e10 e11 S TK PO => by
    subst e1 e2 e3 e4 e5
    have nd := sc__law_feet.nd
    exact (ss_cons (zs eN eS eF nd 3 (se_ix (se_lst (sf_cons se_int (sf_cons se_int (sf_cons se_int (sf_cons se_int (sf_cons se_int (sf_cons se_int (sf_cons se_int (sf_cons se_int sf_nil))))))))) (se_call S (c__law_draw.mono (by decide)) (zg eS) (sl_cons (zv eN eS 0) (sl_cons (se_bin op_addM sp_add se_int (se_bin op_mulM sp_mul se_int (zv eN eS 2))) sl_nil))) (by intro _ _; rfl)))
      (ss_one (sp_ret (se_callTy call_tuple_of sp_tuple (zg eS) (fr_tuple fr) PyProof.Rows.boot_tuple (sa_cons (se_lc S.calm (znd eN nd) (si_range1 (zg eS) (fr_range fr) (sf_cons (zv eN eS 3) sf_nil)) (zb (own := [("_law_k", 4)]) eN eS ⟨rfl, by decide +kernel, by decide +kernel, by decide +kernel, by decide +kernel⟩) (fun s0 H0 C0 cl0 fp0 => (zcb (X := X) eN nd 4)) (fun s0 H0 C0 cl0 fp0 => sts_nil) (fun s0 H0 C0 cl0 fp0 => (se_ix (zvb (X := X) eN 1) (se_call (S.blk s0 H0 _ _ fp0) (c__law_draw.mono (by decide)) (zgb X s0 H0 _ cl0 C0 fp0) (sl_cons (zvb (X := X) eN 0) (sl_cons (se_callB call_len sp_len (zgb X s0 H0 _ cl0 C0 fp0) (fr_len fr) PySem.boot_len (sa_cons (zvb (X := X) eN 1) sa_nil)) sl_nil))) (by intro _ _; rfl)))) sa_nil)))))
/-! _law_kit: level 3; slots 0 _law_deck_here, 1 _law_manner, 2 _law_great, 3 _law_turn, 4 _law_names, 5 _law_sorts, 6 _law_words_here, 7 _law_boxes, 8 _law_name -/
abbrev st__law_kit : Stmt := top 10
theorem sc__law_kit : FnScope ["_law_deck_here", "_law_manner", "_law_great", "_law_turn", "_law_names", "_law_sorts", "_law_words_here", "_law_boxes", "_law_name"] ["_law_deck_here", "_law_manner"] (defScope st__law_kit) := ⟨rfl, rfl, rfl, by decide +kernel, rfl, by decide +kernel, by decide +kernel⟩
def b__law_kit_0 : Sv :=
    (sDrop (eMut isOl fAppend 7 [eFz (eTup [(eVar 8), (eCall fn__law_feet [(eVar 0), (eVar 5), (eVar 2)]), (eCall fn__law_feet [(eVar 0), (eVar 5), (eVar 2)])])]))
def sv__law_kit : Sv :=
    (sSeq (sAsg 2 (eCB oInt (aCons (eBin oEq (eCall fn__law_draw [(eVar 0), (eC (.int 8))]) (eC (.int 5))) aNil)))
    (sSeq (sAsg 3 (eCall fn__law_draw [(eVar 0), (eC (.int 4))]))
    (sSeq (sAsg 4 (eLst [(eC (.str "a")), (eC (.str "ab")), (eC (.str "b")), (eC (.str "boxa"))]))
    (sSeq (sAsg 5 (eCB oTuple (aCons (eSl pNone (pSome (eBin oIx (eLst [(eC (.int 1)), (eC (.int 1)), (eC (.int 2)), (eC (.int 2)), (eC (.int 3)), (eC (.int 4))]) (eCall fn__law_draw [(eVar 0), (eBin oAdd (eC (.int 5)) (eVar 2))]))) (eBin oAdd (eSl (pSome (eVar 3)) pNone (eVar 4)) (eSl pNone (pSome (eVar 3)) (eVar 4)))) aNil)))
    (sSeq (sAsg 6 (eLst [(eC (.str "f")), (eC (.str "fa")), (eC (.str "cupy")), (eC (.str "g")), (eC (.str "crossed")), (eC (.str "sort")), (eC (.str "overs")), (eC (.str "h"))]))
    (sSeq (sAsg 3 (eCall fn__law_draw [(eVar 0), (eC (.int 8))]))
    (sSeq (sAsg 7 (eLst []))
    (sSeq (sIf (asB (eBin oNe (eVar 1) (eC (.str "braid")))) (sFor (iSeq (eSl pNone (pSome (eBin oAdd (eC (.int 1)) (eCall fn__law_draw [(eVar 0), (eBin oAdd (eC (.int 4)) (eBin oMul (eC (.int 4)) (eVar 2)))]))) (eBin oAdd (eSl (pSome (eVar 3)) pNone (eVar 6)) (eSl pNone (pSome (eVar 3)) (eVar 6))))) (bNm 8) b__law_kit_0) sNext)
    (sRet (eTup [(eVar 1), (eVar 5), (eCB oTuple (aCons (eVar 7) aNil))]))))))))))
def fn__law_kit : Fn := mkFn 9 2 [] sv__law_kit
theorem h__law_kit {P : Program} {w : World} {K : PySem.W.Frag} {mg : Str → Option Value} {base : Heap} (fr : Fre mg frees) (D : Dfn K mg "_law_kit" st__law_kit) (c__law_draw : Has P w K mg base 1 "_law_draw" ["_law_deck_here", "_law_most"] fn__law_draw) (c__law_feet : Has P w K mg base 2 "_law_feet" ["_law_deck_here", "_law_sorts", "_law_great"] fn__law_feet) : Has P w K mg base 3 "_law_kit" ["_law_deck_here", "_law_manner"] fn__law_kit :=
  has_of (N := ["_law_deck_here", "_law_manner", "_law_great", "_law_turn", "_law_names", "_law_sorts", "_law_words_here", "_law_boxes", "_law_name"]) (k := 2) (A := [2, 3, 4, 5, 6, 7, 8]) (B := []) (sv := sv__law_kit) D sc__law_kit (by decide) (fun _ _ _ _ _ _ us hl => match us, hl with | [_, _], _ => rfl)
    fun X W e1 e2 e3 e4 e5 eN eS eF e9 e10 e11 S TK PO => by
    subst e1 e2 e3 e4 e5
    have nd := sc__law_kit.nd
    exact (ss_cons (zs eN eS eF nd 2 (se_callTy call_int1 sp_int (zg eS) (fr_int fr) PyProof.Rows.boot_int (sa_cons (se_cmp (op_eqM S.hu) sp_eq (se_call S (c__law_draw.mono (by decide)) (zg eS) (sl_cons (zv eN eS 0) (sl_cons se_int sl_nil))) se_int (by rfl)) sa_nil)))
      (ss_cons (zs eN eS eF nd 3 (se_call S (c__law_draw.mono (by decide)) (zg eS) (sl_cons (zv eN eS 0) (sl_cons se_int sl_nil))))
      (ss_cons (zs eN eS eF nd 4 (se_lst (sf_cons (se_str ⟨by decide +kernel, by decide +kernel⟩) (sf_cons (se_str ⟨by decide +kernel, by decide +kernel⟩) (sf_cons (se_str ⟨by decide +kernel, by decide +kernel⟩) (sf_cons (se_str ⟨by decide +kernel, by decide +kernel⟩) sf_nil))))))
      (ss_cons (zs eN eS eF nd 5 (se_callTy call_tuple_of sp_tuple (zg eS) (fr_tuple fr) PyProof.Rows.boot_tuple (sa_cons (se_sl (se_bin op_addM sp_add (se_sl (zv eN eS 4) (so_some (zv eN eS 3)) so_none) (se_sl (zv eN eS 4) so_none (so_some (zv eN eS 3)))) so_none (so_some (se_ix (se_lst (sf_cons se_int (sf_cons se_int (sf_cons se_int (sf_cons se_int (sf_cons se_int (sf_cons se_int sf_nil))))))) (se_call S (c__law_draw.mono (by decide)) (zg eS) (sl_cons (zv eN eS 0) (sl_cons (se_bin op_addM sp_add se_int (zv eN eS 2)) sl_nil))) (by intro _ _; rfl)))) sa_nil)))
      (ss_cons (zs eN eS eF nd 6 (se_lst (sf_cons (se_str ⟨by decide +kernel, by decide +kernel⟩) (sf_cons (se_str ⟨by decide +kernel, by decide +kernel⟩) (sf_cons (se_str ⟨by decide +kernel, by decide +kernel⟩) (sf_cons (se_str ⟨by decide +kernel, by decide +kernel⟩) (sf_cons (se_str ⟨by decide +kernel, by decide +kernel⟩) (sf_cons (se_str ⟨by decide +kernel, by decide +kernel⟩) (sf_cons (se_str ⟨by decide +kernel, by decide +kernel⟩) (sf_cons (se_str ⟨by decide +kernel, by decide +kernel⟩) sf_nil))))))))))
      (ss_cons (zs eN eS eF nd 3 (se_call S (c__law_draw.mono (by decide)) (zg eS) (sl_cons (zv eN eS 0) (sl_cons se_int sl_nil))))
      (ss_cons (zs eN eS eF nd 7 (se_lst sf_nil))
      (ss_cons (sp_if (st_cmp (op_neM S.hu) sp_ne (zv eN eS 1) (se_str ⟨by decide +kernel, by decide +kernel⟩) (by rfl)) (ss_one (sp_for PO S.calm (si_seq (se_sl (se_bin op_addM sp_add (se_sl (zv eN eS 6) (so_some (zv eN eS 3)) so_none) (se_sl (zv eN eS 6) so_none (so_some (zv eN eS 3)))) so_none (so_some (se_bin op_addM sp_add se_int (se_call S (c__law_draw.mono (by decide)) (zg eS) (sl_cons (zv eN eS 0) (sl_cons (se_bin op_addM sp_add se_int (se_bin op_mulM sp_mul se_int (zv eN eS 2))) sl_nil))))))) (zt eN eS eF nd 8) (ss_one (sp_expr (se_mut PySem.F.plainAttrs_list PySem.F.slot_list_append PySem.F.type_list_append mt_append sp_append (zv eN eS 7) (sl_cons (se_fz (se_tup (sf_cons (zv eN eS 8) (sf_cons (se_call S (c__law_feet.mono (by decide)) (zg eS) (sl_cons (zv eN eS 0) (sl_cons (zv eN eS 5) (sl_cons (zv eN eS 2) sl_nil)))) (sf_cons (se_call S (c__law_feet.mono (by decide)) (zg eS) (sl_cons (zv eN eS 0) (sl_cons (zv eN eS 5) (sl_cons (zv eN eS 2) sl_nil)))) sf_nil))))) sl_nil)))))) ss_nil)
      (ss_one (sp_ret (se_tup (sf_cons (zv eN eS 1) (sf_cons (zv eN eS 5) (sf_cons (se_callTy call_tuple_of sp_tuple (zg eS) (fr_tuple fr) PyProof.Rows.boot_tuple (sa_cons (zv eN eS 7) sa_nil)) sf_nil))))))))))))))
/-! _law_times: level 1; slots 0 _law_words_here, 1 _law_found, 2 _law_word, 3 _law_number -/
abbrev st__law_times : Stmt := top 12
theorem sc__law_times : FnScope ["_law_words_here", "_law_found", "_law_word", "_law_number"] ["_law_words_here"] (defScope st__law_times) := ⟨rfl, rfl, rfl, by decide +kernel, rfl, by decide +kernel, by decide +kernel⟩
def b__law_times_0 : Sv :=
    (sIf (cAnd (asB (eBin oNe (eVar 1) (eLst []))) (asB (eBin oEq (eBin oIx (eVar 1) (eUn oNeg (eC (.int 1)))) (eUn oNeg (eVar 3))))) (sDrop (eMut isOl fPop 1 [])) (sDrop (eMut isOl fAppend 1 [eFz (eVar 3)])))
def b__law_times_1 : Sv :=
    (sFor (iSeq (eVar 2)) (bNm 3) b__law_times_0)
def sv__law_times : Sv :=
    (sSeq (sAsg 1 (eLst []))
    (sSeq (sFor (iSeq (eVar 0)) (bNm 2) b__law_times_1)
    (sRet (eVar 1))))
def fn__law_times : Fn := mkFn 4 1 [] sv__law_times
theorem h__law_times {P : Program} {w : World} {K : PySem.W.Frag} {mg : Str → Option Value} {base : Heap} (fr : Fre mg frees) (D : Dfn K mg "_law_times" st__law_times) : Has P w K mg base 1 "_law_times" ["_law_words_here"] fn__law_times :=
  has_of (N := ["_law_words_here", "_law_found", "_law_word", "_law_number"]) (k := 0) (A := [1, 2, 3]) (B := []) (sv := sv__law_times) D sc__law_times (by decide) (fun _ _ _ _ _ _ us hl => match us, hl with | [_], _ => rfl)
    fun X W e1 e2 e3 e4 e5 eN eS eF e9 e10 e11 S TK PO => by
    subst e1 e2 e3 e4 e5
    have nd := sc__law_times.nd
    exact (ss_cons (zs eN eS eF nd 1 (se_lst sf_nil))
      (ss_cons (sp_for PO S.calm (si_seq (zv eN eS 0)) (zt eN eS eF nd 2) (ss_one (sp_for PO S.calm (si_seq (zv eN eS 2)) (zt eN eS eF nd 3) (ss_one (sp_if (PW.pt (sw_and (st_cmp (op_neM S.hu) sp_ne (zv eN eS 1) (se_lst sf_nil) (by rfl)) (sw_and1 (st_cmp (op_eqM S.hu) sp_eq (se_ix (zv eN eS 1) (se_un un_neg sp_neg se_int) (by intro _ _; rfl)) (se_un un_neg sp_neg (zv eN eS 3)) (by rfl))))) (ss_one (sp_expr (se_mut0 PySem.F.plainAttrs_list PySem.F.slot_list_pop PySem.F.type_list_pop mt_pop sp_pop (zv eN eS 1)))) (ss_one (sp_expr (se_mut PySem.F.plainAttrs_list PySem.F.slot_list_append PySem.F.type_list_append mt_append sp_append (zv eN eS 1) (sl_cons (se_fz (zv eN eS 3)) sl_nil)))))))))
      (ss_one (sp_ret (zv eN eS 1)))))
/-! _law_whole: level 1; slots 0 _law_words_here, 1 _law_word, 2 _law_one -/
abbrev st__law_whole : Stmt := top 17
theorem sc__law_whole : FnScope ["_law_words_here", "_law_word", "_law_one"] ["_law_words_here"] (defScope st__law_whole) := ⟨rfl, rfl, rfl, by decide +kernel, rfl, by decide +kernel, by decide +kernel⟩
def t__law_whole_0 : Tv :=
    (cOr (asB (eUn (oIsi .bool) (eVar 2))) (cNot (asB (eUn (oIsi .int) (eVar 2)))))
def e__law_whole_1 : Ev :=
    (eVar 2)
def b__law_whole_2 : Sv :=
    (sSeq (sIf (cNot (asB (eUn (oIsi .tuple) (eVar 1)))) (sRet (eC (.bool false))) sNext)
    (sIf (asB (eBin oNe (eComp (iSeq (eVar 1)) [2] (bNm 2) t__law_whole_0 e__law_whole_1) (eLst []))) (sRet (eC (.bool false))) sNext))
def sv__law_whole : Sv :=
    (sSeq (sFor (iSeq (eVar 0)) (bNm 1) b__law_whole_2)
    (sRet (eUn (oIsi .tuple) (eVar 0))))
def fn__law_whole : Fn := mkFn 3 1 [] sv__law_whole
theorem h__law_whole {P : Program} {w : World} {K : PySem.W.Frag} {mg : Str → Option Value} {base : Heap} (fr : Fre mg frees) (D : Dfn K mg "_law_whole" st__law_whole) : Has P w K mg base 1 "_law_whole" ["_law_words_here"] fn__law_whole :=
  has_of (N := ["_law_words_here", "_law_word", "_law_one"]) (k := 0) (A := [1]) (B := []) (sv := sv__law_whole) D sc__law_whole (by decide) (fun _ _ _ _ _ _ us hl => match us, hl with | [_], _ => rfl)
    fun X W e1 e2 e3 e4 e5 eN eS eF e9 e10 e11 S TK PO => by
    subst e1 e2 e3 e4 e5
    have nd := sc__law_whole.nd
    exact (ss_cons (sp_for PO S.calm (si_seq (zv eN eS 0)) (zt eN eS eF nd 1) (ss_cons (sp_if (st_not (st_val (se_isi .tuple (by decide) (zg eS) (fr_isinstance fr) (zg eS) (fr_tuple fr) PyProof.Rows.boot_tuple (zv eN eS 1)))) (ss_one (sp_ret se_bl)) ss_nil)
      (ss_one (sp_if (st_cmp (op_neM S.hu) sp_ne (se_lc S.calm (znd eN nd) (si_seq (zv eN eS 1)) (zb (own := [("_law_one", 2)]) eN eS ⟨rfl, by decide +kernel, by decide +kernel, by decide +kernel, by decide +kernel⟩) (fun s0 H0 C0 cl0 fp0 => (zcb (X := X) eN nd 2)) (fun s0 H0 C0 cl0 fp0 => (sts_one (PW.pt (sw_or (st_val (se_isi .bool (by decide) (zgb X s0 H0 _ cl0 C0 fp0) (fr_isinstance fr) (zgb X s0 H0 _ cl0 C0 fp0) (fr_bool fr) PyProof.Rows.boot_bool (zvb (X := X) eN 2))) (sw_or1 (st_not (st_val (se_isi .int (by decide) (zgb X s0 H0 _ cl0 C0 fp0) (fr_isinstance fr) (zgb X s0 H0 _ cl0 C0 fp0) (fr_int fr) PyProof.Rows.boot_int (zvb (X := X) eN 2))))))))) (fun s0 H0 C0 cl0 fp0 => (zvb (X := X) eN 2))) (se_lst sf_nil) (by rfl)) (ss_one (sp_ret se_bl)) ss_nil))))
      (ss_one (sp_ret (se_isi .tuple (by decide) (zg eS) (fr_isinstance fr) (zg eS) (fr_tuple fr) PyProof.Rows.boot_tuple (zv eN eS 0)))))
/-! _law_words: level 2; slots 0 _law_many, 1 _law_layers, 2 _law_row, 3 _law_place, 4 _law_step, 5 _law_one, 6 _law_other, 7 _law_k, 8 _law_word -/
abbrev st__law_words : Stmt := top 14
theorem sc__law_words : FnScope ["_law_many", "_law_layers", "_law_row", "_law_place", "_law_step", "_law_one", "_law_other", "_law_k", "_law_word"] ["_law_many", "_law_layers"] (defScope st__law_words) := ⟨rfl, rfl, rfl, by decide +kernel, rfl, by decide +kernel, by decide +kernel⟩
def e__law_words_0 : Ev :=
    (eLst [(eBin oAdd (eVar 7) (eC (.int 1)))])
def b__law_words_1 : Sv :=
    (sSeq (sAsg 5 (eBin oIx (eVar 2) (eVar 3)))
    (sSeq (sAsg 6 (eBin oIx (eVar 2) (eBin oAdd (eVar 3) (eC (.int 1)))))
    (sIf (asB (eBin oEq (eVar 4) (eTup [(eC (.str "over"))]))) (sAsg 2 (eBin oAdd (eBin oAdd (eSl pNone (pSome (eVar 3)) (eVar 2)) (eLst [(eCall fn__law_times [(eLst [(eVar 5), (eVar 6), (eCall fn__law_back [(eVar 5)])])]), (eVar 5)])) (eSl (pSome (eBin oAdd (eVar 3) (eC (.int 2)))) pNone (eVar 2)))) (sAsg 2 (eBin oAdd (eBin oAdd (eSl pNone (pSome (eVar 3)) (eVar 2)) (eLst [(eVar 6), (eCall fn__law_times [(eLst [(eCall fn__law_back [(eVar 6)]), (eVar 5), (eVar 6)])])])) (eSl (pSome (eBin oAdd (eVar 3) (eC (.int 2)))) pNone (eVar 2)))))))
def e__law_words_2 : Ev :=
    (eCB oTuple (aCons (eVar 8) aNil))
def sv__law_words : Sv :=
    (sSeq (sAsg 2 (eComp (iArgs range1 [(eVar 0)]) [7] (bNm 7) cYes e__law_words_0))
    (sSeq (sFor (iSeq (eVar 1)) (bTp [(bNm 3), (bNm 4)]) b__law_words_1)
    (sRet (eCB oTuple (aCons (eComp (iSeq (eVar 2)) [8] (bNm 8) cYes e__law_words_2) aNil)))))
def fn__law_words : Fn := mkFn 9 2 [] sv__law_words
theorem h__law_words {P : Program} {w : World} {K : PySem.W.Frag} {mg : Str → Option Value} {base : Heap} (fr : Fre mg frees) (D : Dfn K mg "_law_words" st__law_words) (c__law_back : Has P w K mg base 1 "_law_back" ["_law_word"] fn__law_back) (c__law_times : Has P w K mg base 1 "_law_times" ["_law_words_here"] fn__law_times) : Has P w K mg base 2 "_law_words" ["_law_many", "_law_layers"] fn__law_words :=
  has_of (N := ["_law_many", "_law_layers", "_law_row", "_law_place", "_law_step", "_law_one", "_law_other", "_law_k", "_law_word"]) (k := 1) (A := [2, 3, 4, 5, 6]) (B := []) (sv := sv__law_words) D sc__law_words (by decide) (fun _ _ _ _ _ _ us hl => match us, hl with | [_, _], _ => rfl)
    fun X W e1 e2 e3 e4 e5 eN eS eF e9 e10 e11 S TK PO => by
    subst e1 e2 e3 e4 e5
    have nd := sc__law_words.nd
    exact (ss_cons (sp_setLc (i := 2) S.calm (znd eN nd) (by rw [eN]; rfl) (by rw [eS]; rfl) (swl eS) (si_range1 (zg eS) (fr_range fr) (sf_cons (zv eN eS 0) sf_nil)) (zb (own := [("_law_k", 7)]) eN eS ⟨rfl, by decide +kernel, by decide +kernel, by decide +kernel, by decide +kernel⟩) (fun s0 H0 C0 cl0 fp0 => (zcb (X := X) eN nd 7)) (fun s0 H0 C0 cl0 fp0 => sts_nil) (fun s0 H0 C0 cl0 fp0 => (se_lst (sf_cons (se_bin op_addM sp_add (zvb (X := X) eN 7) se_int) sf_nil))))
      (ss_cons (sp_for PO S.calm (si_seq (zv eN eS 1)) (sg_tup S.calm (sgs_cons (zt eN eS eF nd 3) (sgs_cons (zt eN eS eF nd 4) sgs_nil))) (ss_cons (zs eN eS eF nd 5 (se_ix (zv eN eS 2) (zv eN eS 3) (by intro _ _; rfl)))
      (ss_cons (zs eN eS eF nd 6 (se_ix (zv eN eS 2) (se_bin op_addM sp_add (zv eN eS 3) se_int) (by intro _ _; rfl)))
      (ss_one (sp_if (st_cmp (op_eqM S.hu) sp_eq (zv eN eS 4) (se_tup (sf_cons (se_str ⟨by decide +kernel, by decide +kernel⟩) sf_nil)) (by rfl)) (ss_one (zs eN eS eF nd 2 (se_bin op_addM sp_add (se_bin op_addM sp_add (se_sl (zv eN eS 2) so_none (so_some (zv eN eS 3))) (se_lst (sf_cons (se_call S (c__law_times.mono (by decide)) (zg eS) (sl_cons (se_lst (sf_cons (zv eN eS 5) (sf_cons (zv eN eS 6) (sf_cons (se_call S (c__law_back.mono (by decide)) (zg eS) (sl_cons (zv eN eS 5) sl_nil)) sf_nil)))) sl_nil)) (sf_cons (zv eN eS 5) sf_nil)))) (se_sl (zv eN eS 2) (so_some (se_bin op_addM sp_add (zv eN eS 3) se_int)) so_none)))) (ss_one (zs eN eS eF nd 2 (se_bin op_addM sp_add (se_bin op_addM sp_add (se_sl (zv eN eS 2) so_none (so_some (zv eN eS 3))) (se_lst (sf_cons (zv eN eS 6) (sf_cons (se_call S (c__law_times.mono (by decide)) (zg eS) (sl_cons (se_lst (sf_cons (se_call S (c__law_back.mono (by decide)) (zg eS) (sl_cons (zv eN eS 6) sl_nil)) (sf_cons (zv eN eS 5) (sf_cons (zv eN eS 6) sf_nil)))) sl_nil)) sf_nil)))) (se_sl (zv eN eS 2) (so_some (se_bin op_addM sp_add (zv eN eS 3) se_int)) so_none)))))))))
      (ss_one (sp_ret (se_callTy call_tuple_of sp_tuple (zg eS) (fr_tuple fr) PyProof.Rows.boot_tuple (sa_cons (se_lc S.calm (znd eN nd) (si_seq (zv eN eS 2)) (zb (own := [("_law_word", 8)]) eN eS ⟨rfl, by decide +kernel, by decide +kernel, by decide +kernel, by decide +kernel⟩) (fun s1 H1 C1 cl1 fp1 => (zcb (X := X) eN nd 8)) (fun s1 H1 C1 cl1 fp1 => sts_nil) (fun s1 H1 C1 cl1 fp1 => (se_callTy call_tuple_of sp_tuple (zgb X s1 H1 _ cl1 C1 fp1) (fr_tuple fr) PyProof.Rows.boot_tuple (sa_cons (zvb (X := X) eN 8) sa_nil)))) sa_nil))))))
/-! opposite: level 1; slots 0 word, 1 number -/
abbrev st_opposite : Stmt := top 1
theorem sc_opposite : FnScope ["word", "number"] ["word"] (defScope st_opposite) := ⟨rfl, rfl, rfl, by decide +kernel, rfl, by decide +kernel, by decide +kernel⟩
def e_opposite_0 : Ev :=
    (eUn oNeg (eVar 1))
def sv_opposite : Sv :=
    (sRet (eCB oTuple (aCons (eComp (iRv (eVar 0)) [1] (bNm 1) cYes e_opposite_0) aNil)))
def fn_opposite : Fn := mkFn 2 1 [] sv_opposite
theorem h_opposite {P : Program} {w : World} {K : PySem.W.Frag} {mg : Str → Option Value} {base : Heap} (fr : Fre mg frees) (D : Dfn K mg "opposite" st_opposite) : Has P w K mg base 1 "opposite" ["word"] fn_opposite :=
  has_of (N := ["word", "number"]) (k := 0) (A := []) (B := []) (sv := sv_opposite) D sc_opposite (by decide) (fun _ _ _ _ _ _ us hl => match us, hl with | [_], _ => rfl)
    fun X W e1 e2 e3 e4 e5 eN eS eF e9 e10 e11 S TK PO => by
    subst e1 e2 e3 e4 e5
    have nd := sc_opposite.nd
    exact (ss_one (sp_ret (se_callTy call_tuple_of sp_tuple (zg eS) (fr_tuple fr) PyProof.Rows.boot_tuple (sa_cons (se_lc S.calm (znd eN nd) (si_rev (zv eN eS 0) (zg eS) (fr_reversed fr)) (zb (own := [("number", 1)]) eN eS ⟨rfl, by decide +kernel, by decide +kernel, by decide +kernel, by decide +kernel⟩) (fun s0 H0 C0 cl0 fp0 => (zcb (X := X) eN nd 1)) (fun s0 H0 C0 cl0 fp0 => sts_nil) (fun s0 H0 C0 cl0 fp0 => (se_un un_neg sp_neg (zvb (X := X) eN 1)))) sa_nil))))
/-! put_together: level 1; slots 0 words, 1 found, 2 word, 3 number -/
abbrev st_put_together : Stmt := top 2
theorem sc_put_together : FnScope ["words", "found", "word", "number"] ["words"] (defScope st_put_together) := ⟨rfl, rfl, rfl, by decide +kernel, rfl, by decide +kernel, by decide +kernel⟩
def b_put_together_0 : Sv :=
    (sIf (cAnd (asB (eBin oNe (eVar 1) (eLst []))) (asB (eBin oEq (eBin oIx (eVar 1) (eUn oNeg (eC (.int 1)))) (eUn oNeg (eVar 3))))) (sDrop (eMut isOl fPop 1 [])) (sDrop (eMut isOl fAppend 1 [eFz (eVar 3)])))
def b_put_together_1 : Sv :=
    (sFor (iSeq (eVar 2)) (bNm 3) b_put_together_0)
def sv_put_together : Sv :=
    (sSeq (sAsg 1 (eLst []))
    (sSeq (sFor (iSeq (eVar 0)) (bNm 2) b_put_together_1)
    (sRet (eCB oTuple (aCons (eVar 1) aNil)))))
def fn_put_together : Fn := mkFn 4 1 [] sv_put_together
theorem h_put_together {P : Program} {w : World} {K : PySem.W.Frag} {mg : Str → Option Value} {base : Heap} (fr : Fre mg frees) (D : Dfn K mg "put_together" st_put_together) : Has P w K mg base 1 "put_together" ["words"] fn_put_together :=
  has_of (N := ["words", "found", "word", "number"]) (k := 0) (A := [1, 2, 3]) (B := []) (sv := sv_put_together) D sc_put_together (by decide) (fun _ _ _ _ _ _ us hl => match us, hl with | [_], _ => rfl)
    fun X W e1 e2 e3 e4 e5 eN eS eF e9 e10 e11 S TK PO => by
    subst e1 e2 e3 e4 e5
    have nd := sc_put_together.nd
    exact (ss_cons (zs eN eS eF nd 1 (se_lst sf_nil))
      (ss_cons (sp_for PO S.calm (si_seq (zv eN eS 0)) (zt eN eS eF nd 2) (ss_one (sp_for PO S.calm (si_seq (zv eN eS 2)) (zt eN eS eF nd 3) (ss_one (sp_if (PW.pt (sw_and (st_cmp (op_neM S.hu) sp_ne (zv eN eS 1) (se_lst sf_nil) (by rfl)) (sw_and1 (st_cmp (op_eqM S.hu) sp_eq (se_ix (zv eN eS 1) (se_un un_neg sp_neg se_int) (by intro _ _; rfl)) (se_un un_neg sp_neg (zv eN eS 3)) (by rfl))))) (ss_one (sp_expr (se_mut0 PySem.F.plainAttrs_list PySem.F.slot_list_pop PySem.F.type_list_pop mt_pop sp_pop (zv eN eS 1)))) (ss_one (sp_expr (se_mut PySem.F.plainAttrs_list PySem.F.slot_list_append PySem.F.type_list_append mt_append sp_append (zv eN eS 1) (sl_cons (se_fz (zv eN eS 3)) sl_nil)))))))))
      (ss_one (sp_ret (se_callTy call_tuple_of sp_tuple (zg eS) (fr_tuple fr) PyProof.Rows.boot_tuple (sa_cons (zv eN eS 1) sa_nil))))))
/-! crossed_words: level 2; slots 0 step, 1 left, 2 right -/
abbrev st_crossed_words : Stmt := top 3
theorem sc_crossed_words : FnScope ["step", "left", "right"] ["step", "left", "right"] (defScope st_crossed_words) := ⟨rfl, rfl, rfl, by decide +kernel, rfl, by decide +kernel, by decide +kernel⟩
def sv_crossed_words : Sv :=
    (sSeq (sIf (asB (eBin oEq (eVar 0) (eTup [(eC (.str "over"))]))) (sRet (eTup [(eCall fn_put_together [(eLst [(eVar 1), (eVar 2), (eCall fn_opposite [(eVar 1)])])]), (eVar 1)])) sNext)
    (sRet (eTup [(eVar 2), (eCall fn_put_together [(eLst [(eCall fn_opposite [(eVar 2)]), (eVar 1), (eVar 2)])])])))
def fn_crossed_words : Fn := mkFn 3 3 [] sv_crossed_words
theorem h_crossed_words {P : Program} {w : World} {K : PySem.W.Frag} {mg : Str → Option Value} {base : Heap} (fr : Fre mg frees) (D : Dfn K mg "crossed_words" st_crossed_words) (c_opposite : Has P w K mg base 1 "opposite" ["word"] fn_opposite) (c_put_together : Has P w K mg base 1 "put_together" ["words"] fn_put_together) : Has P w K mg base 2 "crossed_words" ["step", "left", "right"] fn_crossed_words :=
  has_of (N := ["step", "left", "right"]) (k := 1) (A := []) (B := []) (sv := sv_crossed_words) D sc_crossed_words (by decide) (fun _ _ _ _ _ _ us hl => match us, hl with | [_, _, _], _ => rfl)
    fun X W e1 e2 e3 e4 e5 eN eS eF e9 e10 e11 S TK PO => by
    subst e1 e2 e3 e4 e5
    have nd := sc_crossed_words.nd
    exact (ss_cons (sp_if (st_cmp (op_eqM S.hu) sp_eq (zv eN eS 0) (se_tup (sf_cons (se_str ⟨by decide +kernel, by decide +kernel⟩) sf_nil)) (by rfl)) (ss_one (sp_ret (se_tup (sf_cons (se_call S (c_put_together.mono (by decide)) (zg eS) (sl_cons (se_lst (sf_cons (zv eN eS 1) (sf_cons (zv eN eS 2) (sf_cons (se_call S (c_opposite.mono (by decide)) (zg eS) (sl_cons (zv eN eS 1) sl_nil)) sf_nil)))) sl_nil)) (sf_cons (zv eN eS 1) sf_nil))))) ss_nil)
      (ss_one (sp_ret (se_tup (sf_cons (zv eN eS 2) (sf_cons (se_call S (c_put_together.mono (by decide)) (zg eS) (sl_cons (se_lst (sf_cons (se_call S (c_opposite.mono (by decide)) (zg eS) (sl_cons (zv eN eS 2) sl_nil)) (sf_cons (zv eN eS 1) (sf_cons (zv eN eS 2) sf_nil)))) sl_nil)) sf_nil))))))
/-! words_of: level 3; slots 0 kit, 1 picture, 2 above, 3 layers, 4 row, 5 place, 6 step, 7 left, 8 right, 9 number -/
abbrev st_words_of : Stmt := top 4
theorem sc_words_of : FnScope ["kit", "picture", "above", "layers", "row", "place", "step", "left", "right", "number"] ["kit", "picture"] (defScope st_words_of) := ⟨rfl, rfl, rfl, by decide +kernel, rfl, by decide +kernel, by decide +kernel⟩
def e_words_of_0 : Ev :=
    (eTup [(eBin oAdd (eVar 9) (eC (.int 1)))])
def b_words_of_1 : Sv :=
    (sSeq (sUnp (bTp [(bNm 7), (bNm 8)]) (eCall fn_crossed_words [(eVar 6), (eBin oIx (eVar 4) (eVar 5)), (eBin oIx (eVar 4) (eBin oAdd (eVar 5) (eC (.int 1))))]))
    (sSeq (sPut fSetL 4 (eVar 7) (eVar 5))
    (sPut fSetL 4 (eVar 8) (eBin oAdd (eVar 5) (eC (.int 1))))))
def sv_words_of : Sv :=
    (sSeq (sUnp (bTp [(bNm 2), (bNm 3)]) (eVar 1))
    (sSeq (sAsg 4 (eComp (iArgs range1 [(eCB oLen (aCons (eVar 2) aNil))]) [9] (bNm 9) cYes e_words_of_0))
    (sSeq (sFor (iSeq (eVar 3)) (bTp [(bNm 5), (bNm 6)]) b_words_of_1)
    (sRet (eCB oTuple (aCons (eVar 4) aNil))))))
def fn_words_of : Fn := mkFn 10 2 [] sv_words_of
theorem h_words_of {P : Program} {w : World} {K : PySem.W.Frag} {mg : Str → Option Value} {base : Heap} (fr : Fre mg frees) (D : Dfn K mg "words_of" st_words_of) (c_crossed_words : Has P w K mg base 2 "crossed_words" ["step", "left", "right"] fn_crossed_words) : Has P w K mg base 3 "words_of" ["kit", "picture"] fn_words_of :=
  has_of (N := ["kit", "picture", "above", "layers", "row", "place", "step", "left", "right", "number"]) (k := 2) (A := [2, 3, 4, 5, 6, 7, 8]) (B := []) (sv := sv_words_of) D sc_words_of (by decide) (fun _ _ _ _ _ _ us hl => match us, hl with | [_, _], _ => rfl)
    fun X W e1 e2 e3 e4 e5 eN eS eF e9 e10 e11 S TK PO => by
    subst e1 e2 e3 e4 e5
    have nd := sc_words_of.nd
    exact (ss_cons (sp_unp (zv eN eS 1) (sg_tup S.calm (sgs_cons (zt eN eS eF nd 2) (sgs_cons (zt eN eS eF nd 3) sgs_nil))))
      (ss_cons (sp_setLc (i := 4) S.calm (znd eN nd) (by rw [eN]; rfl) (by rw [eS]; rfl) (swl eS) (si_range1 (zg eS) (fr_range fr) (sf_cons (se_callB call_len sp_len (zg eS) (fr_len fr) PySem.boot_len (sa_cons (zv eN eS 2) sa_nil)) sf_nil)) (zb (own := [("number", 9)]) eN eS ⟨rfl, by decide +kernel, by decide +kernel, by decide +kernel, by decide +kernel⟩) (fun s0 H0 C0 cl0 fp0 => (zcb (X := X) eN nd 9)) (fun s0 H0 C0 cl0 fp0 => sts_nil) (fun s0 H0 C0 cl0 fp0 => (se_tup (sf_cons (se_bin op_addM sp_add (zvb (X := X) eN 9) se_int) sf_nil))))
      (ss_cons (sp_for PO S.calm (si_seq (zv eN eS 3)) (sg_tup S.calm (sgs_cons (zt eN eS eF nd 5) (sgs_cons (zt eN eS eF nd 6) sgs_nil))) (ss_cons (sp_unp (se_call S (c_crossed_words.mono (by decide)) (zg eS) (sl_cons (zv eN eS 6) (sl_cons (se_ix (zv eN eS 4) (zv eN eS 5) (by intro _ _; rfl)) (sl_cons (se_ix (zv eN eS 4) (se_bin op_addM sp_add (zv eN eS 5) se_int) (by intro _ _; rfl)) sl_nil)))) (sg_tup S.calm (sgs_cons (zt eN eS eF nd 7) (sgs_cons (zt eN eS eF nd 8) sgs_nil))))
      (ss_cons (sp_put set_list sp_setL (se_fz (zv eN eS 7)) (zv eN eS 4) (zv eN eS 5))
      (ss_one (sp_put set_list sp_setL (se_fz (zv eN eS 8)) (zv eN eS 4) (se_bin op_addM sp_add (zv eN eS 5) se_int))))))
      (ss_one (sp_ret (se_callTy call_tuple_of sp_tuple (zg eS) (fr_tuple fr) PyProof.Rows.boot_tuple (sa_cons (zv eN eS 4) sa_nil)))))))
/-! law: level 4; slots 0 _law_script, 1 _law_k, 2 _law_deck_here, 3 _law_kit_here, 4 _law_many, 5 _law_braid_here, 6 _law_found, 7 _law_touched, 8 _law_place, 9 _law_word, 10 _law_number, 11 _law_step -/
abbrev st_law : Stmt := top 18
theorem sc_law : FnScope ["_law_script", "_law_k", "_law_deck_here", "_law_kit_here", "_law_many", "_law_braid_here", "_law_found", "_law_touched", "_law_place", "_law_word", "_law_number", "_law_step"] ["_law_script"] (defScope st_law) := ⟨rfl, rfl, rfl, by decide +kernel, rfl, by decide +kernel, by decide +kernel⟩
def e_law_0 : Ev :=
    (eCall fn__law_is_lone [(eVar 9)])
def e_law_1 : Ev :=
    (eBin oAdd (eVar 10) (eC (.int 1)))
def e_law_2 : Ev :=
    (eVar 8)
def e_law_3 : Ev :=
    (eBin oAdd (eVar 8) (eC (.int 1)))
def b_law_4 : Sv :=
    (sIf (cAnd (asB (eBin oNotIn (eVar 8) (eVar 7))) (asB (eBin oNe (eBin oIx (eVar 6) (eVar 8)) (eTup [(eBin oAdd (eVar 8) (eC (.int 1)))])))) (sRet (eC (.bool false))) sNext)
def b_law_5 : Sv :=
    (sSeq (sAsg 2 (eCall fn__law_deck_at [(eVar 0), (eVar 1)]))
    (sSeq (sAsg 3 (eCall fn__law_kit [(eVar 2), (eC (.str "braid"))]))
    (sSeq (sAsg 4 (eBin oAdd (eC (.int 1)) (eCall fn__law_draw [(eVar 2), (eC (.int 6))])))
    (sSeq (sAsg 5 (eCall fn__law_braid [(eVar 2), (eVar 3), (eVar 4), (eC (.int 9))]))
    (sSeq (sAsg 5 (eTup [(eBin oIx (eVar 5) (eC (.int 0))), (eSl pNone (pSome (eBin oIx (eLst [(eC (.int 12)), (eC (.int 20))]) (eCB oInt (aCons (eAnd (eBin oEq (eVar 1) (eC (.int 0))) (eBin oEq (eCall fn__law_draw [(eVar 2), (eC (.int 8))]) (eC (.int 5)))) aNil)))) (eBin oIx (eVar 5) (eC (.int 1))))]))
    (sSeq (sAsg 6 (eCall fn_words_of [(eVar 3), (eVar 5)]))
    (sSeq (sIf (cOr (cNot (asB (eCall fn__law_whole [(eVar 6)]))) (cOr (asB (eBin oNe (eVar 6) (eCall fn__law_words [(eVar 4), (eBin oIx (eVar 5) (eC (.int 1)))]))) (asB (eBin oNe (eCall fn_words_of [(eVar 3), (eVar 5)]) (eVar 6))))) (sRet (eC (.bool false))) sNext)
    (sSeq (sIf (cNot (asB (eCB oAll (aCons (eComp (iSeq (eVar 6)) [9] (bNm 9) cYes e_law_0) aNil)))) (sRet (eC (.bool false))) sNext)
    (sSeq (sIf (asB (eBin oNe (eCall fn__law_times [(eVar 6)]) (eComp (iArgs range1 [(eVar 4)]) [10] (bNm 10) cYes e_law_1))) (sRet (eC (.bool false))) sNext)
    (sSeq (sAsg 7 (eBin oAdd (eComp (iSeq (eBin oIx (eVar 5) (eC (.int 1)))) [8, 11] (bTp [(bNm 8), (bNm 11)]) cYes e_law_2) (eComp (iSeq (eBin oIx (eVar 5) (eC (.int 1)))) [8, 11] (bTp [(bNm 8), (bNm 11)]) cYes e_law_3)))
    (sFor (iArgs range1 [(eVar 4)]) (bNm 8) b_law_4)))))))))))
def sv_law : Sv :=
    (sSeq (sFor (iArgs range1 [(eC (.int 7))]) (bNm 1) b_law_5)
    (sRet (eBin oEq (eCall fn_words_of [(eCall fn__law_kit [(eCall fn__law_deck [(eC (.int 3))]), (eC (.str "braid"))]), (eTup [(eTup []), (eTup [])])]) (eTup []))))
def fn_law : Fn := mkFn 12 1 [] sv_law
theorem ok_law {P : Program} {w : World} {K : PySem.W.Frag} {mg : Str → Option Value} {base : Heap} {f : Addr} {fd : FuncData} (fr : Fre mg frees) (F : Fun K "law" "law" st_law f fd) (c__law_braid : Has P w K mg base 2 "_law_braid" ["_law_deck_here", "_law_kit_here", "_law_many", "_law_most"] fn__law_braid) (c__law_deck : Has P w K mg base 1 "_law_deck" ["_law_cell"] fn__law_deck) (c__law_deck_at : Has P w K mg base 2 "_law_deck_at" ["_law_script", "_law_k"] fn__law_deck_at) (c__law_draw : Has P w K mg base 1 "_law_draw" ["_law_deck_here", "_law_most"] fn__law_draw) (c__law_is_lone : Has P w K mg base 2 "_law_is_lone" ["_law_word"] fn__law_is_lone) (c__law_kit : Has P w K mg base 3 "_law_kit" ["_law_deck_here", "_law_manner"] fn__law_kit) (c__law_times : Has P w K mg base 1 "_law_times" ["_law_words_here"] fn__law_times) (c__law_whole : Has P w K mg base 1 "_law_whole" ["_law_words_here"] fn__law_whole) (c__law_words : Has P w K mg base 2 "_law_words" ["_law_many", "_law_layers"] fn__law_words) (c_words_of : Has P w K mg base 3 "words_of" ["kit", "picture"] fn_words_of) : FnOk P w K mg base (L2.CX P w) 4 f fd ["_law_script"] (spF ⟨K, mg⟩ fn_law) :=
  fn_ok (N := ["_law_script", "_law_k", "_law_deck_here", "_law_kit_here", "_law_many", "_law_braid_here", "_law_found", "_law_touched", "_law_place", "_law_word", "_law_number", "_law_step"]) (k := 3) (A := [1, 2, 3, 4, 5, 6, 7, 8]) (B := []) (sv := sv_law) F sc_law (by decide)
    fun X W e1 e2 e3 e4 e5 eN eS eF e9 e10 e11 S TK PO => by
    subst e1 e2 e3 e4 e5
    have nd := sc_law.nd
    exact (ss_cons (sp_for PO S.calm (si_range1 (zg eS) (fr_range fr) (sf_cons se_int sf_nil)) (zt eN eS eF nd 1) (ss_cons (zs eN eS eF nd 2 (se_call S (c__law_deck_at.mono (by decide)) (zg eS) (sl_cons (zv eN eS 0) (sl_cons (zv eN eS 1) sl_nil))))
      (ss_cons (zs eN eS eF nd 3 (se_call S (c__law_kit.mono (by decide)) (zg eS) (sl_cons (zv eN eS 2) (sl_cons (se_str ⟨by decide +kernel, by decide +kernel⟩) sl_nil))))
      (ss_cons (zs eN eS eF nd 4 (se_bin op_addM sp_add se_int (se_call S (c__law_draw.mono (by decide)) (zg eS) (sl_cons (zv eN eS 2) (sl_cons se_int sl_nil)))))
      (ss_cons (zs eN eS eF nd 5 (se_call S (c__law_braid.mono (by decide)) (zg eS) (sl_cons (zv eN eS 2) (sl_cons (zv eN eS 3) (sl_cons (zv eN eS 4) (sl_cons se_int sl_nil))))))
      (ss_cons (zs eN eS eF nd 5 (se_tup (sf_cons (se_ix (zv eN eS 5) se_int (by intro _ _; rfl)) (sf_cons (se_sl (se_ix (zv eN eS 5) se_int (by intro _ _; rfl)) so_none (so_some (se_ix (se_lst (sf_cons se_int (sf_cons se_int sf_nil))) (se_callTy call_int1 sp_int (zg eS) (fr_int fr) PyProof.Rows.boot_int (sa_cons (se_and (se_cmp (op_eqM S.hu) sp_eq (zv eN eS 1) se_int (by rfl)) (se_one (se_cmp (op_eqM S.hu) sp_eq (se_call S (c__law_draw.mono (by decide)) (zg eS) (sl_cons (zv eN eS 2) (sl_cons se_int sl_nil))) se_int (by rfl)))) sa_nil)) (by intro _ _; rfl)))) sf_nil))))
      (ss_cons (zs eN eS eF nd 6 (se_call S (c_words_of.mono (by decide)) (zg eS) (sl_cons (zv eN eS 3) (sl_cons (zv eN eS 5) sl_nil))))
      (ss_cons (sp_if (PW.pt (sw_or (st_not (st_val (se_call S (c__law_whole.mono (by decide)) (zg eS) (sl_cons (zv eN eS 6) sl_nil)))) (sw_or (st_cmp (op_neM S.hu) sp_ne (zv eN eS 6) (se_call S (c__law_words.mono (by decide)) (zg eS) (sl_cons (zv eN eS 4) (sl_cons (se_ix (zv eN eS 5) se_int (by intro _ _; rfl)) sl_nil))) (by rfl)) (sw_or1 (st_cmp (op_neM S.hu) sp_ne (se_call S (c_words_of.mono (by decide)) (zg eS) (sl_cons (zv eN eS 3) (sl_cons (zv eN eS 5) sl_nil))) (zv eN eS 6) (by rfl)))))) (ss_one (sp_ret se_bl)) ss_nil)
      (ss_cons (sp_if (st_not (st_val (se_callB (cr_all S.calm) sp_all (zg eS) (fr_all fr) PyProof.Rows.boot_all (sa_cons (se_lc S.calm (znd eN nd) (si_seq (zv eN eS 6)) (zb (own := [("_law_word", 9)]) eN eS ⟨rfl, by decide +kernel, by decide +kernel, by decide +kernel, by decide +kernel⟩) (fun s0 H0 C0 cl0 fp0 => (zcb (X := X) eN nd 9)) (fun s0 H0 C0 cl0 fp0 => sts_nil) (fun s0 H0 C0 cl0 fp0 => (se_call (S.blk s0 H0 _ _ fp0) (c__law_is_lone.mono (by decide)) (zgb X s0 H0 _ cl0 C0 fp0) (sl_cons (zvb (X := X) eN 9) sl_nil)))) sa_nil)))) (ss_one (sp_ret se_bl)) ss_nil)
      (ss_cons (sp_if (st_cmp (op_neM S.hu) sp_ne (se_call S (c__law_times.mono (by decide)) (zg eS) (sl_cons (zv eN eS 6) sl_nil)) (se_lc S.calm (znd eN nd) (si_range1 (zg eS) (fr_range fr) (sf_cons (zv eN eS 4) sf_nil)) (zb (own := [("_law_number", 10)]) eN eS ⟨rfl, by decide +kernel, by decide +kernel, by decide +kernel, by decide +kernel⟩) (fun s1 H1 C1 cl1 fp1 => (zcb (X := X) eN nd 10)) (fun s1 H1 C1 cl1 fp1 => sts_nil) (fun s1 H1 C1 cl1 fp1 => (se_bin op_addM sp_add (zvb (X := X) eN 10) se_int))) (by rfl)) (ss_one (sp_ret se_bl)) ss_nil)
      (ss_cons (zs eN eS eF nd 7 (se_bin op_addM sp_add (se_lc S.calm (znd eN nd) (si_seq (se_ix (zv eN eS 5) se_int (by intro _ _; rfl))) (zb (own := [("_law_place", 8), ("_law_step", 11)]) eN eS ⟨rfl, by decide +kernel, by decide +kernel, by decide +kernel, by decide +kernel⟩) (fun s2 H2 C2 cl2 fp2 => (sg_tup (S.blk s2 H2 _ _ fp2).calm (sgs_cons (zcb (X := X) eN nd 8) (sgs_cons (zcb (X := X) eN nd 11) sgs_nil)))) (fun s2 H2 C2 cl2 fp2 => sts_nil) (fun s2 H2 C2 cl2 fp2 => (zvb (X := X) eN 8))) (se_lc S.calm (znd eN nd) (si_seq (se_ix (zv eN eS 5) se_int (by intro _ _; rfl))) (zb (own := [("_law_place", 8), ("_law_step", 11)]) eN eS ⟨rfl, by decide +kernel, by decide +kernel, by decide +kernel, by decide +kernel⟩) (fun s3 H3 C3 cl3 fp3 => (sg_tup (S.blk s3 H3 _ _ fp3).calm (sgs_cons (zcb (X := X) eN nd 8) (sgs_cons (zcb (X := X) eN nd 11) sgs_nil)))) (fun s3 H3 C3 cl3 fp3 => sts_nil) (fun s3 H3 C3 cl3 fp3 => (se_bin op_addM sp_add (zvb (X := X) eN 8) se_int)))))
      (ss_one (sp_for PO S.calm (si_range1 (zg eS) (fr_range fr) (sf_cons (zv eN eS 4) sf_nil)) (zt eN eS eF nd 8) (ss_one (sp_if (PW.pt (sw_and (st_cmp (op_notInM S.hu) sp_notIn (zv eN eS 8) (zv eN eS 7) (by rfl)) (sw_and1 (st_cmp (op_neM S.hu) sp_ne (se_ix (zv eN eS 6) (zv eN eS 8) (by intro _ _; rfl)) (se_tup (sf_cons (se_bin op_addM sp_add (zv eN eS 8) se_int) sf_nil)) (by rfl))))) (ss_one (sp_ret se_bl)) ss_nil)))))))))))))))
      (ss_one (sp_ret (se_cmp (op_eqM S.hu) sp_eq (se_call S (c_words_of.mono (by decide)) (zg eS) (sl_cons (se_call S (c__law_kit.mono (by decide)) (zg eS) (sl_cons (se_call S (c__law_deck.mono (by decide)) (zg eS) (sl_cons se_int sl_nil)) (sl_cons (se_str ⟨by decide +kernel, by decide +kernel⟩) sl_nil))) (sl_cons (se_tup (sf_cons (se_tup sf_nil) (sf_cons (se_tup sf_nil) sf_nil))) sl_nil))) (se_tup sf_nil) (by rfl)))))
end K60a

/-! K60h: the head, printed by gen.py. -/
namespace K60a
open PySem PySem.Spec PyProof.Rows L2 Sw
open PySem.W PySem.Calls
/-! the head -/
def d__law_draw : He.DefD := ⟨("_law_draw", none), "_law_draw", "_law_draw", defArgs st__law_draw, defBody st__law_draw, defScope st__law_draw, [], []⟩
def d__law_braid : He.DefD := ⟨("_law_braid", none), "_law_braid", "_law_braid", defArgs st__law_braid, defBody st__law_braid, defScope st__law_braid, [], []⟩
def d__law_deck : He.DefD := ⟨("_law_deck", none), "_law_deck", "_law_deck", defArgs st__law_deck, defBody st__law_deck, defScope st__law_deck, [], []⟩
def d__law_cell_at : He.DefD := ⟨("_law_cell_at", none), "_law_cell_at", "_law_cell_at", defArgs st__law_cell_at, defBody st__law_cell_at, defScope st__law_cell_at, [], []⟩
def d__law_deck_at : He.DefD := ⟨("_law_deck_at", none), "_law_deck_at", "_law_deck_at", defArgs st__law_deck_at, defBody st__law_deck_at, defScope st__law_deck_at, [], []⟩
def d__law_back : He.DefD := ⟨("_law_back", none), "_law_back", "_law_back", defArgs st__law_back, defBody st__law_back, defScope st__law_back, [], []⟩
def d__law_is_lone : He.DefD := ⟨("_law_is_lone", none), "_law_is_lone", "_law_is_lone", defArgs st__law_is_lone, defBody st__law_is_lone, defScope st__law_is_lone, [], []⟩
def d__law_feet : He.DefD := ⟨("_law_feet", none), "_law_feet", "_law_feet", defArgs st__law_feet, defBody st__law_feet, defScope st__law_feet, [], []⟩
def d__law_kit : He.DefD := ⟨("_law_kit", none), "_law_kit", "_law_kit", defArgs st__law_kit, defBody st__law_kit, defScope st__law_kit, [], []⟩
def d__law_times : He.DefD := ⟨("_law_times", none), "_law_times", "_law_times", defArgs st__law_times, defBody st__law_times, defScope st__law_times, [], []⟩
def d__law_whole : He.DefD := ⟨("_law_whole", none), "_law_whole", "_law_whole", defArgs st__law_whole, defBody st__law_whole, defScope st__law_whole, [], []⟩
def d__law_words : He.DefD := ⟨("_law_words", none), "_law_words", "_law_words", defArgs st__law_words, defBody st__law_words, defScope st__law_words, [], []⟩
def d_opposite : He.DefD := ⟨("opposite", none), "opposite", "opposite", defArgs st_opposite, defBody st_opposite, defScope st_opposite, [], []⟩
def d_put_together : He.DefD := ⟨("put_together", none), "put_together", "put_together", defArgs st_put_together, defBody st_put_together, defScope st_put_together, [], []⟩
def d_crossed_words : He.DefD := ⟨("crossed_words", none), "crossed_words", "crossed_words", defArgs st_crossed_words, defBody st_crossed_words, defScope st_crossed_words, [], []⟩
def d_words_of : He.DefD := ⟨("words_of", none), "words_of", "words_of", defArgs st_words_of, defBody st_words_of, defScope st_words_of, [], []⟩
def d_law : He.DefD := ⟨("law", none), "law", "law", defArgs st_law, defBody st_law, defScope st_law, [], []⟩
def fnl0 : List He.DefD := [d__law_draw, d__law_braid, d__law_deck, d__law_cell_at, d__law_deck_at, d__law_back, d__law_is_lone, d__law_feet, d__law_kit, d__law_times, d__law_whole, d__law_words, d_opposite, d_put_together, d_crossed_words, d_words_of, d_law]
def fnl : List He.DefD := fnl0
def fal0 : List He.Fa := [.glo "_law_draw", .glo "_law_braid", .glo "_law_deck", .glo "_law_cell_at", .glo "_law_deck_at", .glo "_law_back", .glo "_law_is_lone", .glo "_law_feet", .glo "_law_kit", .glo "_law_times", .glo "_law_whole", .glo "_law_words", .glo "opposite", .glo "put_together", .glo "crossed_words", .glo "words_of", .glo "law", .free "range", .free "int", .free "all", .free "len", .free "tuple", .free "list", .free "isinstance", .free "bool", .free "reversed"]
def fal : List He.Fa := fal0
def loose0 : List Str := ["__name__", "opposite", "put_together", "crossed_words", "words_of", "_law_cell_at", "_law_deck", "_law_draw", "_law_feet", "_law_kit", "_law_deck_at", "_law_times", "_law_back", "_law_words", "_law_braid", "_law_is_lone", "_law_whole"]
def loose : List Str := loose0
abbrev R : PySem.W.OpenRow := PySem.W.OpenLaw.row PySem.Challenge.rw_slidewires_k60_words_on_wires
abbrev hk : PySem.W.Hook := He.hookD 4 fal fnl
def ob (s : PySem.W.SharedT) : He.AlD := He.obsDG 4 fal fnl (HandSHeadRun.getT s)
theorem ob_eq (s : PySem.W.SharedT) : ob s = hk.obs s.abs := He.obsDG_eq (HandSHeadRun.getT_eq s)
theorem run (w : World) : HandSHeadRun.RunEq R (PySem.W.view R.prog [18]) hk ob 2000 loose w := by
  intro os
  kernel_rfl
theorem facts {P : Program} {w : World} {K : PySem.W.Frag} {h : Heap} {mg : Str → Option Value} {f : Addr} (X : K.In h) (G : h.Ns mainGlobals mg) (hfa : mg ("law" : Str) = some (.ref f)) (c : He.SaysD fal fnl K) :
    ∃ fd : FuncData, (∀ (s : Shared) (v : Value), BindsTo s fd ⟨[v], []⟩ [("_law_script", v)]) ∧ ∀ base : Heap, K.In base → base.Ns mainGlobals mg → FnOk P w K mg base (L2.CX P w) 4 f fd ["_law_script"] (spF ⟨K, mg⟩ fn_law) := by
  obtain ⟨fd0, F0⟩ := c.def_ 0 (d := d__law_draw) rfl
  have D__law_draw : Dfn K mg "_law_draw" st__law_draw := ⟨_, fd0, toFun F0, He.glo_ok X G (c.fact 0 (f := .glo "_law_draw") rfl)⟩
  obtain ⟨fd1, F1⟩ := c.def_ 1 (d := d__law_braid) rfl
  have D__law_braid : Dfn K mg "_law_braid" st__law_braid := ⟨_, fd1, toFun F1, He.glo_ok X G (c.fact 1 (f := .glo "_law_braid") rfl)⟩
  obtain ⟨fd2, F2⟩ := c.def_ 2 (d := d__law_deck) rfl
  have D__law_deck : Dfn K mg "_law_deck" st__law_deck := ⟨_, fd2, toFun F2, He.glo_ok X G (c.fact 2 (f := .glo "_law_deck") rfl)⟩
  obtain ⟨fd3, F3⟩ := c.def_ 3 (d := d__law_cell_at) rfl
  have D__law_cell_at : Dfn K mg "_law_cell_at" st__law_cell_at := ⟨_, fd3, toFun F3, He.glo_ok X G (c.fact 3 (f := .glo "_law_cell_at") rfl)⟩
  obtain ⟨fd4, F4⟩ := c.def_ 4 (d := d__law_deck_at) rfl
  have D__law_deck_at : Dfn K mg "_law_deck_at" st__law_deck_at := ⟨_, fd4, toFun F4, He.glo_ok X G (c.fact 4 (f := .glo "_law_deck_at") rfl)⟩
  obtain ⟨fd5, F5⟩ := c.def_ 5 (d := d__law_back) rfl
  have D__law_back : Dfn K mg "_law_back" st__law_back := ⟨_, fd5, toFun F5, He.glo_ok X G (c.fact 5 (f := .glo "_law_back") rfl)⟩
  obtain ⟨fd6, F6⟩ := c.def_ 6 (d := d__law_is_lone) rfl
  have D__law_is_lone : Dfn K mg "_law_is_lone" st__law_is_lone := ⟨_, fd6, toFun F6, He.glo_ok X G (c.fact 6 (f := .glo "_law_is_lone") rfl)⟩
  obtain ⟨fd7, F7⟩ := c.def_ 7 (d := d__law_feet) rfl
  have D__law_feet : Dfn K mg "_law_feet" st__law_feet := ⟨_, fd7, toFun F7, He.glo_ok X G (c.fact 7 (f := .glo "_law_feet") rfl)⟩
  obtain ⟨fd8, F8⟩ := c.def_ 8 (d := d__law_kit) rfl
  have D__law_kit : Dfn K mg "_law_kit" st__law_kit := ⟨_, fd8, toFun F8, He.glo_ok X G (c.fact 8 (f := .glo "_law_kit") rfl)⟩
  obtain ⟨fd9, F9⟩ := c.def_ 9 (d := d__law_times) rfl
  have D__law_times : Dfn K mg "_law_times" st__law_times := ⟨_, fd9, toFun F9, He.glo_ok X G (c.fact 9 (f := .glo "_law_times") rfl)⟩
  obtain ⟨fd10, F10⟩ := c.def_ 10 (d := d__law_whole) rfl
  have D__law_whole : Dfn K mg "_law_whole" st__law_whole := ⟨_, fd10, toFun F10, He.glo_ok X G (c.fact 10 (f := .glo "_law_whole") rfl)⟩
  obtain ⟨fd11, F11⟩ := c.def_ 11 (d := d__law_words) rfl
  have D__law_words : Dfn K mg "_law_words" st__law_words := ⟨_, fd11, toFun F11, He.glo_ok X G (c.fact 11 (f := .glo "_law_words") rfl)⟩
  obtain ⟨fd12, F12⟩ := c.def_ 12 (d := d_opposite) rfl
  have D_opposite : Dfn K mg "opposite" st_opposite := ⟨_, fd12, toFun F12, He.glo_ok X G (c.fact 12 (f := .glo "opposite") rfl)⟩
  obtain ⟨fd13, F13⟩ := c.def_ 13 (d := d_put_together) rfl
  have D_put_together : Dfn K mg "put_together" st_put_together := ⟨_, fd13, toFun F13, He.glo_ok X G (c.fact 13 (f := .glo "put_together") rfl)⟩
  obtain ⟨fd14, F14⟩ := c.def_ 14 (d := d_crossed_words) rfl
  have D_crossed_words : Dfn K mg "crossed_words" st_crossed_words := ⟨_, fd14, toFun F14, He.glo_ok X G (c.fact 14 (f := .glo "crossed_words") rfl)⟩
  obtain ⟨fd15, F15⟩ := c.def_ 15 (d := d_words_of) rfl
  have D_words_of : Dfn K mg "words_of" st_words_of := ⟨_, fd15, toFun F15, He.glo_ok X G (c.fact 15 (f := .glo "words_of") rfl)⟩
  obtain ⟨fd16, F16⟩ := c.def_ 16 (d := d_law) rfl
  have D_law : Dfn K mg "law" st_law := ⟨_, fd16, toFun F16, He.glo_ok X G (c.fact 16 (f := .glo "law") rfl)⟩
  have fr : Fre mg frees := by
    intro x hx
    unfold frees at hx
    simp only [List.mem_cons, List.not_mem_nil, or_false] at hx
    rcases hx with rfl | rfl | rfl | rfl | rfl | rfl | rfl | rfl | rfl
    · exact He.free_ok X G (c.fact 17 (f := .free "range") rfl)
    · exact He.free_ok X G (c.fact 18 (f := .free "int") rfl)
    · exact He.free_ok X G (c.fact 19 (f := .free "all") rfl)
    · exact He.free_ok X G (c.fact 20 (f := .free "len") rfl)
    · exact He.free_ok X G (c.fact 21 (f := .free "tuple") rfl)
    · exact He.free_ok X G (c.fact 22 (f := .free "list") rfl)
    · exact He.free_ok X G (c.fact 23 (f := .free "isinstance") rfl)
    · exact He.free_ok X G (c.fact 24 (f := .free "bool") rfl)
    · exact He.free_ok X G (c.fact 25 (f := .free "reversed") rfl)
  have e := hfa.symm.trans (He.glo_ok X G (c.fact 16 (f := .glo "law") rfl))
  cases e
  have b := FunD.bindsA (ps := ["_law_script"]) F16 fun _ _ _ _ _ _ us hl => match us, hl with | [_], _ => rfl
  refine ⟨fd16, fun s v => b s [v] rfl, fun base _ _ => ?_⟩
  have H__law_draw := h__law_draw (P := P) (w := w) (base := base) fr D__law_draw
  have H__law_braid := h__law_braid (P := P) (w := w) (base := base) fr D__law_braid H__law_draw
  have H__law_deck := h__law_deck (P := P) (w := w) (base := base) fr D__law_deck
  have H__law_cell_at := h__law_cell_at (P := P) (w := w) (base := base) fr D__law_cell_at
  have H__law_deck_at := h__law_deck_at (P := P) (w := w) (base := base) fr D__law_deck_at H__law_cell_at H__law_deck
  have H__law_back := h__law_back (P := P) (w := w) (base := base) fr D__law_back
  have H__law_is_lone := h__law_is_lone (P := P) (w := w) (base := base) fr D__law_is_lone H__law_back
  have H__law_feet := h__law_feet (P := P) (w := w) (base := base) fr D__law_feet H__law_draw
  have H__law_kit := h__law_kit (P := P) (w := w) (base := base) fr D__law_kit H__law_draw H__law_feet
  have H__law_times := h__law_times (P := P) (w := w) (base := base) fr D__law_times
  have H__law_whole := h__law_whole (P := P) (w := w) (base := base) fr D__law_whole
  have H__law_words := h__law_words (P := P) (w := w) (base := base) fr D__law_words H__law_back H__law_times
  have H_opposite := h_opposite (P := P) (w := w) (base := base) fr D_opposite
  have H_put_together := h_put_together (P := P) (w := w) (base := base) fr D_put_together
  have H_crossed_words := h_crossed_words (P := P) (w := w) (base := base) fr D_crossed_words H_opposite H_put_together
  have H_words_of := h_words_of (P := P) (w := w) (base := base) fr D_words_of H_crossed_words
  exact ok_law fr (toFun F16) H__law_braid H__law_deck H__law_deck_at H__law_draw H__law_is_lone H__law_kit H__law_times H__law_whole H__law_words H_words_of
/-- the law, of what its mirror answers -/
theorem holds_of (hm : ∀ ns : List Int, ns.length ≤ 63 → ∃ outs, fn_law [.fz (.list (ns.map .int))] = .ok (.fz (.bool true)) outs) : PySem.Challenge.rw_slidewires_k60_words_on_wires.Holds := by
  w_on; o_law
  refine HandSHeadRun.head_any (r := R) (q := PySem.W.view R.prog [18]) (H := hk) (ob := ob) (M := 2000) (loose := loose) (d := HandSHeadRun.topDef R.prog 18) (kwd := []) ob_eq
    (by kernel_rfl) (fun s => by kernel_rfl) run (by kernel_rfl) (by kernel_rfl) (by kernel_rfl) (by rfl) (by first | assumption | decide +kernel) (by decide +kernel) ⟨rfl, rfl, rfl, rfl, rfl, by decide +kernel⟩ ?hw ?hc
  case hw => w_witness2
  case hc =>
    refine walk_sw (l := PySem.Challenge.rw_slidewires_k60_words_on_wires) (n := 63) (k := 4) (x := "_law_script") (fn := fn_law) rfl (by decide) (by kernel_rfl) ⟨rfl, by decide, by decide⟩ ?F hm
    intro w mg fa h Y G hmg0
    obtain ⟨K, KX, c⟩ := Y
    have hmg : mg ("law" : PySem.Str) = some (.ref fa) := by
      have e : (HandSHeadRun.topDef R.prog 18).name = ("law" : PySem.Str) := by kernel_rfl
      rw [← e]
      exact hmg0
    obtain ⟨fd, hb, hF⟩ := facts (P := (PySem.Challenge.rw_slidewires_k60_words_on_wires).prog) (w := w) KX G hmg c
    exact ⟨K, fd, KX, hb, hF⟩
end K60a

/-! K60p: what the defs answer. -/
namespace K60a
open PySem Sw K60m
/-- one letter -/
theorem pt_one (s : Wd) (n : Int) (m0 m2 : M) (h : (pu n s).length < 16777216) :
    b_put_together_0 [some m0, some (.ol (nums s.reverse)), some m2, some (.fz (.int n))] = .nx [some m0, some (.ol (nums (pu n s).reverse)), some m2, some (.fz (.int n))] := by
  unfold b_put_together_0
  cases s with
  | nil =>
    simp [oNe_nil0, fAppend, gd, pu]
  | cons m t =>
    have e1 : oNe (.ol (nums (t.reverse ++ [m]))) (.ol []) = some (.fz (.bool true)) := oNe_cons (by rw [nums_app]; simp) (plain_nums _)
    have e2 : oIx (.ol (nums (t.reverse ++ [m]))) (.fz (.int (-1))) = some (.fz (.int m)) := by
      unfold oIx
      rw [nums_app]
      show (L2.atI (nums t.reverse ++ [.int m]) (-1)).map M.fz = _
      rw [atI_last]; rfl
    have e3 : oNeg (.fz (.int 1)) = some (.fz (.int (-1))) := rfl
    have e4 : oNeg (.fz (.int n)) = some (.fz (.int (-n))) := rfl
    by_cases k : m = -n
    · subst k
      have e5 : fPop (.ol (nums (t.reverse ++ [-n]))) [] = some (.ol (nums t.reverse), .int (-n)) := by
        unfold fPop
        rw [nums_app]
        simp
      simp [e1, e2, e3, e4, oEq_int, e5, pu]
    · have e5 : fAppend (.ol (nums (t.reverse ++ [m]))) [.fz (.int n)] = some (.ol (nums (t.reverse ++ [m] ++ [n])), .none) := by
        have hl : (pu n (m :: t)).length = t.length + 2 := by simp [pu, k]
        show (if (nums (t.reverse ++ [m])).length < 16777216 then some (M.ol (nums (t.reverse ++ [m]) ++ [.int n]), PyData.none) else none) = _
        rw [if_pos (by simp; omega), nums_app (t.reverse ++ [m])]
        rfl
      simp [e1, e2, e3, e4, oEq_int, e5, pu, k]
theorem pt_inner : ∀ (w s : Wd) (m0 m2 : M) (x : Option M), (∀ u z, w = u ++ z → (act s u).length < 16777216) →
    ∃ x', forR (bNm 3) b_put_together_0 (nums w) [some m0, some (.ol (nums s.reverse)), some m2, x] = .nx [some m0, some (.ol (nums (act s w).reverse)), some m2, x']
  | [], s, m0, m2, x, _ => ⟨x, rfl⟩
  | n :: w, s, m0, m2, x, h => by
    obtain ⟨x', e⟩ := pt_inner w (pu n s) m0 m2 (some (.fz (.int n))) fun u z q => h (n :: u) z (by rw [q]; rfl)
    refine ⟨x', ?_⟩
    rw [nums_cons, for_cons (ε1 := [some m0, some (.ol (nums s.reverse)), some m2, some (.fz (.int n))]) (by simp) (pt_one s n m0 m2 (h [n] w rfl)), e]
    rfl
def encT (w : Wd) : D := .tuple (nums w)
def encL (w : Wd) : D := .list (nums w)
theorem pt_outer (enc : Wd → D) (henc : enc = encT ∨ enc = encL) : ∀ (ws : List Wd) (s : Wd) (m0 : M) (x2 x3 : Option M), (∀ u z, ws.flatten = u ++ z → (act s u).length < 16777216) →
    ∃ x2' x3', forR (bNm 2) b_put_together_1 (ws.map enc) [some m0, some (.ol (nums s.reverse)), x2, x3] = .nx [some m0, some (.ol (nums (act s ws.flatten).reverse)), x2', x3']
  | [], s, m0, x2, x3, _ => ⟨x2, x3, rfl⟩
  | w :: ws, s, m0, x2, x3, h => by
    obtain ⟨y3, e1⟩ := pt_inner w s m0 (.fz (enc w)) x3 fun u z q => h u (z ++ ws.flatten) (by rw [List.flatten_cons, q, List.append_assoc])
    obtain ⟨x2', x3', e2⟩ := pt_outer enc henc ws (act s w) m0 (some (.fz (enc w))) y3 fun u z q => by
      rw [← act_app]
      exact h (w ++ u) z (by rw [List.flatten_cons, q, List.append_assoc])
    refine ⟨x2', x3', ?_⟩
    have e3 : b_put_together_1 [some m0, some (.ol (nums s.reverse)), some (.fz (enc w)), x3] = .nx [some m0, some (.ol (nums (act s w).reverse)), some (.fz (enc w)), y3] := by
      unfold b_put_together_1
      rcases henc with rfl | rfl
      · simp [encT] at e1 ⊢
        exact e1
      · simp [encL] at e1 ⊢
        exact e1
    rw [List.map_cons, for_cons (ε1 := [some m0, some (.ol (nums s.reverse)), some (.fz (enc w)), x3]) (by simp) e3, e2, List.flatten_cons, act_app]
/-- put_together: the words' reduction -/
theorem put_ok (enc : Wd → D) (henc : enc = encT ∨ enc = encL) (ws : List Wd) (m : M) (hm : m = .ol (ws.map enc)) (h : ∀ u z, ws.flatten = u ++ z → (act [] u).length < 16777216) :
    fn_put_together [m] = .ok (.fz (encT (red ws.flatten))) [some (.fz (.list (ws.map enc)))] := by
  subst hm
  obtain ⟨x2, x3, e⟩ := pt_outer enc henc ws [] (.fz (.list (ws.map enc))) none none h
  rw [fn_put_together, mk_run (by rfl)]
  simp at e
  simp [sv_put_together, e, oTuple, encT, red]
theorem times_ok (enc : Wd → D) (henc : enc = encT ∨ enc = encL) (ws : List Wd) (m : M) (d : D) (hm : m = .ol (ws.map enc) ∧ d = .list (ws.map enc) ∨ m = .fz (.tuple (ws.map enc)) ∧ d = .tuple (ws.map enc)) (h : ∀ u z, ws.flatten = u ++ z → (act [] u).length < 16777216) :
    fn__law_times [m] = .ok (.ol (nums (red ws.flatten))) [some (.fz d)] := by
  obtain ⟨x2, x3, e⟩ := pt_outer enc henc ws [] (.fz d) none none h
  have e : forR (bNm 2) b__law_times_1 (ws.map enc) [some (.fz d), some (.ol (nums (List.reverse []))), none, none] = _ := e
  rw [fn__law_times, mk_run (by rfl)]
  simp at e
  rcases hm with ⟨rfl, rfl⟩ | ⟨rfl, rfl⟩
  · simp [sv__law_times, e, red]
  · simp [sv__law_times, e, red]
/-- opposite, back -/
theorem neg_comp {e : Ev} (he : e = eUn oNeg (eVar 1)) : ∀ (w : Wd) (acc : List D) (m0 : M) (x : Option M), compR [1] (bNm 1) cYes e (nums w) acc [some m0, none] = .ok (acc ++ nums (w.map fun n => -n)) [some m0, none]
  | [], acc, m0, x => by simp [compR]
  | n :: w, acc, m0, x => by
    rw [nums_cons, comp_cons (ε1 := [some m0, some (.fz (.int n))]) (acc' := acc ++ [.int (-n)]) (ε' := [some m0, none]) (by simp) (by subst he; simp [cstep, oNeg]), neg_comp he w _ m0 x]
    simp
theorem opposite_ok (w : Wd) : fn_opposite [.fz (encT w)] = .ok (.fz (encT (opp w))) [some (.fz (encT w))] := by
  have e := neg_comp (e := e_opposite_0) rfl w.reverse [] (.fz (encT w)) none
  rw [fn_opposite, mk_run (by rfl)]
  have e2 : (nums w).reverse = nums w.reverse := by unfold nums; rw [List.map_reverse]
  simp [encT] at e
  simp [sv_opposite, encT, e2, e, oTuple, opp]
theorem back_ok (w : Wd) (d : D) (hd : d = encT w ∨ d = encL w) : fn__law_back [.fz d] = .ok (.ol (nums (opp w))) [some (.fz d)] := by
  have e := neg_comp (e := e__law_back_0) rfl w.reverse [] (.fz d) none
  rw [fn__law_back, mk_run (by rfl)]
  have e2 : (nums w).reverse = nums w.reverse := by unfold nums; rw [List.map_reverse]
  rcases hd with rfl | rfl
  · simp [encT] at e
    simp [sv__law_back, encT, oRv, e2, e, opp]
  · simp [encL] at e
    simp [sv__law_back, encL, oRv, e2, e, opp]
end K60a

/-! K60q: crossings; the row's words. -/
namespace K60a
open PySem Sw K60m
def stp (ov : Bool) : D := .tuple [.str (if ov = true then "over" else "under")]
theorem oEq_over (ov : Bool) : oEq (.fz (stp ov)) (.fz (.tuple [.str "over"])) = some (.fz (.bool ov)) := by
  show (if eqOk (stp ov) (.tuple [.str "over"]) = true then some (M.fz (.bool (PyData.eqv (stp ov) (.tuple [.str "over"])))) else none) = _
  have h1 : eqOk (stp ov) (.tuple [.str "over"]) = true := by cases ov <;> decide +kernel
  have h2 : PyData.eqv (stp ov) (.tuple [.str "over"]) = ov := by cases ov <;> decide +kernel
  rw [if_pos h1, h2]
theorem small_pre {w : Wd} (h : w.length < 16777216) : ∀ u z, w = u ++ z → (act [] u).length < 16777216 := fun u z e => by
  have h1 := act_len [] u
  have h2 : u.length ≤ w.length := by rw [e]; simp
  simp at h1
  omega
theorem crossed_ok (ov : Bool) (l r : Wd) (h : 2 * l.length + r.length < 16777216) (h' : l.length + 2 * r.length < 16777216) :
    fn_crossed_words [.fz (stp ov), .fz (encT l), .fz (encT r)] = .ok (.fz (.tuple [encT (cr ov l r).1, encT (cr ov l r).2])) [some (.fz (stp ov)), some (.fz (encT l)), some (.fz (encT r))] := by
  have e1 := oEq_over ov
  rw [fn_crossed_words, mk_run (by rfl)]
  cases ov with
  | true =>
    have e2 := put_ok encT (.inl rfl) [l, r, opp l] _ rfl (by
      refine small_pre ?_
      simp [opp_len]
      omega)
    have e3 : [l, r, opp l].flatten = l ++ r ++ opp l := by simp
    rw [e3] at e2
    simp only [List.map_cons, List.map_nil] at e2
    simp [sv_crossed_words, e1, opposite_ok, e2, cr]
  | false =>
    have e2 := put_ok encT (.inl rfl) [opp r, l, r] _ rfl (by
      refine small_pre ?_
      simp [opp_len]
      omega)
    have e3 : [opp r, l, r].flatten = opp r ++ l ++ r := by simp
    rw [e3] at e2
    simp only [List.map_cons, List.map_nil] at e2
    simp [sv_crossed_words, e1, opposite_ok, e2, cr]
def rstep (row : List Wd) (q : Nat × Bool) : List Wd := row.take q.1 ++ (cr q.2 (row.getD q.1 []) (row.getD (q.1 + 1) [])).1 :: (cr q.2 (row.getD q.1 []) (row.getD (q.1 + 1) [])).2 :: row.drop (q.1 + 2)
theorem row_dec {row : List Wd} {p : Nat} (h : p + 1 < row.length) : ∃ A l r B, row = A ++ l :: r :: B ∧ A.length = p := by
  refine ⟨row.take p, row[p], row[p + 1], row.drop (p + 2), ?_, by rw [List.length_take]; omega⟩
  rw [← List.drop_eq_getElem_cons, ← List.drop_eq_getElem_cons, List.take_append_drop]
theorem rstep_mid (A B : List Wd) (l r : Wd) (ov : Bool) : rstep (A ++ l :: r :: B) (A.length, ov) = A ++ (cr ov l r).1 :: (cr ov l r).2 :: B := by
  unfold rstep
  simp only [List.getD_eq_getElem?_getD, get_mid, get_mid1, Option.getD_some]
  rw [List.take_append_of_le_length (Nat.le_refl _), List.take_length, List.drop_append]
  simp
def lay (q : Nat × Bool) : D := .tuple [.int (q.1 : Int), stp q.2]
structure Lays (n : Nat) (ls : List (Nat × Bool)) : Prop where
  le : n ≤ 6
  ok : ∀ q ∈ ls, q.1 + 1 < n
theorem Lays.tail {n : Nat} {q : Nat × Bool} {ls : List (Nat × Bool)} (h : Lays n (q :: ls)) : Lays n ls := ⟨h.le, fun r hr => h.ok r (by simp [hr])⟩
def vsum (v : List Nat) (ls : List (Nat × Bool)) : Nat := (ls.foldl (fun v q => stepV v q.1) v).sum
theorem rows_ok {n : Nat} : ∀ (ls : List (Nat × Bool)) (row : List Wd) (v : List Nat), Lays n ls → RowOk n row v → RowOk n (ls.foldl rstep row) (ls.foldl (fun v q => stepV v q.1) v)
  | [], row, v, _, h => h
  | q :: ls, row, v, hl, h => by
    obtain ⟨p, ov⟩ := q
    obtain ⟨A, l, r, B, rfl, rfl⟩ := row_dec (p := p) (row := row) (by rw [h.len]; exact hl.ok (p, ov) (by simp))
    rw [List.foldl_cons, List.foldl_cons, rstep_mid]
    exact rows_ok ls _ _ hl.tail (h.step hl.le ov)
theorem two_short {n : Nat} {A B : List Wd} {l r : Wd} {v : List Nat} (h : RowOk n (A ++ l :: r :: B) v) (hv : v.sum ≤ 5193728) : 2 * l.length + r.length < 16777216 ∧ l.length + 2 * r.length < 16777216 := by
  have h1 := h.words
  have h2 := RowOk.words (A := A ++ [l]) (l := r) (B := B) (by simpa using h)
  rw [List.length_append, List.length_singleton, show A.length + 1 + 1 = A.length + 2 from rfl] at h2
  have h3 := three_le h.vl A.length
  omega
theorem map_mid (A B : List Wd) (l r : Wd) (f : Wd → D) : (A ++ l :: r :: B).map f = A.map f ++ f l :: f r :: B.map f := by simp
/-- words_of's loop -/
theorem words_loop {n : Nat} : ∀ (ls : List (Nat × Bool)) (row : List Wd) (v : List Nat) (m0 m1 m2 m3 : M) (x5 x6 x7 x8 x9 : Option M), Lays n ls → RowOk n row v → (∀ k, k ≤ ls.length → vsum v (ls.take k) ≤ 5193728) →
    ∃ y5 y6 y7 y8, forR (bTp [bNm 5, bNm 6]) b_words_of_1 (ls.map lay) [some m0, some m1, some m2, some m3, some (.ol (row.map encT)), x5, x6, x7, x8, x9] = .nx [some m0, some m1, some m2, some m3, some (.ol ((ls.foldl rstep row).map encT)), y5, y6, y7, y8, x9]
  | [], row, v, m0, m1, m2, m3, x5, x6, x7, x8, x9, _, _, _ => ⟨x5, x6, x7, x8, rfl⟩
  | (p, ov) :: ls, row, v, m0, m1, m2, m3, x5, x6, x7, x8, x9, hl, h, hv => by
    obtain ⟨A, l, r, B, rfl, rfl⟩ := row_dec (p := p) (row := row) (by rw [h.len]; exact hl.ok (p, ov) (by simp))
    have hs : v.sum ≤ 5193728 := hv 0 (Nat.zero_le _)
    obtain ⟨k1, k2⟩ := two_short h hs
    have e1 := crossed_ok ov l r k1 k2
    obtain ⟨y5, y6, y7, y8, e2⟩ := words_loop ls (A ++ (cr ov l r).1 :: (cr ov l r).2 :: B) (stepV v A.length) m0 m1 m2 m3 (some (.fz (.int (A.length : Int)))) (some (.fz (stp ov))) (some (.fz (encT (cr ov l r).1))) (some (.fz (encT (cr ov l r).2))) x9 hl.tail (h.step hl.le ov)
      fun k hk => hv (k + 1) (by simpa using hk)
    refine ⟨y5, y6, y7, y8, ?_⟩
    rw [List.map_cons, List.foldl_cons, rstep_mid, ← e2]
    have hA : (A.map encT).length = A.length := List.length_map _
    have g1 : L2.atI (A.map encT ++ encT l :: encT r :: B.map encT) (A.length : Int) = some (encT l) := atI_some (by rw [← hA]; exact get_mid _ _ _ _)
    have g2 : L2.atI (A.map encT ++ encT l :: encT r :: B.map encT) ((A.length : Int) + 1) = some (encT r) := by
      have : ((A.length : Int) + 1) = ((A.length + 1 : Nat) : Int) := by omega
      rw [this]
      exact atI_some (by rw [← hA]; exact get_mid1 _ _ _ _)
    refine for_cons (ε1 := [some m0, some m1, some m2, some m3, some (.ol (A.map encT ++ encT l :: encT r :: B.map encT)), some (.fz (.int (A.length : Int))), some (.fz (stp ov)), x7, x8, x9]) (by simp [lay]) ?_
    unfold b_words_of_1
    have g3 : ∀ ds : List D, ds.length = A.length + B.length + 2 → L2.ixN ds.length (A.length : Int) = some A.length := fun ds e => ixN_nat (by omega)
    have g4 : ∀ ds : List D, ds.length = A.length + B.length + 2 → L2.ixN ds.length ((A.length : Int) + 1) = some (A.length + 1) := fun ds e => by
      have : ((A.length : Int) + 1) = ((A.length + 1 : Nat) : Int) := by omega
      rw [this]
      exact ixN_nat (by omega)
    have f1 : ∀ d : D, fSetL (.ol (A.map encT ++ encT l :: encT r :: B.map encT)) (.fz (.int (A.length : Int))) d = some (.ol (A.map encT ++ d :: encT r :: B.map encT)) := fun d => by
      show (L2.ixN (A.map encT ++ encT l :: encT r :: B.map encT).length (A.length : Int)).map (fun j => M.ol ((A.map encT ++ encT l :: encT r :: B.map encT).set j d)) = _
      rw [g3 _ (by simp; omega), Option.map_some, ← hA, set_mid]
    have f2 : ∀ d c : D, fSetL (.ol (A.map encT ++ c :: encT r :: B.map encT)) (.fz (.int ((A.length : Int) + 1))) d = some (.ol (A.map encT ++ c :: d :: B.map encT)) := fun d c => by
      show (L2.ixN (A.map encT ++ c :: encT r :: B.map encT).length ((A.length : Int) + 1)).map (fun j => M.ol ((A.map encT ++ c :: encT r :: B.map encT).set j d)) = _
      rw [g4 _ (by simp; omega), Option.map_some, ← hA, set_mid1]
    have i1 : oIx (.ol (A.map encT ++ encT l :: encT r :: B.map encT)) (.fz (.int (A.length : Int))) = some (.fz (encT l)) := by
      show (L2.atI _ _).map M.fz = _
      rw [g1]; rfl
    have i2 : oIx (.ol (A.map encT ++ encT l :: encT r :: B.map encT)) (.fz (.int ((A.length : Int) + 1))) = some (.fz (encT r)) := by
      show (L2.atI _ _).map M.fz = _
      rw [g2]; rfl
    have a1 : ∀ i : Int, oAdd (.fz (.int i)) (.fz (.int 1)) = some (.fz (.int (i + 1))) := fun i => rfl
    simp [i1, i2, a1, e1, f1, f2]
end K60a

/-! K60r: words_of, and the law's own words. -/
namespace K60a
open PySem Sw K60m
def kof : D → Int
  | .int i => i
  | _ => 0
theorem upto_map (n : Nat) (f : D → D) (g : Wd → D) (h : ∀ i : Int, f (.int i) = g [i + 1]) : (upto n).map f = (row0 n).map g := by
  unfold upto row0
  rw [List.map_map, List.map_map]
  congr 1
  funext i
  exact h i
theorem words_ok {n : Nat} (kit : D) (ab : List D) (ls : List (Nat × Bool)) (hn : ab.length = n) (hl : Lays n ls) (hv : ∀ k, k ≤ ls.length → vsum [0, 1, 2, 3, 4, 5, 6] (ls.take k) ≤ 5193728) :
    fn_words_of [.fz kit, .fz (.tuple [.tuple ab, .tuple (ls.map lay)])] = .ok (.fz (.tuple ((ls.foldl rstep (row0 n)).map encT))) [some (.fz kit), some (.fz (.tuple [.tuple ab, .tuple (ls.map lay)]))] := by
  have hle := hl.le
  rw [fn_words_of, mk_run (by rfl)]
  obtain ⟨y5, y6, y7, y8, e2⟩ := words_loop ls (row0 n) _ (.fz kit) (.fz (.tuple [.tuple ab, .tuple (ls.map lay)])) (.fz (.tuple ab)) (.fz (.tuple (ls.map lay))) none none none none none hl (RowOk.start hle) hv
  have e3 := comp_map (own := [9]) (b := bNm 9) (e := e_words_of_0) (fun d => encT [kof d + 1]) (ε := [some (.fz kit), some (.fz (.tuple [.tuple ab, .tuple (ls.map lay)])), some (.fz (.tuple ab)), some (.fz (.tuple (ls.map lay))), none, none, none, none, none, none]) (upto n) [] (by
    intro d hd
    obtain ⟨i, _, rfl⟩ := List.mem_map.mp hd
    refine ⟨_, rfl, fun acc => ?_⟩
    simp [cstep, e_words_of_0, oAdd, kof, encT])
  rw [upto_map n _ encT (fun i => rfl), List.nil_append] at e3
  have e4 : range1 [.int (ab.length : Int)] = some (upto n) := by rw [hn]; exact range1_nat (by omega)
  simp [sv_words_of, oLen, e4, e3, e2, oTuple]
/-- the law's loop -/
theorem lwords_loop {n : Nat} : ∀ (ls : List (Nat × Bool)) (row : List Wd) (v : List Nat) (m0 m1 : M) (x3 x4 x5 x6 x7 x8 : Option M), Lays n ls → RowOk n row v → (∀ k, k ≤ ls.length → vsum v (ls.take k) ≤ 5193728) →
    ∃ y3 y4 y5 y6, forR (bTp [bNm 3, bNm 4]) b__law_words_1 (ls.map lay) [some m0, some m1, some (.ol (row.map encL)), x3, x4, x5, x6, x7, x8] = .nx [some m0, some m1, some (.ol ((ls.foldl rstep row).map encL)), y3, y4, y5, y6, x7, x8]
  | [], row, v, m0, m1, x3, x4, x5, x6, x7, x8, _, _, _ => ⟨x3, x4, x5, x6, rfl⟩
  | (p, ov) :: ls, row, v, m0, m1, x3, x4, x5, x6, x7, x8, hl, h, hv => by
    obtain ⟨A, l, r, B, rfl, rfl⟩ := row_dec (p := p) (row := row) (by rw [h.len]; exact hl.ok (p, ov) (by simp))
    have hs : v.sum ≤ 5193728 := hv 0 (Nat.zero_le _)
    obtain ⟨k1, k2⟩ := two_short h hs
    obtain ⟨y3, y4, y5, y6, e2⟩ := lwords_loop ls (A ++ (cr ov l r).1 :: (cr ov l r).2 :: B) (stepV v A.length) m0 m1 (some (.fz (.int (A.length : Int)))) (some (.fz (stp ov))) (some (.fz (encL l))) (some (.fz (encL r))) x7 x8 hl.tail (h.step hl.le ov)
      fun k hk => hv (k + 1) (by simpa using hk)
    refine ⟨y3, y4, y5, y6, ?_⟩
    rw [List.map_cons, List.foldl_cons, rstep_mid, ← e2]
    have hA : (A.map encL).length = A.length := List.length_map _
    have hlen := h.len
    have hle := hl.le
    simp only [List.length_append, List.length_cons] at hlen
    refine for_cons (ε1 := [some m0, some m1, some (.ol (A.map encL ++ encL l :: encL r :: B.map encL)), some (.fz (.int (A.length : Int))), some (.fz (stp ov)), x5, x6, x7, x8]) (by simp [lay]) ?_
    unfold b__law_words_1
    have i1 : oIx (.ol (A.map encL ++ encL l :: encL r :: B.map encL)) (.fz (.int (A.length : Int))) = some (.fz (encL l)) := by
      show (L2.atI _ _).map M.fz = _
      rw [atI_some (by rw [← hA]; exact get_mid _ _ _ _)]; rfl
    have i2 : oIx (.ol (A.map encL ++ encL l :: encL r :: B.map encL)) (.fz (.int ((A.length : Int) + 1))) = some (.fz (encL r)) := by
      show (L2.atI _ _).map M.fz = _
      have : ((A.length : Int) + 1) = ((A.length + 1 : Nat) : Int) := by omega
      rw [this, atI_some (by rw [← hA]; exact get_mid1 _ _ _ _)]; rfl
    have a1 : ∀ i j : Int, oAdd (.fz (.int i)) (.fz (.int j)) = some (.fz (.int (i + j))) := fun i j => rfl
    have s1 : oSl none (some (A.length : Int)) (.ol (A.map encL ++ encL l :: encL r :: B.map encL)) = some (.ol (A.map encL)) := by
      show some (M.ol (cutD _ _ _)) = _
      rw [cut_to, List.take_append_of_le_length (by omega), List.take_of_length_le (by omega)]
    have s2 : oSl (some ((A.length : Int) + 2)) none (.ol (A.map encL ++ encL l :: encL r :: B.map encL)) = some (.ol (B.map encL)) := by
      show some (M.ol (cutD _ _ _)) = _
      have : ((A.length : Int) + 2) = ((A.length + 2 : Nat) : Int) := by omega
      rw [this, cut_from, List.drop_append, hA]
      have : A.length + 2 - A.length = 2 := by omega
      rw [this, List.drop_of_length_le (by omega)]
      rfl
    have hz : sizeLine = 16777216 := sizeLine_eq
    have c1 : ∀ x y : D, oAdd (.ol (A.map encL)) (.ol [x, y]) = some (.ol (A.map encL ++ [x, y])) := fun x y => by
      show guardO _ _ = _
      unfold guardO
      rw [if_pos (by simp; omega)]
    have c2 : ∀ x y : D, oAdd (.ol (A.map encL ++ [x, y])) (.ol (B.map encL)) = some (.ol (A.map encL ++ x :: y :: B.map encL)) := fun x y => by
      show guardO _ _ = _
      unfold guardO
      rw [if_pos (by simp; omega)]
      simp
    have e1 := oEq_over ov
    have bl : ∀ w, fn__law_back [.fz (encL w)] = .ok (.ol (nums (opp w))) [some (.fz (encL w))] := fun w => back_ok w _ (.inr rfl)
    cases ov with
    | true =>
      have t1 := times_ok encL (.inr rfl) [l, r, opp l] _ _ (.inl ⟨rfl, rfl⟩) (by
        refine small_pre ?_
        simp [opp_len]
        omega)
      have e3 : [l, r, opp l].flatten = l ++ r ++ opp l := by simp
      rw [e3] at t1
      simp only [List.map_cons, List.map_nil] at t1
      have t2 : (PyData.list (nums (opp l)) : D) = encL (opp l) := rfl
      have t3 : (PyData.list (nums (red (l ++ r ++ opp l))) : D) = encL (cr true l r).1 := rfl
      have t4 : encL l = encL (cr true l r).2 := rfl
      simp [i1, i2, a1, e1, s1, s2, bl, t2, t1, c1, c2]
      rw [← List.append_assoc, t3, t4]
      exact ⟨rfl, rfl⟩
    | false =>
      have t1 := times_ok encL (.inr rfl) [opp r, l, r] _ _ (.inl ⟨rfl, rfl⟩) (by
        refine small_pre ?_
        simp [opp_len]
        omega)
      have e3 : [opp r, l, r].flatten = opp r ++ l ++ r := by simp
      rw [e3] at t1
      simp only [List.map_cons, List.map_nil] at t1
      have t2 : (PyData.list (nums (opp r)) : D) = encL (opp r) := rfl
      have t3 : (PyData.list (nums (red (opp r ++ l ++ r))) : D) = encL (cr false l r).2 := rfl
      have t4 : encL r = encL (cr false l r).1 := rfl
      simp [i1, i2, a1, e1, s1, s2, bl, t2, t1, c1, c2]
      rw [← List.append_assoc, t3, t4]
      exact ⟨rfl, rfl⟩
end K60a

/-! K60s: the law's words, its tests, its draws. -/
namespace K60a
open PySem Sw K60m
def lofT : D → D
  | .list ds => .tuple ds
  | d => d
theorem lwords_ok {n : Nat} (ls : List (Nat × Bool)) (hl : Lays n ls) (hv : ∀ k, k ≤ ls.length → vsum [0, 1, 2, 3, 4, 5, 6] (ls.take k) ≤ 5193728) :
    fn__law_words [.fz (.int (n : Int)), .fz (.tuple (ls.map lay))] = .ok (.fz (.tuple ((ls.foldl rstep (row0 n)).map encT))) [some (.fz (.int (n : Int))), some (.fz (.tuple (ls.map lay)))] := by
  have hle := hl.le
  rw [fn__law_words, mk_run (by rfl)]
  obtain ⟨y3, y4, y5, y6, e2⟩ := lwords_loop ls (row0 n) _ (.fz (.int (n : Int))) (.fz (.tuple (ls.map lay))) none none none none none none hl (RowOk.start hle) hv
  have e3 := comp_map (own := [7]) (b := bNm 7) (e := e__law_words_0) (fun d => encL [kof d + 1]) (ε := [some (.fz (.int (n : Int))), some (.fz (.tuple (ls.map lay))), none, none, none, none, none, none, none]) (upto n) [] (by
    intro d hd
    obtain ⟨i, _, rfl⟩ := List.mem_map.mp hd
    refine ⟨_, rfl, fun acc => ?_⟩
    simp [cstep, e__law_words_0, oAdd, kof, encL])
  rw [upto_map n _ encL (fun i => rfl), List.nil_append] at e3
  have e4 : range1 [.int (n : Int)] = some (upto n) := range1_nat (by omega)
  have e5 := comp_map (own := [8]) (b := bNm 8) (e := e__law_words_2) lofT (ε := [some (.fz (.int (n : Int))), some (.fz (.tuple (ls.map lay))), some (.fz (.list ((ls.foldl rstep (row0 n)).map encL))), y3, y4, y5, y6, none, none]) ((ls.foldl rstep (row0 n)).map encL) [] (by
    intro d hd
    obtain ⟨w, _, rfl⟩ := List.mem_map.mp hd
    refine ⟨_, rfl, fun acc => ?_⟩
    simp [cstep, e__law_words_2, oTuple, encL, lofT])
  have e6 : ((ls.foldl rstep (row0 n)).map encL).map lofT = (ls.foldl rstep (row0 n)).map encT := by rw [List.map_map]; rfl
  rw [e6, List.nil_append] at e5
  simp [sv__law_words, e4, e3, e2, e5, oTuple]
theorem lone_ok {w : Wd} (h : Lone w) : fn__law_is_lone [.fz (encT w)] = .ok (.fz (.bool true)) [some (.fz (encT w))] := by
  obtain ⟨u, g, hg, e, _⟩ := h
  have hlen : ((nums w).length : Int) = 2 * (u.length : Int) + 1 := by
    rw [nums_len, e]
    simp [opp_len]
    omega
  have q1 : oLen [.fz (encT w)] = some (.fz (.int (2 * (u.length : Int) + 1))) := by
    show some (M.fz (.int ((nums w).length : Int))) = _
    rw [hlen]
  have q2 : oDiv (.fz (.int (2 * (u.length : Int) + 1))) (.fz (.int 2)) = some (.fz (.int (u.length : Int))) := by
    show guardO _ _ = _
    unfold guardO
    rw [if_pos (by decide)]
    have : (2 * (u.length : Int) + 1) / 2 = u.length := by omega
    rw [this]
  have q3 : oMod (.fz (.int (2 * (u.length : Int) + 1))) (.fz (.int 2)) = some (.fz (.int 1)) := by
    show guardO _ _ = _
    unfold guardO
    rw [if_pos (by decide)]
    have : (2 * (u.length : Int) + 1) % 2 = 1 := by omega
    rw [this]
  have hn : nums w = nums u ++ PyData.int g :: nums (opp u) := by rw [e, nums_app, nums_app]; simp
  have q4 : oIx (.fz (encT w)) (.fz (.int (u.length : Int))) = some (.fz (.int g)) := by
    show (L2.atI (nums w) _).map M.fz = _
    rw [atI_some (x := .int g) (by rw [hn, List.getElem?_append_right (by simp)]; simp)]
    rfl
  have q6 : oSl (some ((u.length : Int) + 1)) none (.fz (encT w)) = some (.fz (encT (opp u))) := by
    show some (M.fz (.tuple (cutD (nums w) _ _))) = _
    have : ((u.length : Int) + 1) = ((u.length + 1 : Nat) : Int) := by omega
    rw [this, cut_from, hn, List.drop_append]
    simp [encT]
  have q7 : oSl none (some (u.length : Int)) (.fz (encT w)) = some (.fz (encT u)) := by
    show some (M.fz (.tuple (cutD (nums w) _ _))) = _
    rw [cut_to, hn, List.take_append_of_le_length (by simp), List.take_of_length_le (by simp)]
    rfl
  have q8 : oList [.fz (encT (opp u))] = some (.ol (nums (opp u))) := rfl
  have q9 : oEq (.ol (nums (opp u))) (.ol (nums (opp u))) = some (.fz (.bool true)) := oEq_same (d := .list (nums (opp u))) rfl rfl (plain_nums _) (by
    show PyData.depthAll (nums (opp u)) + 1 ≤ 60
    have := depth_nums (opp u)
    omega)
  have q10 := back_ok u (encT u) (.inl rfl)
  have a1 : ∀ i j : Int, oAdd (.fz (.int i)) (.fz (.int j)) = some (.fz (.int (i + j))) := fun i j => rfl
  rw [fn__law_is_lone, mk_run (by rfl)]
  simp [sv__law_is_lone, q1, q2, q3, q4, q6, q7, q8, q9, q10, a1, oEq_int, oGt, hg]
theorem whole_loop : ∀ (ws : List Wd) (m0 : M) (x1 : Option M), ∃ x1', forR (bNm 1) b__law_whole_2 (ws.map encT) [some m0, x1, none] = .nx [some m0, x1', none]
  | [], m0, x1 => ⟨x1, rfl⟩
  | w :: ws, m0, x1 => by
    obtain ⟨x', e⟩ := whole_loop ws m0 (some (.fz (encT w)))
    refine ⟨x', ?_⟩
    have e2 := comp_none (own := [2]) (b := bNm 2) (t := t__law_whole_0) (e := e__law_whole_1) (ε := [some m0, some (.fz (encT w)), none]) (nums w) [] (by
      intro d hd
      obtain ⟨i, _, rfl⟩ := List.mem_map.mp hd
      refine ⟨_, rfl, fun acc => ?_⟩
      simp [cstep, t__law_whole_0, oIsi, kdM, kdD, isiK])
    have e3 : oIsi .tuple (.fz (encT w)) = some (.fz (.bool true)) := rfl
    simp [encT] at e2
    rw [List.map_cons, for_cons (ε1 := [some m0, some (.fz (encT w)), none]) (ε2 := [some m0, some (.fz (encT w)), none]) (by simp) (by
      unfold b__law_whole_2
      simp [e3]
      simp [encT, e2, oNe_nil0]), e]
theorem whole_ok (ws : List Wd) : fn__law_whole [.fz (.tuple (ws.map encT))] = .ok (.fz (.bool true)) [some (.fz (.tuple (ws.map encT)))] := by
  obtain ⟨x', e⟩ := whole_loop ws (.fz (.tuple (ws.map encT))) none
  rw [fn__law_whole, mk_run (by rfl)]
  have e3 : oIsi .tuple (.fz (.tuple (ws.map encT))) = some (.fz (.bool true)) := rfl
  simp [sv__law_whole, e, e3]
/-! draws -/
def Dk (n : Nat) (ds : List D) : Prop := ∃ a b c : Int, ds = [.int a, .int b, .int c] ∧ 0 ≤ b ∧ b ≤ n
theorem Dk.mono {n k : Nat} {ds : List D} (h : Dk n ds) (l : n ≤ k) : Dk k ds := by
  obtain ⟨a, b, c, h1, h2, h3⟩ := h
  exact ⟨a, b, c, h1, h2, by omega⟩
theorem mul_ok {i j : Int} (h : mulOk i j) : oMul (.fz (.int i)) (.fz (.int j)) = some (.fz (.int (i * j))) := by
  show guardO _ _ = _
  unfold guardO
  rw [if_pos h]
theorem mod_ok {i j : Int} (h : 0 < j) : oMod (.fz (.int i)) (.fz (.int j)) = some (.fz (.int (i % j))) := by
  show guardO _ _ = _
  unfold guardO
  rw [if_pos h]
theorem div_ok {i j : Int} (h : 0 < j) (h2 : j < 18446744073709551616) : oDiv (.fz (.int i)) (.fz (.int j)) = some (.fz (.int (i / j))) := by
  show guardO _ _ = _
  unfold guardO
  rw [if_pos ⟨h, h2⟩]
theorem draw_ok {n : Nat} {dk : List D} (h : Dk n dk) (hn : n ≤ 1000000000) {m : Int} (hm : 0 < m) (hm2 : m ≤ 1000) :
    ∃ (v : Int) (dk' : List D), Dk (n + 1) dk' ∧ 0 ≤ v ∧ v < m ∧ fn__law_draw [.ol dk, .fz (.int m)] = .ok (.fz (.int v)) [some (.ol dk'), some (.fz (.int m))] := by
  obtain ⟨a, b, c, rfl, h0, h1⟩ := h
  have a1 : ∀ i j : Int, oAdd (.fz (.int i)) (.fz (.int j)) = some (.fz (.int (i + j))) := fun i j => rfl
  by_cases ha : 0 < a
  · refine ⟨a % m, [.int (a / m), .int b, .int c], ⟨_, b, c, rfl, h0, by omega⟩, Int.emod_nonneg _ (by omega), Int.emod_lt_of_pos _ hm, ?_⟩
    rw [fn__law_draw, mk_run (by rfl)]
    simp [sv__law_draw, oGt, oIx, L2.atI, L2.ixN, mod_ok hm, div_ok hm (by omega : m < 18446744073709551616), fSetL, ha]
  · have x1 : mulOk 7919 (b + 1) := .inl ⟨by omega, by omega⟩
    have x2 : mulOk (7919 * (b + 1)) (b + 1) := .inr (.inl ⟨by omega, by omega⟩)
    have x3 : mulOk (c + 7919 * (b + 1) * (b + 1)) 48271 := .inr (.inl ⟨by decide, by decide⟩)
    generalize hx : (c + 7919 * (b + 1) * (b + 1)) * 48271 % 2147483647 = x
    have hx0 : 0 ≤ x := by rw [← hx]; exact Int.emod_nonneg _ (by decide)
    have hx1 : x < 2147483647 := by rw [← hx]; exact Int.emod_lt_of_pos _ (by decide)
    have x4 : mulOk x (x + 69621) := .inl ⟨by omega, by omega⟩
    refine ⟨x * (x + 69621) % 2147483629 / 8 % m, [.int a, .int (b + 1), .int c], ⟨a, b + 1, c, rfl, by omega, by omega⟩, Int.emod_nonneg _ (by omega), Int.emod_lt_of_pos _ hm, ?_⟩
    rw [fn__law_draw, mk_run (by rfl)]
    simp [sv__law_draw, oGt, oIx, L2.atI, L2.ixN, mod_ok hm, mod_ok (by decide : (0 : Int) < 2147483647), mod_ok (by decide : (0 : Int) < 2147483629), div_ok (by decide : (0 : Int) < 8) (by decide), fSetL, ha, a1, mul_ok x1, mul_ok x2, mul_ok x3, hx, mul_ok x4]
end K60a

/-! K60t: the law's stock and braid. -/
namespace K60a
open PySem Sw K60m
theorem a1 (i j : Int) : oAdd (.fz (.int i)) (.fz (.int j)) = some (.fz (.int (i + j))) := rfl
theorem s1 (i j : Int) : oSub (.fz (.int i)) (.fz (.int j)) = some (.fz (.int (i - j))) := rfl
theorem pow18 : oPow (.fz (.int 10)) (.fz (.int 18)) = some (.fz (.int 1000000000000000000)) := by
  show guardO _ _ = _
  unfold guardO
  rw [if_pos (by decide)]
  rfl
theorem deck_ok (c : Int) : ∃ dk, Dk 0 dk ∧ fn__law_deck [.fz (.int c)] = .ok (.ol dk) [some (.fz (.int c))] := by
  by_cases h : c < 1000000000000000000
  · refine ⟨[.int 0, .int 0, .int (c % 2147483647)], ⟨_, _, _, rfl, by omega, by omega⟩, ?_⟩
    rw [fn__law_deck, mk_run (by rfl)]
    simp [sv__law_deck, pow18, oLt, h, mod_ok (by decide : (0 : Int) < 2147483647)]
  · refine ⟨[.int c, .int 0, .int (c % 2147483647)], ⟨_, _, _, rfl, by omega, by omega⟩, ?_⟩
    rw [fn__law_deck, mk_run (by rfl)]
    simp [sv__law_deck, pow18, oLt, h, mod_ok (by decide : (0 : Int) < 2147483647)]
theorem cell_ok (ns : List Int) (k : Nat) : ∃ c : Int, fn__law_cell_at [.fz (.list (nums ns)), .fz (.int (k : Int))] = .ok (.fz (.int c)) [some (.fz (.list (nums ns))), some (.fz (.int (k : Int)))] := by
  by_cases h : k < ns.length
  · refine ⟨ns[k], ?_⟩
    have e : oIx (.fz (.list (nums ns))) (.fz (.int (k : Int))) = some (.fz (.int ns[k])) := by
      show (L2.atI (nums ns) _).map M.fz = _
      rw [atI_some (x := .int ns[k]) (by unfold nums; rw [List.getElem?_map, List.getElem?_eq_getElem h]; rfl)]
      rfl
    rw [fn__law_cell_at, mk_run (by rfl)]
    simp [sv__law_cell_at, oLen, oLt, h, e]
  · refine ⟨0, ?_⟩
    rw [fn__law_cell_at, mk_run (by rfl)]
    simp [sv__law_cell_at, oLen, oLt, h]
theorem deck_at_ok (ns : List Int) (k : Nat) (hk : k ≤ 100) : ∃ dk, Dk 0 dk ∧ fn__law_deck_at [.fz (.list (nums ns)), .fz (.int (k : Int))] = .ok (.ol dk) [some (.fz (.list (nums ns))), some (.fz (.int (k : Int)))] := by
  obtain ⟨c, e⟩ := cell_ok ns k
  by_cases h : c < 1000000000000000000
  · obtain ⟨dk, h1, e2⟩ := deck_ok (c % 2147483647 * 69621 + 7919 * (k : Int))
    refine ⟨dk, h1, ?_⟩
    have x1 : mulOk (c % 2147483647) 69621 := .inr (.inl ⟨by decide, by decide⟩)
    have x2 : mulOk 7919 (k : Int) := .inl ⟨by decide, by decide⟩
    rw [fn__law_deck_at, mk_run (by rfl)]
    simp [sv__law_deck_at, e, pow18, oLt, h, mod_ok (by decide : (0 : Int) < 2147483647), mul_ok x1, mul_ok x2, a1, e2]
  · obtain ⟨dk, h1, e2⟩ := deck_ok c
    refine ⟨dk, h1, ?_⟩
    rw [fn__law_deck_at, mk_run (by rfl)]
    simp [sv__law_deck_at, e, pow18, oLt, h, e2]
def braidS (ss : List D) : D := .tuple [.str "braid", .tuple ss, .tuple []]
theorem int_nat {v : Int} (h : 0 ≤ v) : ∃ k : Nat, v = (k : Int) := ⟨v.toNat, by omega⟩
theorem many_ix (v : Nat) (h : v < 6) : ∃ k : Nat, 1 ≤ k ∧ k ≤ 4 ∧ oIx (.ol [.int 1, .int 1, .int 2, .int 2, .int 3, .int 4]) (.fz (.int (v : Int))) = some (.fz (.int (k : Int))) := by
  match v, h with
  | 0, _ => exact ⟨1, by decide, by decide, rfl⟩
  | 1, _ => exact ⟨1, by decide, by decide, rfl⟩
  | 2, _ => exact ⟨2, by decide, by decide, rfl⟩
  | 3, _ => exact ⟨2, by decide, by decide, rfl⟩
  | 4, _ => exact ⟨3, by decide, by decide, rfl⟩
  | 5, _ => exact ⟨4, by decide, by decide, rfl⟩
theorem sl_to (ds : List D) (k : Nat) : oSl none (some (k : Int)) (.ol ds) = some (.ol (ds.take k)) := by
  show some (M.ol (cutD _ _ _)) = _
  rw [cut_to]
theorem sl_from (ds : List D) (k : Nat) : oSl (some (k : Int)) none (.ol ds) = some (.ol (ds.drop k)) := by
  show some (M.ol (cutD _ _ _)) = _
  rw [cut_from]
theorem sl_toT (ds : List D) (k : Nat) : oSl none (some (k : Int)) (.fz (.tuple ds)) = some (.fz (.tuple (ds.take k))) := by
  show some (M.fz (.tuple (cutD _ _ _))) = _
  rw [cut_to]
theorem cat_ol (a b : List D) (h : a.length + b.length ≤ 16777216) : oAdd (.ol a) (.ol b) = some (.ol (a ++ b)) := by
  show guardO _ _ = _
  unfold guardO
  rw [if_pos (by rw [sizeLine_eq]; exact h)]
theorem kit_ok {n : Nat} {dk : List D} (h : Dk n dk) (hn : n ≤ 100000000) : ∃ dk' ss, Dk (n + 4) dk' ∧ ss ≠ [] ∧ ss.length ≤ 4 ∧
    fn__law_kit [.ol dk, .fz (.str "braid")] = .ok (.fz (braidS ss)) [some (.ol dk'), some (.fz (.str "braid"))] := by
  obtain ⟨v1, k1, h1, a1', b1, e1⟩ := draw_ok h (by omega) (m := 8) (by decide) (by decide)
  obtain ⟨v2, k2, h2, a2, b2, e2⟩ := draw_ok h1 (by omega) (m := 4) (by decide) (by decide)
  have hg : (0 : Int) < 5 + (if v1 = 5 then 1 else 0) := by split <;> decide
  obtain ⟨v3, k3, h3, a3, b3, e3⟩ := draw_ok h2 (by omega) (m := 5 + (if v1 = 5 then 1 else 0)) hg (by split <;> decide)
  obtain ⟨v4, k4, h4, a4, b4, e4⟩ := draw_ok h3 (by omega) (m := 8) (by decide) (by decide)
  obtain ⟨w2, rfl⟩ := int_nat a2
  obtain ⟨w3, rfl⟩ := int_nat a3
  have b3' : (w3 : Int) < 6 := by
    have : (5 : Int) + (if v1 = 5 then 1 else 0) ≤ 6 := by split <;> decide
    omega
  obtain ⟨k, q1, q2, q3⟩ := many_ix w3 (by omega)
  let nm : List D := [.str "a", .str "ab", .str "b", .str "boxa"]
  refine ⟨k4, (nm.drop w2 ++ nm.take w2).take k, h4, ?_, ?_, ?_⟩
  · intro e
    have := congrArg List.length e
    simp [nm] at this
    omega
  · simp [nm]
    omega
  · have f1 : oSl (some (w2 : Int)) none (.ol nm) = some (.ol (nm.drop w2)) := sl_from _ _
    have f2 : oSl none (some (w2 : Int)) (.ol nm) = some (.ol (nm.take w2)) := sl_to _ _
    have f3 : oAdd (.ol (nm.drop w2)) (.ol (nm.take w2)) = some (.ol (nm.drop w2 ++ nm.take w2)) := cat_ol _ _ (by simp [nm]; omega)
    have f4 : oSl none (some (k : Int)) (.ol (nm.drop w2 ++ nm.take w2)) = some (.ol ((nm.drop w2 ++ nm.take w2).take k)) := sl_to _ _
    rw [fn__law_kit, mk_run (by rfl)]
    generalize hnm : nm = names at f1 f2 f3 f4 ⊢
    have hnm' : [PyData.str (Str.ofString "a"), .str (Str.ofString "ab"), .str (Str.ofString "b"), .str (Str.ofString "boxa")] = names := hnm
    generalize names.drop w2 = nd at f1 f3 f4 ⊢
    generalize names.take w2 = nt at f2 f3 f4 ⊢
    generalize hz : (nd ++ nt).take k = ss at f4 ⊢
    simp [sv__law_kit, e1, oEq_int, oInt, e2, a1, e3, q3, hnm', f1, f2, f3, f4, oTuple, e4, oNe_str, braidS]
end K60a

/-! K60u: the drawn braid. -/
namespace K60a
open PySem Sw K60m
theorem over_ix (b : Nat) (h : b < 2) : oIx (.ol [.str "over", .str "under"]) (.fz (.int (b : Int))) = some (.fz (.str (if (b == 0) = true then "over" else "under"))) := by
  match b, h with
  | 0, _ => rfl
  | 1, _ => rfl
def BrI (n many : Nat) (kit ab : M) (j : Nat) (ε : Sw.Env) : Prop := ∃ (dk : List D) (ls : List (Nat × Bool)) (x6 x7 x8 x9 : Option M), Dk (n + 4 * j) dk ∧ (∀ q : Nat × Bool, q ∈ ls → q.1 + 1 < many) ∧ ls.length ≤ 3 * j ∧
  ε = [some (.ol dk), some kit, some (.fz (.int (many : Int))), some (.fz (.int 9)), some ab, some (.ol (ls.map lay)), x6, x7, x8, x9]
theorem oGt_nat (i j : Nat) : oGt (.fz (.int (i : Int))) (.fz (.int (j : Int))) = some (.fz (.bool (decide (j < i)))) := by
  show some (M.fz (.bool (decide ((j : Int) < i)))) = _
  have : ((j : Int) < i) ↔ j < i := by omega
  rw [decide_eq_decide.mpr this]
theorem br_step {n many : Nat} (hm : 2 ≤ many) (hm6 : many ≤ 6) (hn : n ≤ 100000000) {kit ab : M} {j : Nat} (hj : j < 100) {ε : Sw.Env} (d : D) (h : BrI n many kit ab j ε) :
    ∃ ε1 ε', bNm 6 d ε = some ε1 ∧ b__law_braid_1 ε1 = .nx ε' ∧ BrI n many kit ab (j + 1) ε' := by
  obtain ⟨dk, ls, x6, x7, x8, x9, hd, hls, hlen, rfl⟩ := h
  obtain ⟨p, k1, h1, p0, p1, e1⟩ := draw_ok hd (by omega) (m := (many : Int) - 1) (by omega) (by omega)
  obtain ⟨b, k2, h2, b0, b1, e2⟩ := draw_ok h1 (by omega) (m := 2) (by decide) (by decide)
  obtain ⟨t, k3, h3, t0, t1, e3⟩ := draw_ok h2 (by omega) (m := 4) (by decide) (by decide)
  obtain ⟨p, rfl⟩ := int_nat p0
  obtain ⟨b, rfl⟩ := int_nat b0
  have o1 := over_ix b (by omega)
  have l1 : (PyData.tuple [.int (p : Int), .tuple [.str (if (b == 0) = true then "over" else "under")]] : D) = lay (p, b == 0) := rfl
  have l2 : ls.map lay ++ [lay (p, b == 0)] = (ls ++ [(p, b == 0)]).map lay := by simp
  have ap : fAppend (.ol (ls.map lay)) [.fz (lay (p, b == 0))] = some (.ol ((ls ++ [(p, b == 0)]).map lay), .none) := by
    show gd _ _ = _
    unfold gd
    rw [if_pos (by simp; omega), l2]
  have sb : oSub (.fz (.int (many : Int))) (.fz (.int 1)) = some (.fz (.int ((many : Int) - 1))) := rfl
  have hok1 : ∀ q : Nat × Bool, q ∈ ls ++ [(p, b == 0)] → q.1 + 1 < many := fun q hq => by
    rcases List.mem_append.mp hq with z | z
    · exact hls q z
    · rw [List.mem_singleton.mp z]; show p + 1 < many; omega
  have g1 : oGt (.fz (.int (many : Int))) (.fz (.int 2)) = some (.fz (.bool (decide (2 < many)))) := oGt_nat many 2
  by_cases ht : t = 1 ∧ 2 < many
  · obtain ⟨rfl, hm3⟩ := ht
    obtain ⟨c, k4, h4, c0, c1, e4⟩ := draw_ok h3 (by omega) (m := 2) (by decide) (by decide)
    obtain ⟨c, rfl⟩ := int_nat c0
    have o2 := over_ix c (by omega)
    obtain ⟨q, hq, hq2⟩ : ∃ q : Nat, (p : Int) + 1 - 2 * (if p = many - 2 then 1 else 0) = (q : Int) ∧ q + 1 < many := by
      by_cases z : p = many - 2
      · exact ⟨p - 1, by rw [if_pos z]; omega, by omega⟩
      · exact ⟨p + 1, by rw [if_neg z]; omega, by omega⟩
    have eq1 : oEq (.fz (.int (p : Int))) (.fz (.int ((many : Int) - 2))) = some (.fz (.bool (decide (p = many - 2)))) := by
      rw [oEq_int]
      have : ((p : Int) = (many : Int) - 2) ↔ p = many - 2 := by omega
      rw [decide_eq_decide.mpr this]
    have oi : oInt [.fz (.bool (decide (p = many - 2)))] = some (.fz (.int (if p = many - 2 then 1 else 0))) := by
      show some (M.fz (.int (if decide (p = many - 2) = true then 1 else 0))) = _
      by_cases z : p = many - 2 <;> simp [z]
    have mu : oMul (.fz (.int 2)) (.fz (.int (if p = many - 2 then 1 else 0))) = some (.fz (.int (2 * (if p = many - 2 then 1 else 0)))) := mul_ok (.inl ⟨by decide, by decide⟩)
    have l3 : (PyData.tuple [.int (q : Int), .tuple [.str (if (c == 0) = true then "over" else "under")]] : D) = lay (q, c == 0) := rfl
    have l4 : (ls ++ [(p, b == 0)]).map lay ++ [lay (q, c == 0), lay (p, b == 0)] = (ls ++ [(p, b == 0)] ++ [(q, c == 0), (p, b == 0)]).map lay := by simp
    have ct : oAdd (.ol ((ls ++ [(p, b == 0)]).map lay)) (.ol [lay (q, c == 0), lay (p, b == 0)]) = some (.ol ((ls ++ [(p, b == 0)] ++ [(q, c == 0), (p, b == 0)]).map lay)) := by
      rw [cat_ol _ _ (by simp; omega), l4]
    have sp : ∀ b : Nat, (PyData.tuple [.str (if (b == 0) = true then "over" else "under")] : D) = stp (b == 0) := fun _ => rfl
    have l5 : ∀ (p b : Nat), (PyData.tuple [.int (p : Int), stp (b == 0)] : D) = lay (p, b == 0) := fun _ _ => rfl
    refine ⟨_, [some (.ol k4), some kit, some (.fz (.int (many : Int))), some (.fz (.int 9)), some ab, some (.ol ((ls ++ [(p, b == 0)] ++ [(q, c == 0), (p, b == 0)]).map lay)), some (.fz d), some (.fz (.int (p : Int))), some (.fz (stp (b == 0))), some (.fz (.int (q : Int)))], rfl, ?_, k4, _, _, _, _, _, h4, ?_, ?_, rfl⟩
    · unfold b__law_braid_1
      generalize (ls ++ [(p, b == 0)] ++ [(q, c == 0), (p, b == 0)]).map lay = L2' at ct ⊢
      generalize (ls ++ [(p, b == 0)]).map lay = L1' at ap ct ⊢
      generalize hst : (if (b == 0) = true then ("over" : Str) else "under") = sb' at o1 l1
      generalize hst2 : (if (c == 0) = true then ("over" : Str) else "under") = sc' at o2 l3
      have sp1 : (PyData.tuple [.str sb'] : D) = stp (b == 0) := by rw [← hst]; rfl
      have sp2 : (PyData.tuple [.str sc'] : D) = stp (c == 0) := by rw [← hst2]; rfl
      simp [sb, e1, e2, o1, sp1, l5, ap, e3, oEq_int, g1, hm3, s1, a1, eq1, oi, mu, hq, e4, o2, sp2, ct]
    · intro r hr
      rcases List.mem_append.mp hr with z | z
      · exact hok1 r z
      · rcases List.mem_cons.mp z with z | z
        · rw [z]; exact hq2
        · rw [List.mem_singleton.mp z]; show p + 1 < many; omega
    · simp; omega
  · have tst : (decide (t = 1) && decide (2 < many)) = false := by
      rw [← Bool.decide_and]; exact decide_eq_false ht
    have sp1 : (PyData.tuple [.str (if (b == 0) = true then "over" else "under")] : D) = stp (b == 0) := rfl
    have l5 : (PyData.tuple [.int (p : Int), stp (b == 0)] : D) = lay (p, b == 0) := rfl
    refine ⟨_, [some (.ol k3), some kit, some (.fz (.int (many : Int))), some (.fz (.int 9)), some ab, some (.ol ((ls ++ [(p, b == 0)]).map lay)), some (.fz d), some (.fz (.int (p : Int))), some (.fz (stp (b == 0))), x9], rfl, ?_, k3, _, _, _, _, _, h3.mono (by omega), hok1, by simp; omega, rfl⟩
    unfold b__law_braid_1
    generalize (ls ++ [(p, b == 0)]).map lay = L1' at ap ⊢
    generalize hst : (if (b == 0) = true then ("over" : Str) else "under") = sb' at o1 sp1
    by_cases t1 : t = 1
    · have t2 : ¬ 2 < many := fun z => ht ⟨t1, z⟩
      simp [sb, e1, e2, o1, sp1, l5, ap, e3, oEq_int, g1, t1, t2]
    · simp [sb, e1, e2, o1, sp1, l5, ap, e3, oEq_int, g1, t1]
abbrev brE (dk : List D) (ss : List D) (many : Nat) (x4 x5 : Option M) : Sw.Env := [some (.ol dk), some (.fz (braidS ss)), some (.fz (.int (many : Int))), some (.fz (.int 9)), x4, x5, none, none, none, none]
theorem upto_len (n : Nat) : (upto n).length = n := by simp [upto]
theorem above_ok {n many : Nat} {dk ss : List D} (h : Dk n dk) (hn : n ≤ 10000000) (hsl : 0 < ss.length) (hs4 : ss.length ≤ 4) (hm6 : many ≤ 6) :
    ∃ (ab k1 : List D), compR [6] (bNm 6) cYes e__law_braid_0 (upto many) [] (brE dk ss many none none) = .ok ab (brE k1 ss many none none) ∧ Dk (n + many) k1 ∧ ab.length = many := by
  have ix1 : oIx (.fz (braidS ss)) (.fz (.int 1)) = some (.fz (.tuple ss)) := rfl
  have ln : oLen [.fz (.tuple ss)] = some (.fz (.int (ss.length : Int))) := rfl
  obtain ⟨ab, ε1, c1, k1, hk1, hab, e⟩ := comp_inv (own := [6]) (b := bNm 6) (t := cYes) (e := e__law_braid_0) (ds := upto many)
    (fun j acc ε => ∃ dk, Dk (n + j) dk ∧ acc.length = j ∧ ε = brE dk ss many none none) (ε := brE dk ss many none none) ⟨dk, h, rfl, rfl⟩ (by
      rintro j d acc ε hd ⟨dk, h1, h2, rfl⟩
      have hj : j < many := by
        have := (List.getElem?_eq_some_iff.mp hd).1
        rwa [upto_len] at this
      obtain ⟨v, k1, g1, v0, v1, e1⟩ := draw_ok h1 (by omega) (m := (ss.length : Int)) (by omega) (by omega)
      obtain ⟨v, rfl⟩ := int_nat v0
      have ix2 : oIx (.fz (.tuple ss)) (.fz (.int (v : Int))) = some (.fz ss[v]) := by
        show (L2.atI ss _).map M.fz = _
        rw [atI_some (List.getElem?_eq_getElem (by omega))]
        rfl
      refine ⟨_, acc ++ [ss[v]], brE k1 ss many none none, rfl, ?_, k1, g1, by rw [List.length_append, h2]; rfl, rfl⟩
      simp [cstep, e__law_braid_0, ix1, ln, e1, ix2])
  rw [upto_len] at hab hk1
  exact ⟨ab, k1, by rw [c1, e], hk1, hab⟩
theorem layers_ok {n many r : Nat} {dk ss ab : List D} (h : Dk n dk) (hn : n ≤ 10000000) (hr : 0 < r → 2 ≤ many) (hr9 : r ≤ 9) (hm6 : many ≤ 6) :
    ∃ (k3 : List D) (ls : List (Nat × Bool)) (y6 y7 y8 y9 : Option M), forR (bNm 6) b__law_braid_1 (upto r) (brE dk ss many (some (.fz (.tuple ab))) (some (.ol []))) = .nx [some (.ol k3), some (.fz (braidS ss)), some (.fz (.int (many : Int))), some (.fz (.int 9)), some (.fz (.tuple ab)), some (.ol (ls.map lay)), y6, y7, y8, y9] ∧
      Dk (n + 40) k3 ∧ (∀ q : Nat × Bool, q ∈ ls → q.1 + 1 < many) := by
  obtain ⟨ε2, f1, k3, ls, y6, y7, y8, y9, hk3, hls, hlen, e⟩ := for_inv (b := bNm 6) (s := b__law_braid_1) (ds := upto r) (BrI n many (.fz (braidS ss)) (.fz (.tuple ab)))
    (ε := brE dk ss many (some (.fz (.tuple ab))) (some (.ol []))) ⟨dk, [], none, none, none, none, h, (fun _ z => by cases z), Nat.zero_le _, rfl⟩ (by
      intro j d ε hd hI
      have hj : j < r := by
        have := (List.getElem?_eq_some_iff.mp hd).1
        rwa [upto_len] at this
      exact br_step (hr (by omega)) hm6 (by omega) (by omega) d hI)
  rw [upto_len] at hk3
  exact ⟨k3, ls, y6, y7, y8, y9, by rw [f1, e], hk3.mono (by omega), hls⟩
theorem bin_run {f : M → M → Option M} {a b : Ev} {ε ε1 ε2 : Sw.Env} {m n k : M} (h1 : a ε = .ok (.val m) ε1) (h2 : b ε1 = .ok (.val n) ε2) (h3 : f m n = some k) : eBin f a b ε = .ok (.val k) ε2 := by
  rw [r_bin, h1, r_bind_ok, h2, r_bind_ok, r_app2]
  show retO ε2 (f m n) = _
  rw [h3]
  rfl
theorem sl20 (ls : List (Nat × Bool)) : oSl none (some 20) (.ol (ls.map lay)) = some (.ol ((ls.take 20).map lay)) := by
  rw [List.map_take]
  exact sl_to (ls.map lay) 20
theorem braid_ok {n many : Nat} {dk : List D} {ss : List D} (h : Dk n dk) (hn : n ≤ 1000000) (hs : ss ≠ []) (hs4 : ss.length ≤ 4) (hm : 1 ≤ many) (hm6 : many ≤ 6) :
    ∃ (dk' ab : List D) (ls : List (Nat × Bool)), Dk (n + 100) dk' ∧ ab.length = many ∧ (∀ q : Nat × Bool, q ∈ ls → q.1 + 1 < many) ∧
      fn__law_braid [.ol dk, .fz (braidS ss), .fz (.int (many : Int)), .fz (.int 9)] = .ok (.fz (.tuple [.tuple ab, .tuple ((ls.take 20).map lay)])) [some (.ol dk'), some (.fz (braidS ss)), some (.fz (.int (many : Int))), some (.fz (.int 9))] := by
  have hsl : 0 < ss.length := List.length_pos_iff.mpr hs
  obtain ⟨ab, k1, c1, hk1, hab⟩ := above_ok h (by omega) hsl hs4 hm6
  obtain ⟨v, k2, h2, v0, v1, e2⟩ := draw_ok hk1 (by omega) (m := 10) (by decide) (by decide)
  obtain ⟨v, rfl⟩ := int_nat v0
  have g1 : oGt (.fz (.int (many : Int))) (.fz (.int 1)) = some (.fz (.bool (decide (1 < many)))) := oGt_nat many 1
  have oi : oInt [.fz (.bool (decide (1 < many)))] = some (.fz (.int (if 1 < many then 1 else 0))) := by
    show some (M.fz (.int (if decide (1 < many) = true then 1 else 0))) = _
    by_cases z : 1 < many <;> simp [z]
  have mu : oMul (.fz (.int (v : Int))) (.fz (.int (if 1 < many then 1 else 0))) = some (.fz (.int (v * (if 1 < many then 1 else 0)))) := mul_ok (.inl ⟨by omega, by omega⟩)
  obtain ⟨r, hr, hr9, hr2⟩ : ∃ r : Nat, (v : Int) * (if 1 < many then 1 else 0) = (r : Int) ∧ r ≤ 9 ∧ (0 < r → 2 ≤ many) := by
    by_cases z : 1 < many
    · exact ⟨v, by rw [if_pos z]; omega, by omega, fun _ => z⟩
    · exact ⟨0, by rw [if_neg z]; omega, by omega, fun q => absurd q (by omega)⟩
  obtain ⟨k3, ls, y6, y7, y8, y9, f1, hk3, hls⟩ := layers_ok (ab := ab) (ss := ss) h2 (by omega) hr2 hr9 hm6
  refine ⟨k3, ab, ls, hk3.mono (by omega), hab, hls, ?_⟩
  have rg := range1_nat (n := r) (by omega)
  have rg0 := range1_nat (n := many) (by omega)
  have st := sl20 ls
  have a9 : oAdd (.fz (.int 9)) (.fz (.int 1)) = some (.fz (.int 10)) := rfl
  unfold brE at c1 f1
  generalize (ls.take 20).map lay = L1' at st ⊢
  generalize ls.map lay = L2' at st f1
  generalize upto r = ur at rg f1
  generalize upto many = um at rg0 c1
  generalize braidS ss = kk at c1 f1 ⊢
  have w0 : sAsg 4 (eCB oTuple (aCons (eComp (iArgs range1 [(eVar 2)]) [6] (bNm 6) cYes e__law_braid_0) aNil)) [some (.ol dk), some (.fz kk), some (.fz (.int (many : Int))), some (.fz (.int 9)), none, none, none, none, none, none] =
      .nx [some (.ol k1), some (.fz kk), some (.fz (.int (many : Int))), some (.fz (.int 9)), some (.fz (.tuple ab)), none, none, none, none, none] := by
    simp [rg0, c1, oTuple]
  have w1 : (eBin oMul (eCall fn__law_draw [(eVar 0), (eBin oAdd (eVar 3) (eC (.int 1)))]) (eCB oInt (aCons (eBin oGt (eVar 2) (eC (.int 1))) aNil))) [some (.ol k1), some (.fz kk), some (.fz (.int (many : Int))), some (.fz (.int 9)), some (.fz (.tuple ab)), some (.ol []), none, none, none, none] =
      .ok (.val (.fz (.int (r : Int)))) [some (.ol k2), some (.fz kk), some (.fz (.int (many : Int))), some (.fz (.int 9)), some (.fz (.tuple ab)), some (.ol []), none, none, none, none] := by
    rw [← hr]
    generalize (if 1 < many then (1 : Int) else 0) = z at oi mu ⊢
    generalize (v : Int) * z = y at mu ⊢
    refine bin_run (m := .fz (.int (v : Int))) (n := .fz (.int z)) (ε1 := [some (.ol k2), some (.fz kk), some (.fz (.int (many : Int))), some (.fz (.int 9)), some (.fz (.tuple ab)), some (.ol []), none, none, none, none]) ?_ ?_ mu
    · simp [a9, e2]
    · simp [g1, oi]
  have w2 : sFor (iArgs range1 [(eBin oMul (eCall fn__law_draw [(eVar 0), (eBin oAdd (eVar 3) (eC (.int 1)))]) (eCB oInt (aCons (eBin oGt (eVar 2) (eC (.int 1))) aNil)))]) (bNm 6) b__law_braid_1 [some (.ol k1), some (.fz kk), some (.fz (.int (many : Int))), some (.fz (.int 9)), some (.fz (.tuple ab)), some (.ol []), none, none, none, none] =
      .nx [some (.ol k3), some (.fz kk), some (.fz (.int (many : Int))), some (.fz (.int 9)), some (.fz (.tuple ab)), some (.ol L2'), y6, y7, y8, y9] := by
    simp [-r_bin, w1, rg, f1]
  rw [fn__law_braid, mk_run (by rfl)]
  simp [-r_asg, -r_for, sv__law_braid, w0, w2]
  simp [-r_for, w2, st, oTuple]
end K60a

/-! K60v: facts for the law's last steps. -/
namespace K60a
open PySem Sw K60m
theorem boolsD_true (xs : List D) : boolsD (xs.map fun _ => .bool true) = some (xs.map fun _ => true) := by
  induction xs with
  | nil => rfl
  | cons x xs ih =>
    show (boolsD (xs.map fun _ => .bool true)).map (true :: ·) = _
    rw [ih]
    rfl
theorem all_true (xs : List D) : oAll [.ol (xs.map fun _ => .bool true)] = some (.fz (.bool true)) := by
  show (boolsD (xs.map fun _ => .bool true)).map (fun bs => M.fz (.bool (bs.all id))) = _
  rw [boolsD_true]
  show some (M.fz (.bool ((xs.map fun _ => true).all id))) = _
  have : (xs.map fun _ => true).all id = true := by simp
  rw [this]
theorem untouched : ∀ (ls : List (Nat × Bool)) (row : List Wd) (p : Nat), (∀ q ∈ ls, q.1 + 1 < row.length) → (∀ q ∈ ls, p ≠ q.1 ∧ p ≠ q.1 + 1) → (ls.foldl rstep row)[p]? = row[p]?
  | [], row, p, _, _ => rfl
  | (k, ov) :: ls, row, p, h1, h2 => by
    obtain ⟨A, l, r, B, rfl, rfl⟩ := row_dec (p := k) (row := row) (h1 (k, ov) (by simp))
    rw [List.foldl_cons, rstep_mid, untouched ls _ p (fun q hq => by have := h1 q (by simp [hq]); simpa using this) (fun q hq => h2 q (by simp [hq]))]
    obtain ⟨g1, g2⟩ := h2 (A.length, ov) (by simp)
    by_cases hp : p < A.length
    · rw [List.getElem?_append_left hp, List.getElem?_append_left hp]
    · obtain ⟨i, rfl⟩ : ∃ i, p = A.length + (i + 2) := ⟨p - A.length - 2, by simp at g1 g2; omega⟩
      rw [List.getElem?_append_right (by omega), List.getElem?_append_right (by omega), Nat.add_sub_cancel_left]
      rfl
theorem row0_at {n p : Nat} (h : p < n) : (row0 n)[p]? = some [((p : Int) + 1)] := by
  unfold row0
  rw [List.getElem?_map, List.getElem?_range h]
  rfl
theorem oNotIn_nums (i : Int) (w : List Int) : oNotIn (.fz (.int i)) (.ol (nums w)) = some (.fz (.bool (!decide (i ∈ w)))) := by
  unfold oNotIn withD2
  show (memD (.int i) (.list (nums w))).map (fun b => M.fz (.bool (!b))) = _
  have h1 : memD (.int i) (.list (nums w)) = (if inOk (.int i) (nums w) = true then some ((nums w).any fun z => PyData.eqv z (.int i)) else none) := rfl
  have h2 : inOk (.int i) (nums w) = true := by
    unfold inOk
    rw [plain_nums]
    have := depth_nums w
    simp only [Bool.and_true, Bool.and_eq_true, decide_eq_true_eq]
    exact ⟨rfl, by omega⟩
  have h3 : ((nums w).any fun z => PyData.eqv z (.int i)) = decide (i ∈ w) := by
    unfold nums
    rw [List.any_map]
    induction w with
    | nil => simp
    | cons n w ih =>
      rw [List.any_cons]
      have := ih (by simp [memD, seqOf]) (by
        unfold inOk
        rw [plain_nums]
        have := depth_nums w
        simp only [Bool.and_true, Bool.and_eq_true, decide_eq_true_eq]
        exact ⟨rfl, by omega⟩)
      rw [this]
      have e : ((fun z => PyData.eqv z (PyData.int i)) ∘ PyData.int) n = decide (n = i) := by
        show PyData.eqv (.int n) (.int i) = _
        simp only [PyData.eqv]; rfl
      rw [e]
      by_cases q : n = i
      · subst q; simp
      · have q' : ¬ i = n := fun z => q z.symm
        simp [q, q']
  rw [h1, if_pos h2, h3]
  rfl
theorem row_depth (row : List Wd) : (PyData.tuple (row.map encT) : D).depth ≤ 60 ∧ (PyData.tuple (row.map encT) : D).plain = true := by
  constructor
  · have : PyData.depthAll (row.map encT) ≤ 2 := depthAll_of encT 2 (fun w => by
      show PyData.depthAll (nums w) + 1 ≤ 2
      have := depth_nums w
      omega) row
    show PyData.depthAll (row.map encT) + 1 ≤ 60
    omega
  · exact plainAll_of encT (fun w => plain_nums w) row
def f2 : D → D
  | .tuple (.int p :: _) => .int p
  | d => d
def f3 : D → D
  | .tuple (.int p :: _) => .int (p + 1)
  | d => d
def tch (ls : List (Nat × Bool)) : List Int := ls.map (fun q => (q.1 : Int)) ++ ls.map fun q => (q.1 : Int) + 1
theorem tch_eq (ls : List (Nat × Bool)) : (ls.map lay).map f2 ++ (ls.map lay).map f3 = nums (tch ls) := by
  unfold tch
  rw [nums_app]
  unfold nums
  rw [List.map_map, List.map_map, List.map_map, List.map_map]
  rfl
theorem vs_le {n : Nat} {ls : List (Nat × Bool)} (h : Lays n ls) (hl : ls.length ≤ 20) : ∀ k, k ≤ ls.length → vsum [0, 1, 2, 3, 4, 5, 6] (ls.take k) ≤ 5193728 := fun k _ => by
  have := sum_le (ps := (ls.take k).map (·.1)) (fun p hp => by
    obtain ⟨q, hq, rfl⟩ := List.mem_map.mp hp
    have := h.ok q (List.mem_of_mem_take hq)
    have := h.le
    omega) (by rw [List.length_map, List.length_take]; omega)
  unfold vsum
  rw [List.foldl_map] at this
  exact this
end K60a

/-! K60w: the law's mirror answers True. -/
namespace K60a
open PySem Sw K60m
def L0 : Sv := (sAsg 2 (eCall fn__law_deck_at [(eVar 0), (eVar 1)]))
def L1 : Sv := (sAsg 3 (eCall fn__law_kit [(eVar 2), (eC (.str "braid"))]))
def L2 : Sv := (sAsg 4 (eBin oAdd (eC (.int 1)) (eCall fn__law_draw [(eVar 2), (eC (.int 6))])))
def L3 : Sv := (sAsg 5 (eCall fn__law_braid [(eVar 2), (eVar 3), (eVar 4), (eC (.int 9))]))
def L4 : Sv := (sAsg 5 (eTup [(eBin oIx (eVar 5) (eC (.int 0))), (eSl pNone (pSome (eBin oIx (eLst [(eC (.int 12)), (eC (.int 20))]) (eCB oInt (aCons (eAnd (eBin oEq (eVar 1) (eC (.int 0))) (eBin oEq (eCall fn__law_draw [(eVar 2), (eC (.int 8))]) (eC (.int 5)))) aNil)))) (eBin oIx (eVar 5) (eC (.int 1))))]))
def L5 : Sv := (sAsg 6 (eCall fn_words_of [(eVar 3), (eVar 5)]))
def L6 : Sv := (sIf (cOr (cNot (asB (eCall fn__law_whole [(eVar 6)]))) (cOr (asB (eBin oNe (eVar 6) (eCall fn__law_words [(eVar 4), (eBin oIx (eVar 5) (eC (.int 1)))]))) (asB (eBin oNe (eCall fn_words_of [(eVar 3), (eVar 5)]) (eVar 6))))) (sRet (eC (.bool false))) sNext)
def L7 : Sv := (sIf (cNot (asB (eCB oAll (aCons (eComp (iSeq (eVar 6)) [9] (bNm 9) cYes e_law_0) aNil)))) (sRet (eC (.bool false))) sNext)
def L8 : Sv := (sIf (asB (eBin oNe (eCall fn__law_times [(eVar 6)]) (eComp (iArgs range1 [(eVar 4)]) [10] (bNm 10) cYes e_law_1))) (sRet (eC (.bool false))) sNext)
def L9 : Sv := (sAsg 7 (eBin oAdd (eComp (iSeq (eBin oIx (eVar 5) (eC (.int 1)))) [8, 11] (bTp [(bNm 8), (bNm 11)]) cYes e_law_2) (eComp (iSeq (eBin oIx (eVar 5) (eC (.int 1)))) [8, 11] (bTp [(bNm 8), (bNm 11)]) cYes e_law_3)))
def L10 : Sv := (sFor (iArgs range1 [(eVar 4)]) (bNm 8) b_law_4)
theorem call_run {fn : Fn} {es : List Ev} {ε ε1 : Sw.Env} {l : List T} {ms : List M} {m : M} {outs : List (Option M)} (h1 : aList es ε = .ok l ε1) (h2 : looks ε1 l = some ms) (h3 : okArgs ε1 l = true) (h4 : fn ms = .ok m outs) (h5 : outs.length = ms.length) :
    eCall fn es ε = .ok (.val m) (wbk ε1 ε1 l outs) := by
  rw [r_call, h1, r_bind_ok, h2, r_callk, if_pos h3, h4, r_callf, if_pos h5]
theorem law5_eq : b_law_5 = sSeq L0 (sSeq L1 (sSeq L2 (sSeq L3 (sSeq L4 (sSeq L5 (sSeq L6 (sSeq L7 (sSeq L8 (sSeq L9 L10))))))))) := rfl
/-- the drawn things -/
theorem draws_ok (ns : List Int) (k : Nat) (hk : k < 7) (x2 x3 x4 x5 x6 x7 x8 x9 x10 x11 : Option M) : ∃ (dk ss ab : List D) (many : Nat) (ls : List (Nat × Bool)), 1 ≤ many ∧ ab.length = many ∧ Lays many ls ∧ ls.length ≤ 20 ∧
    ∀ T : Sv, sSeq L0 (sSeq L1 (sSeq L2 (sSeq L3 (sSeq L4 T)))) [some (.fz (.list (nums ns))), some (.fz (.int (k : Int))), x2, x3, x4, x5, x6, x7, x8, x9, x10, x11] =
      T [some (.fz (.list (nums ns))), some (.fz (.int (k : Int))), some (.ol dk), some (.fz (braidS ss)), some (.fz (.int (many : Int))), some (.fz (.tuple [.tuple ab, .tuple (ls.map lay)])), x6, x7, x8, x9, x10, x11] := by
  obtain ⟨d0, h0, e0⟩ := deck_at_ok ns k (by omega)
  obtain ⟨d1, ss, h1, s0, s4, e1⟩ := kit_ok h0 (by omega)
  obtain ⟨v, d2, h2, v0, v1, e2⟩ := draw_ok h1 (by omega) (m := 6) (by decide) (by decide)
  obtain ⟨v, rfl⟩ := int_nat v0
  obtain ⟨d3, ab, ls, h3, hab, hls, e3⟩ := braid_ok (many := v + 1) h2 (by omega) s0 s4 (by omega) (by omega)
  have c1 : (1 : Int) + (v : Int) = ((v + 1 : Nat) : Int) := by omega
  generalize hl1 : ls.take 20 = l1 at e3
  have hl1' : ∀ q : Nat × Bool, q ∈ l1 → q.1 + 1 < v + 1 := fun q hq => hls q (by rw [← hl1] at hq; exact List.mem_of_mem_take hq)
  have hl1n : l1.length ≤ 20 := by rw [← hl1, List.length_take]; omega
  have ix0 : oIx (.fz (.tuple [.tuple ab, .tuple (l1.map lay)])) (.fz (.int 0)) = some (.fz (.tuple ab)) := rfl
  have ix1 : oIx (.fz (.tuple [.tuple ab, .tuple (l1.map lay)])) (.fz (.int 1)) = some (.fz (.tuple (l1.map lay))) := rfl
  obtain ⟨d4, t, ht, e4⟩ : ∃ (d4 : List D) (t : Nat), t ≤ 20 ∧ L4 [some (.fz (.list (nums ns))), some (.fz (.int (k : Int))), some (.ol d3), some (.fz (braidS ss)), some (.fz (.int ((v + 1 : Nat) : Int))), some (.fz (.tuple [.tuple ab, .tuple (l1.map lay)])), x6, x7, x8, x9, x10, x11] =
      .nx [some (.fz (.list (nums ns))), some (.fz (.int (k : Int))), some (.ol d4), some (.fz (braidS ss)), some (.fz (.int ((v + 1 : Nat) : Int))), some (.fz (.tuple [.tuple ab, .tuple ((l1.take t).map lay)])), x6, x7, x8, x9, x10, x11] := by
    have sl : ∀ t : Nat, oSl none (some (t : Int)) (.fz (.tuple (l1.map lay))) = some (.fz (.tuple ((l1.take t).map lay))) := fun t => by rw [sl_toT, List.map_take]
    have sl12 : oSl none (some 12) (.fz (.tuple (l1.map lay))) = some (.fz (.tuple ((l1.take 12).map lay))) := sl 12
    have sl20 : oSl none (some 20) (.fz (.tuple (l1.map lay))) = some (.fz (.tuple ((l1.take 20).map lay))) := sl 20
    have i12 : oIx (.ol [.int 12, .int 20]) (.fz (.int 0)) = some (.fz (.int 12)) := rfl
    have i20 : oIx (.ol [.int 12, .int 20]) (.fz (.int 1)) = some (.fz (.int 20)) := rfl
    have ob : ∀ b : Bool, oInt [.fz (.bool b)] = some (.fz (.int (if b then 1 else 0))) := fun _ => rfl
    have ek : oEq (.fz (.int (k : Int))) (.fz (.int 0)) = some (.fz (.bool (decide (k = 0)))) := by
      rw [oEq_int]
      have : ((k : Int) = 0) ↔ k = 0 := by omega
      rw [decide_eq_decide.mpr this]
    by_cases z : k = 0
    · obtain ⟨u, d4, h4, u0, u1, e4⟩ := draw_ok h3 (by omega) (m := 8) (by decide) (by decide)
      by_cases q : u = 5
      · refine ⟨d4, 20, by decide, ?_⟩
        generalize (l1.take 20).map lay = m1 at sl20 ⊢
        generalize (l1.take 12).map lay = m2 at sl12 ⊢
        generalize l1.map lay = m3 at sl12 sl20 ix0 ix1 ⊢
        unfold L4
        simp [ix0, ix1, ek, z, e4, oEq_int, q, ob, i12, i20, sl12, sl20]
      · refine ⟨d4, 12, by decide, ?_⟩
        generalize (l1.take 20).map lay = m1 at sl20 ⊢
        generalize (l1.take 12).map lay = m2 at sl12 ⊢
        generalize l1.map lay = m3 at sl12 sl20 ix0 ix1 ⊢
        unfold L4
        simp [ix0, ix1, ek, z, e4, oEq_int, q, ob, i12, i20, sl12, sl20]
    · refine ⟨d3, 12, by decide, ?_⟩
      generalize (l1.take 20).map lay = m1 at sl20 ⊢
      generalize (l1.take 12).map lay = m2 at sl12 ⊢
      generalize l1.map lay = m3 at sl12 sl20 ix0 ix1 ⊢
      unfold L4
      simp [ix0, ix1, ek, z, ob, i12, i20, sl12, sl20]
  refine ⟨d4, ss, ab, v + 1, l1.take t, by omega, hab, ⟨by omega, fun q hq => hl1' q (List.mem_of_mem_take hq)⟩, by rw [List.length_take]; omega, fun T => ?_⟩
  have w0 : L0 [some (.fz (.list (nums ns))), some (.fz (.int (k : Int))), x2, x3, x4, x5, x6, x7, x8, x9, x10, x11] = .nx [some (.fz (.list (nums ns))), some (.fz (.int (k : Int))), some (.ol d0), x3, x4, x5, x6, x7, x8, x9, x10, x11] := by
    unfold L0
    simp [e0]
  have w1 : L1 [some (.fz (.list (nums ns))), some (.fz (.int (k : Int))), some (.ol d0), x3, x4, x5, x6, x7, x8, x9, x10, x11] = .nx [some (.fz (.list (nums ns))), some (.fz (.int (k : Int))), some (.ol d1), some (.fz (braidS ss)), x4, x5, x6, x7, x8, x9, x10, x11] := by
    unfold L1
    simp [e1]
  have w2 : L2 [some (.fz (.list (nums ns))), some (.fz (.int (k : Int))), some (.ol d1), some (.fz (braidS ss)), x4, x5, x6, x7, x8, x9, x10, x11] = .nx [some (.fz (.list (nums ns))), some (.fz (.int (k : Int))), some (.ol d2), some (.fz (braidS ss)), some (.fz (.int ((v + 1 : Nat) : Int))), x5, x6, x7, x8, x9, x10, x11] := by
    unfold L2
    rw [← c1]
    simp [e2, a1]
  have w3 : L3 [some (.fz (.list (nums ns))), some (.fz (.int (k : Int))), some (.ol d2), some (.fz (braidS ss)), some (.fz (.int ((v + 1 : Nat) : Int))), x5, x6, x7, x8, x9, x10, x11] = .nx [some (.fz (.list (nums ns))), some (.fz (.int (k : Int))), some (.ol d3), some (.fz (braidS ss)), some (.fz (.int ((v + 1 : Nat) : Int))), some (.fz (.tuple [.tuple ab, .tuple (l1.map lay)])), x6, x7, x8, x9, x10, x11] := by
    have cr := call_run (fn := fn__law_braid) (es := [(eVar 2), (eVar 3), (eVar 4), (eC (.int 9))]) (ε := [some (.fz (.list (nums ns))), some (.fz (.int (k : Int))), some (.ol d2), some (.fz (braidS ss)), some (.fz (.int ((v + 1 : Nat) : Int))), x5, x6, x7, x8, x9, x10, x11])
      (l := [.var 2, .var 3, .var 4, .val (.fz (.int 9))]) (ε1 := [some (.fz (.list (nums ns))), some (.fz (.int (k : Int))), some (.ol d2), some (.fz (braidS ss)), some (.fz (.int ((v + 1 : Nat) : Int))), x5, x6, x7, x8, x9, x10, x11]) (by simp) (by simp) (by simp) e3 rfl
    unfold L3
    rw [r_asg, r_mv, cr]
    generalize ((v + 1 : Nat) : Int) = vv
    generalize (PyData.tuple [.tuple ab, .tuple (l1.map lay)] : D) = pic
    generalize braidS ss = kk
    simp
  rw [r_seq, w0, r_seqk_nx, r_seq, w1, r_seqk_nx, r_seq, w2, r_seqk_nx, r_seq, w3, r_seqk_nx, r_seq, e4, r_seqk_nx]
/-- the tests -/
theorem tests_ok (m0 m1 m2 : M) (ss ab : List D) (many : Nat) (ls : List (Nat × Bool)) (hm : 1 ≤ many) (hab : ab.length = many) (hl : Lays many ls) (hl20 : ls.length ≤ 20) (x6 x7 x8 x9 x10 x11 : Option M) :
    ∃ y6 y7 y8 y9 y10 y11, sSeq L5 (sSeq L6 (sSeq L7 (sSeq L8 (sSeq L9 L10)))) [some m0, some m1, some m2, some (.fz (braidS ss)), some (.fz (.int (many : Int))), some (.fz (.tuple [.tuple ab, .tuple (ls.map lay)])), x6, x7, x8, x9, x10, x11] =
      .nx [some m0, some m1, some m2, some (.fz (braidS ss)), some (.fz (.int (many : Int))), some (.fz (.tuple [.tuple ab, .tuple (ls.map lay)])), y6, y7, y8, y9, y10, y11] := by
  have hv := vs_le hl hl20
  have hle := hl.le
  have R := rows_ok ls (row0 many) _ hl (RowOk.start hle)
  have hsum : (ls.foldl (fun v q => stepV v q.1) [0, 1, 2, 3, 4, 5, 6]).sum ≤ 5193728 := by
    have := hv ls.length (Nat.le_refl _)
    rwa [List.take_length] at this
  have e1 := words_ok (braidS ss) ab ls hab hl hv
  have e2 := lwords_ok ls hl hv
  have unt : ∀ p, p < many → (∀ q ∈ ls, p ≠ q.1 ∧ p ≠ q.1 + 1) → (ls.foldl rstep (row0 many))[p]? = some [((p : Int) + 1)] := fun p hp h => by
    rw [untouched ls (row0 many) p (fun q hq => by simp [row0]; exact hl.ok q hq) h, row0_at hp]
  generalize hrow : ls.foldl rstep (row0 many) = row at R e1 e2 unt
  generalize hpic : (PyData.tuple [.tuple ab, .tuple (ls.map lay)] : D) = pic at e1 ⊢
  have ip : oIx (.fz pic) (.fz (.int 1)) = some (.fz (.tuple (ls.map lay))) := by rw [← hpic]; rfl
  obtain ⟨dep, pla⟩ := row_depth row
  have q1 : oNe (.fz (.tuple (row.map encT))) (.fz (.tuple (row.map encT))) = some (.fz (.bool false)) := oNe_same (d := .tuple (row.map encT)) rfl rfl pla dep
  have q2 := whole_ok row
  have w5 : L5 [some m0, some m1, some m2, some (.fz (braidS ss)), some (.fz (.int (many : Int))), some (.fz pic), x6, x7, x8, x9, x10, x11] = .nx [some m0, some m1, some m2, some (.fz (braidS ss)), some (.fz (.int (many : Int))), some (.fz pic), some (.fz (.tuple (row.map encT))), x7, x8, x9, x10, x11] := by
    unfold L5
    generalize row.map encT = rr at e1 ⊢
    simp [e1]
  have w6 : L6 [some m0, some m1, some m2, some (.fz (braidS ss)), some (.fz (.int (many : Int))), some (.fz pic), some (.fz (.tuple (row.map encT))), x7, x8, x9, x10, x11] = .nx [some m0, some m1, some m2, some (.fz (braidS ss)), some (.fz (.int (many : Int))), some (.fz pic), some (.fz (.tuple (row.map encT))), x7, x8, x9, x10, x11] := by
    unfold L6
    generalize row.map encT = rr at e1 e2 q1 q2 ⊢
    generalize ls.map lay = lls at ip e2 ⊢
    simp [q2, ip, e2, q1, e1]
  have c7 := comp_map (own := [9]) (b := bNm 9) (e := e_law_0) (fun _ => .bool true) (ε := [some m0, some m1, some m2, some (.fz (braidS ss)), some (.fz (.int (many : Int))), some (.fz pic), some (.fz (.tuple (row.map encT))), x7, x8, none, x10, x11]) (row.map encT) [] (by
    intro d hd
    obtain ⟨w, hw, rfl⟩ := List.mem_map.mp hd
    have := lone_ok (R.lone w hw)
    refine ⟨_, rfl, fun acc => ?_⟩
    simp [cstep, e_law_0, this])
  have w7 : L7 [some m0, some m1, some m2, some (.fz (braidS ss)), some (.fz (.int (many : Int))), some (.fz pic), some (.fz (.tuple (row.map encT))), x7, x8, x9, x10, x11] = .nx [some m0, some m1, some m2, some (.fz (braidS ss)), some (.fz (.int (many : Int))), some (.fz pic), some (.fz (.tuple (row.map encT))), x7, x8, none, x10, x11] := by
    have qa := all_true (row.map encT)
    unfold L7
    rw [List.nil_append] at c7
    generalize row.map encT = rr at c7 qa ⊢
    generalize rr.map (fun _ => (PyData.bool true : D)) = bb at c7 qa
    simp [c7, qa]
  have c8 := comp_map (own := [10]) (b := bNm 10) (e := e_law_1) (fun d => .int (kof d + 1)) (ε := [some m0, some m1, some m2, some (.fz (braidS ss)), some (.fz (.int (many : Int))), some (.fz pic), some (.fz (.tuple (row.map encT))), x7, x8, none, none, x11]) (upto many) [] (by
    intro d hd
    obtain ⟨i, _, rfl⟩ := List.mem_map.mp hd
    refine ⟨_, rfl, fun acc => ?_⟩
    simp [cstep, e_law_1, a1, kof])
  have c8' : (upto many).map (fun d => (PyData.int (kof d + 1) : D)) = nums (init many) := by
    unfold upto nums init
    rw [List.map_map, List.map_map]
    rfl
  have rm : range1 [.int (many : Int)] = some (upto many) := range1_nat (by omega)
  have tm := times_ok encT (.inl rfl) row (.fz (.tuple (row.map encT))) (.tuple (row.map encT)) (.inr ⟨rfl, rfl⟩) (fun u z e => by
    have := R.pre e
    omega)
  have hred : red row.flatten = init many := by
    unfold red
    rw [R.prod, List.reverse_reverse]
  rw [hred] at tm
  have w8 : L8 [some m0, some m1, some m2, some (.fz (braidS ss)), some (.fz (.int (many : Int))), some (.fz pic), some (.fz (.tuple (row.map encT))), x7, x8, none, x10, x11] = .nx [some m0, some m1, some m2, some (.fz (braidS ss)), some (.fz (.int (many : Int))), some (.fz pic), some (.fz (.tuple (row.map encT))), x7, x8, none, none, x11] := by
    have qe : oNe (.ol (nums (init many))) (.ol (nums (init many))) = some (.fz (.bool false)) := oNe_same (d := .list (nums (init many))) rfl rfl (plain_nums _) (by
      show PyData.depthAll (nums (init many)) + 1 ≤ 60
      have := depth_nums (init many)
      omega)
    unfold L8
    rw [c8', List.nil_append] at c8
    generalize row.map encT = rr at c8 tm ⊢
    generalize nums (init many) = ii at c8 tm qe
    generalize upto many = um at rm c8
    simp [tm, rm, c8, qe]
  have c9 := fun x7 : Option M => comp_map (own := [8, 11]) (b := bTp [bNm 8, bNm 11]) (e := e_law_2) f2 (ε := [some m0, some m1, some m2, some (.fz (braidS ss)), some (.fz (.int (many : Int))), some (.fz pic), some (.fz (.tuple (row.map encT))), x7, none, none, none, none]) (ls.map lay) [] (by
    intro d hd
    obtain ⟨q, _, rfl⟩ := List.mem_map.mp hd
    refine ⟨_, rfl, fun acc => ?_⟩
    simp [cstep, e_law_2, f2, lay])
  have c10 := fun x7 : Option M => comp_map (own := [8, 11]) (b := bTp [bNm 8, bNm 11]) (e := e_law_3) f3 (ε := [some m0, some m1, some m2, some (.fz (braidS ss)), some (.fz (.int (many : Int))), some (.fz pic), some (.fz (.tuple (row.map encT))), x7, none, none, none, none]) (ls.map lay) [] (by
    intro d hd
    obtain ⟨q, _, rfl⟩ := List.mem_map.mp hd
    refine ⟨_, rfl, fun acc => ?_⟩
    simp [cstep, e_law_3, f3, lay, a1])
  have w9 : L9 [some m0, some m1, some m2, some (.fz (braidS ss)), some (.fz (.int (many : Int))), some (.fz pic), some (.fz (.tuple (row.map encT))), x7, x8, none, none, x11] = .nx [some m0, some m1, some m2, some (.fz (braidS ss)), some (.fz (.int (many : Int))), some (.fz pic), some (.fz (.tuple (row.map encT))), some (.ol (nums (tch ls))), none, none, none, none] := by
    have cc : oAdd (.ol ((ls.map lay).map f2)) (.ol ((ls.map lay).map f3)) = some (.ol (nums (tch ls))) := by
      rw [cat_ol _ _ (by simp; omega), tch_eq]
    unfold L9
    have c9 := c9 x7
    have c10 := c10 x7
    rw [List.nil_append] at c9 c10
    generalize nums (tch ls) = tt at cc ⊢
    generalize (ls.map lay).map f2 = t2 at c9 cc
    generalize (ls.map lay).map f3 = t3 at c10 cc
    generalize ls.map lay = lls at ip c9 c10
    simp [ip, c9, c10, cc]
  obtain ⟨ε', f10, y8, rfl⟩ := for_inv (b := bNm 8) (s := b_law_4) (ds := upto many) (fun _ ε => ∃ x8 : Option M, ε = [some m0, some m1, some m2, some (.fz (braidS ss)), some (.fz (.int (many : Int))), some (.fz pic), some (.fz (.tuple (row.map encT))), some (.ol (nums (tch ls))), x8, none, none, none])
    (ε := [some m0, some m1, some m2, some (.fz (braidS ss)), some (.fz (.int (many : Int))), some (.fz pic), some (.fz (.tuple (row.map encT))), some (.ol (nums (tch ls))), none, none, none, none]) ⟨none, rfl⟩ (by
      rintro j d ε hd ⟨x8, rfl⟩
      have hj : j < many := by
        have := (List.getElem?_eq_some_iff.mp hd).1
        rwa [upto_len] at this
      have hd' : d = .int (j : Int) := by
        unfold upto at hd
        rw [List.getElem?_map, List.getElem?_range hj] at hd
        cases hd
        rfl
      subst hd'
      refine ⟨_, [some m0, some m1, some m2, some (.fz (braidS ss)), some (.fz (.int (many : Int))), some (.fz pic), some (.fz (.tuple (row.map encT))), some (.ol (nums (tch ls))), some (.fz (.int (j : Int))), none, none, none], rfl, ?_, _, rfl⟩
      have ni := oNotIn_nums (j : Int) (tch ls)
      unfold b_law_4
      by_cases z : (j : Int) ∈ tch ls
      · generalize hT : nums (tch ls) = tt at ni ⊢
        generalize row.map encT = rr
        simp [ni, z]
      · have hr := unt j hj (fun q hq => by
          constructor
          · intro e
            exact z (List.mem_append_left _ (List.mem_map.mpr ⟨q, hq, by rw [e]⟩))
          · intro e
            exact z (List.mem_append_right _ (List.mem_map.mpr ⟨q, hq, by rw [e]; rfl⟩)))
        have hi : oIx (.fz (.tuple (row.map encT))) (.fz (.int (j : Int))) = some (.fz (encT [(j : Int) + 1])) := by
          show (L2.atI _ _).map M.fz = _
          rw [atI_some (x := encT [(j : Int) + 1]) (by rw [List.getElem?_map, hr]; rfl)]
          rfl
        have hne : oNe (.fz (encT [(j : Int) + 1])) (.fz (.tuple [.int ((j : Int) + 1)])) = some (.fz (.bool false)) := oNe_same (d := encT [(j : Int) + 1]) rfl rfl (plain_nums _) (by
          show PyData.depthAll (nums [(j : Int) + 1]) + 1 ≤ 60
          have := depth_nums [(j : Int) + 1]
          omega)
        generalize hT : nums (tch ls) = tt at ni ⊢
        generalize row.map encT = rr at hi ⊢
        simp [ni, z, hi, a1, hne])
  have w10 : L10 [some m0, some m1, some m2, some (.fz (braidS ss)), some (.fz (.int (many : Int))), some (.fz pic), some (.fz (.tuple (row.map encT))), some (.ol (nums (tch ls))), none, none, none, none] = .nx [some m0, some m1, some m2, some (.fz (braidS ss)), some (.fz (.int (many : Int))), some (.fz pic), some (.fz (.tuple (row.map encT))), some (.ol (nums (tch ls))), y8, none, none, none] := by
    unfold L10
    generalize nums (tch ls) = tt at f10 ⊢
    generalize row.map encT = rr at f10 ⊢
    generalize upto many = um at rm f10
    simp [rm, f10]
  refine ⟨some (.fz (.tuple (row.map encT))), some (.ol (nums (tch ls))), y8, none, none, none, ?_⟩
  rw [r_seq, w5, r_seqk_nx, r_seq, w6, r_seqk_nx, r_seq, w7, r_seqk_nx, r_seq, w8, r_seqk_nx, r_seq, w9, r_seqk_nx, w10]
theorem law_true (ns : List Int) : ∃ outs, fn_law [.fz (.list (ns.map .int))] = .ok (.fz (.bool true)) outs := by
  obtain ⟨ε', f1, x1, x2, x3, x4, x5, x6, x7, x8, x9, x10, x11, rfl⟩ := for_inv (b := bNm 1) (s := b_law_5) (ds := upto 7) (fun _ ε => ∃ x1 x2 x3 x4 x5 x6 x7 x8 x9 x10 x11 : Option M, ε = [some (.fz (.list (nums ns))), x1, x2, x3, x4, x5, x6, x7, x8, x9, x10, x11])
    (ε := [some (.fz (.list (nums ns))), none, none, none, none, none, none, none, none, none, none, none]) ⟨_, _, _, _, _, _, _, _, _, _, _, rfl⟩ (by
      rintro j d ε hd ⟨x1, x2, x3, x4, x5, x6, x7, x8, x9, x10, x11, rfl⟩
      have hj : j < 7 := by
        have := (List.getElem?_eq_some_iff.mp hd).1
        rwa [upto_len] at this
      have hd' : d = .int (j : Int) := by
        unfold upto at hd
        rw [List.getElem?_map, List.getElem?_range hj] at hd
        cases hd
        rfl
      subst hd'
      obtain ⟨dk, ss, ab, many, ls, hm, hab, hl, hl20, e1⟩ := draws_ok ns j hj x2 x3 x4 x5 x6 x7 x8 x9 x10 x11
      obtain ⟨y6, y7, y8, y9, y10, y11, e2⟩ := tests_ok (.fz (.list (nums ns))) (.fz (.int (j : Int))) (.ol dk) ss ab many ls hm hab hl hl20 x6 x7 x8 x9 x10 x11
      exact ⟨_, _, rfl, by rw [law5_eq]; exact (e1 _).trans e2, _, _, _, _, _, _, _, _, _, _, _, rfl⟩)
  obtain ⟨d0, h0, e0⟩ := deck_ok 3
  obtain ⟨d1, ss, h1, s0, s4, e1⟩ := kit_ok h0 (by omega)
  have l0 : Lays 0 [] := ⟨by decide, fun _ h => by cases h⟩
  have e2 := words_ok (n := 0) (braidS ss) [] [] rfl l0 (vs_le l0 (by decide))
  have e3 : oEq (.fz (.tuple [])) (.fz (.tuple [])) = some (.fz (.bool true)) := oEq_same (d := .tuple []) rfl rfl rfl (by simp [PyData.depth, PyData.depthAll])
  have r7 : range1 [.int 7] = some (upto 7) := range1_nat (n := 7) (by decide)
  have e2 : fn_words_of [.fz (braidS ss), .fz (.tuple [.tuple [], .tuple []])] = .ok (.fz (.tuple [])) [some (.fz (braidS ss)), some (.fz (.tuple [.tuple [], .tuple []]))] := e2
  refine ⟨[some (.fz (.list (nums ns)))], ?_⟩
  rw [fn_law, mk_run (by rfl)]
  have en : (ns.map (fun n => (PyData.int n : D))) = nums ns := rfl
  rw [en]
  generalize upto 7 = u7 at r7 f1
  simp [sv_law, r7, f1, e0, e1, e2, e3]
end K60a

theorem PySem.Challenge.cw_slidewires_k60_words_on_wires_holds : PySem.Challenge.rw_slidewires_k60_words_on_wires.Holds :=
  K60a.holds_of fun ns _ => K60a.law_true ns
