import PyProof.Rows.All
import Wide.All
import OpenK.AllK
import Wide.FinOn
import HandS.ForMost
import HandS.Wide
import HandS.ForExc
import HandS.Style
import HandS.Property
import HandS.ExcInit
import HandS.IsInst
import PyProof.InstNe
import HandS.Conv
import HandS.TryOnly
import PyProof.EqKinds
import PyProof.NeKinds
import PySem.Challenge.RW_plandays_k74_counted_that_are_equal
import HandS.Ends
set_option Elab.async false
set_option linter.all false
set_option autoImplicit false
set_option maxRecDepth 100000
set_option maxHeartbeats 4000000
namespace DL
open PySem PySem.Spec PyProof.Rows L2

/-! ### data without a heap -/
inductive D where
  | non | bl (b : Bool) | int (i : Int) | str (x : Str)
  | lst (xs : List D) | tup (xs : List D)
  | ins (C : Addr) (ns : List Str) (ds : List D)
  | deck | scr (xs : List Int)

section
variable (K : PySem.W.Frag) (dp : Option (Addr × Addr)) (H : Hp)
mutual
def Rep : D → V → Prop
  | .non, v => v = .non
  | .bl b, v => v = .bl b
  | .int i, v => v = .int i
  | .str x, v => v = .str x
  | .lst ds, v => ∃ a vs, v = .ref a ∧ H a = some (.lst vs) ∧ Reps ds vs
  | .tup ds, v => ∃ a vs, v = .ref a ∧ SqT K H a vs ∧ Reps ds vs
  | .ins C ns ds, v => ∃ a dx gs, v = .ref a ∧ H a = some (.ins C dx gs) ∧ gs.map (·.1) = ns ∧ Reps ds (gs.map (·.2))
  | .deck, v => ∃ p, dp = some p ∧ v = .ref p.1
  | .scr xs, v => ∃ a, v = .ref a ∧ SqL K H a (xs.map .int)
def Reps : List D → List V → Prop
  | [], vs => vs = []
  | d :: ds, vs => ∃ v r, vs = v :: r ∧ Rep d v ∧ Reps ds r
end
end

theorem Same.seqT {K : PySem.W.Frag} {H H' : Hp} {a : Addr} {xs : List V} (e : Same H H') (h : SqT K H a xs) : SqT K H' a xs := by
  rcases h with (h | ⟨o, h⟩) | h
  · exact .inl (.inl (e _ _ h))
  · exact .inl (.inr ⟨o, e _ _ h⟩)
  · exact .inr h

section
variable {K : PySem.W.Frag} {dp : Option (Addr × Addr)} {H H' : Hp}
mutual
theorem Rep.mono (s : Same H H') : ∀ (d : D) (v : V), Rep K dp H d v → Rep K dp H' d v
  | .non, v, h => by unfold Rep at h ⊢; exact h
  | .bl b, v, h => by unfold Rep at h ⊢; exact h
  | .int i, v, h => by unfold Rep at h ⊢; exact h
  | .str x, v, h => by unfold Rep at h ⊢; exact h
  | .lst ds, v, h => by
    unfold Rep at h ⊢
    obtain ⟨a, vs, e, h1, h2⟩ := h
    exact ⟨a, vs, e, s _ _ h1, Reps.mono s ds vs h2⟩
  | .tup ds, v, h => by
    unfold Rep at h ⊢
    obtain ⟨a, vs, e, h1, h2⟩ := h
    exact ⟨a, vs, e, Same.seqT s h1, Reps.mono s ds vs h2⟩
  | .ins C ns ds, v, h => by
    unfold Rep at h ⊢
    obtain ⟨a, dx, gs, e, h1, h2, h3⟩ := h
    exact ⟨a, dx, gs, e, s _ _ h1, h2, Reps.mono s ds _ h3⟩
  | .deck, v, h => by unfold Rep at h ⊢; exact h
  | .scr xs, v, h => by
    unfold Rep at h ⊢
    obtain ⟨a, e, h1⟩ := h
    exact ⟨a, e, s.seq h1⟩
theorem Reps.mono (s : Same H H') : ∀ (ds : List D) (vs : List V), Reps K dp H ds vs → Reps K dp H' ds vs
  | [], vs, h => by unfold Reps at h ⊢; exact h
  | d :: ds, vs, h => by
    unfold Reps at h ⊢
    obtain ⟨v, r, e, h1, h2⟩ := h
    exact ⟨v, r, e, Rep.mono s d v h1, Reps.mono s ds r h2⟩
end
theorem Reps.nil : Reps K dp H [] [] := by unfold Reps; rfl
theorem Reps.cons {d : D} {v : V} {ds : List D} {vs : List V} (h : Rep K dp H d v) (t : Reps K dp H ds vs) : Reps K dp H (d :: ds) (v :: vs) := by
  unfold Reps; exact ⟨v, vs, rfl, h, t⟩
theorem Reps.uncons {d : D} {ds : List D} {vs : List V} (h : Reps K dp H (d :: ds) vs) : ∃ v r, vs = v :: r ∧ Rep K dp H d v ∧ Reps K dp H ds r := by
  unfold Reps at h; exact h
theorem Reps.unnil {vs : List V} (h : Reps K dp H [] vs) : vs = [] := by unfold Reps at h; exact h
theorem Reps.length : ∀ {ds : List D} {vs : List V}, Reps K dp H ds vs → ds.length = vs.length
  | [], vs, h => by rw [h.unnil]; rfl
  | d :: ds, vs, h => by
    obtain ⟨v, r, rfl, _, t⟩ := h.uncons
    rw [List.length_cons, List.length_cons, Reps.length t]
theorem Reps.get : ∀ {ds : List D} {vs : List V} {i : Nat} {d : D}, Reps K dp H ds vs → ds[i]? = some d → ∃ v, vs[i]? = some v ∧ Rep K dp H d v
  | [], _, _, _, _, e => by simp at e
  | d0 :: ds, vs, 0, d, h, e => by
    obtain ⟨v, r, rfl, h1, _⟩ := h.uncons
    simp at e; subst e
    exact ⟨v, rfl, h1⟩
  | d0 :: ds, vs, i + 1, d, h, e => by
    obtain ⟨v, r, rfl, _, t⟩ := h.uncons
    obtain ⟨v', e', q⟩ := Reps.get (i := i) (d := d) t (by simpa using e)
    exact ⟨v', by simpa using e', q⟩
theorem Reps.get' : ∀ {ds : List D} {vs : List V} {i : Nat} {v : V}, Reps K dp H ds vs → vs[i]? = some v → ∃ d, ds[i]? = some d ∧ Rep K dp H d v
  | [], _, _, _, h, e => by rw [h.unnil] at e; simp at e
  | d0 :: ds, vs, 0, v, h, e => by
    obtain ⟨v', r, rfl, h1, _⟩ := h.uncons
    simp at e; subst e
    exact ⟨d0, rfl, h1⟩
  | d0 :: ds, vs, i + 1, v, h, e => by
    obtain ⟨v', r, rfl, _, t⟩ := h.uncons
    obtain ⟨d, e', q⟩ := Reps.get' (i := i) (v := v) t (by simpa using e)
    exact ⟨d, by simpa using e', q⟩
theorem Reps.append : ∀ {ds es : List D} {vs ws : List V}, Reps K dp H ds vs → Reps K dp H es ws → Reps K dp H (ds ++ es) (vs ++ ws)
  | [], _, _, _, h, t => by rw [h.unnil]; exact t
  | d :: ds, es, vs, ws, h, t => by
    obtain ⟨v, r, rfl, h1, h2⟩ := h.uncons
    exact .cons h1 (Reps.append h2 t)
theorem Reps.take : ∀ {ds : List D} {vs : List V} (n : Nat), Reps K dp H ds vs → Reps K dp H (ds.take n) (vs.take n)
  | _, _, 0, _ => by simp; exact .nil
  | [], _, n + 1, h => by rw [h.unnil]; exact .nil
  | d :: ds, vs, n + 1, h => by
    obtain ⟨v, r, rfl, h1, h2⟩ := h.uncons
    exact .cons h1 (Reps.take n h2)
theorem Reps.drop : ∀ {ds : List D} {vs : List V} (n : Nat), Reps K dp H ds vs → Reps K dp H (ds.drop n) (vs.drop n)
  | _, _, 0, h => h
  | [], _, n + 1, h => by rw [h.unnil]; exact .nil
  | d :: ds, vs, n + 1, h => by
    obtain ⟨v, r, rfl, h1, h2⟩ := h.uncons
    exact Reps.drop n h2
theorem Reps.reverse {ds : List D} {vs : List V} (h : Reps K dp H ds vs) : Reps K dp H ds.reverse vs.reverse := by
  induction ds generalizing vs with
  | nil => rw [h.unnil]; exact .nil
  | cons d ds ih =>
    obtain ⟨v, r, rfl, h1, h2⟩ := h.uncons
    rw [List.reverse_cons, List.reverse_cons]
    exact (ih h2).append (.cons h1 .nil)
theorem Reps.set : ∀ {ds : List D} {vs : List V} (i : Nat) {d : D} {v : V}, Reps K dp H ds vs → Rep K dp H d v → Reps K dp H (ds.set i d) (vs.set i v)
  | [], _, _, _, _, h, _ => by rw [h.unnil]; exact .nil
  | d0 :: ds, vs, 0, _, _, h, q => by
    obtain ⟨v', r, rfl, h1, h2⟩ := h.uncons
    exact .cons q h2
  | d0 :: ds, vs, i + 1, _, _, h, q => by
    obtain ⟨v', r, rfl, h1, h2⟩ := h.uncons
    exact .cons h1 (Reps.set i h2 q)
theorem Reps.rep {ds : List D} {vs : List V} (h : Reps K dp H ds vs) : ∀ k : Nat, Reps K dp H (List.replicate k ds).flatten (List.replicate k vs).flatten
  | 0 => .nil
  | k + 1 => by
    rw [List.replicate_succ, List.replicate_succ, List.flatten_cons, List.flatten_cons]
    exact h.append (Reps.rep h k)
theorem Reps.ints : ∀ {ns : List Int} {vs : List V}, Reps K dp H (ns.map D.int) vs → vs = ns.map V.int
  | [], vs, h => h.unnil
  | n :: ns, vs, h => by
    obtain ⟨v, r, rfl, h1, h2⟩ := h.uncons
    have h1' : v = .int n := by unfold Rep at h1; exact h1
    rw [h1', Reps.ints h2, List.map_cons]
theorem reps_ints : ∀ (ns : List Int), Reps K dp H (ns.map D.int) (ns.map V.int)
  | [] => .nil
  | n :: ns => .cons (by unfold Rep; rfl) (reps_ints ns)
end

/-! ### steps of a heap: Hs is what may be seen, the rest is the callers' or owned -/
def isDk (dp : Option (Addr × Addr)) (a : Addr) : Prop := ∃ p, dp = some p ∧ (a = p.1 ∨ a = p.2)
def DkOk (dp : Option (Addr × Addr)) (H : Hp) : Prop := ∀ p, dp = some p → p.1 ≠ p.2 ∧ ∃ (gs : List Int) (c s : Int), H p.1 = some (.lst [.ref p.2, .int c, .int s]) ∧ H p.2 = some (.lst (gs.map V.int)) ∧ 0 ≤ s ∧ s < 2 ^ 31 ∧ gs.length ≤ 64
structure Bs (dp : Option (Addr × Addr)) (H Hs : Hp) : Prop where
  sub : Same Hs H
  dk : DkOk dp H
  dkn : ∀ a, isDk dp a → Hs a = none
structure Stp (dp : Option (Addr × Addr)) (H Hs H' Hs' : Hp) : Prop where
  ext : Same Hs Hs'
  new : ∀ a, H a ≠ none → Hs a = none → Hs' a = none
  frm : ∀ a o, H a = some o → Hs a = none → ¬ isDk dp a → H' a = some o
  bs : Bs dp H' Hs'
theorem Stp.refl {dp : Option (Addr × Addr)} {H Hs : Hp} (b : Bs dp H Hs) : Stp dp H Hs H Hs := ⟨Same.refl _, fun _ _ h => h, fun _ _ h _ _ => h, b⟩
theorem Stp.trans {dp : Option (Addr × Addr)} {H Hs H1 Hs1 H2 Hs2 : Hp} (a : Stp dp H Hs H1 Hs1) (b : Stp dp H1 Hs1 H2 Hs2) : Stp dp H Hs H2 Hs2 where
  ext := a.ext.trans b.ext
  new := fun x h1 h2 => by
    have q := a.new x h1 h2
    by_cases hd : isDk dp x
    · exact b.bs.dkn x hd
    · cases e : H x with
      | none => exact absurd e h1
      | some o =>
        have r := a.frm x o e h2 hd
        exact b.new x (by rw [r]; simp) q
  frm := fun x o h1 h2 hd => b.frm x o (a.frm x o h1 h2 hd) (a.new x (by rw [h1]; simp) h2) hd
  bs := b.bs
/-- a new object p, seen from now on -/
theorem Stp.laid {dp : Option (Addr × Addr)} {H Hs : Hp} {p : Addr} {o : HO} (b : Bs dp H Hs) (hp : H p = none) : Stp dp H Hs (upd H p o) (upd Hs p o) := by
  have hsp : Hs p = none := b.sub.free hp
  have hdk : ¬ isDk dp p := by
    rintro ⟨q, e, h⟩
    obtain ⟨_, gs, c, s, h1, h2, _⟩ := b.dk q e
    rcases h with h | h <;> subst h
    · rw [h1] at hp; cases hp
    · rw [h2] at hp; cases hp
  refine ⟨fun a x e => ?_, fun a h1 h2 => ?_, fun a x h1 h2 _ => ?_, ⟨fun a x e => ?_, fun q e => ?_, fun a h => ?_⟩⟩
  · rw [upd_ne (ne_of_none e hsp)]; exact e
  · have : a ≠ p := fun z => by subst z; exact h1 hp
    rw [upd_ne this]; exact h2
  · rw [upd_ne (ne_of_none h1 hp)]; exact h1
  · by_cases z : a = p
    · subst z; rw [upd_same] at e ⊢; exact e
    · rw [upd_ne z] at e ⊢; exact b.sub a x e
  · obtain ⟨h0, gs, c, s, h1, h2, h3, h4, h5⟩ := b.dk q e
    refine ⟨h0, gs, c, s, ?_, ?_, h3, h4, h5⟩
    · rw [upd_ne (ne_of_none h1 hp)]; exact h1
    · rw [upd_ne (ne_of_none h2 hp)]; exact h2
  · have : a ≠ p := fun z => by subst z; exact hdk h
    rw [upd_ne this]; exact b.dkn a h
/-- a new object p, owned: not seen -/
theorem Stp.laidO {dp : Option (Addr × Addr)} {H Hs : Hp} {p : Addr} {o : HO} (b : Bs dp H Hs) (hp : H p = none) : Stp dp H Hs (upd H p o) Hs := by
  have hsp : Hs p = none := b.sub.free hp
  refine ⟨Same.refl _, fun a h1 h2 => h2, fun a x h1 h2 _ => ?_, ⟨fun a x e => ?_, fun q e => ?_, b.dkn⟩⟩
  · rw [upd_ne (ne_of_none h1 hp)]; exact h1
  · rw [upd_ne (ne_of_none e hsp)]; exact b.sub a x e
  · obtain ⟨h0, gs, c, s, h1, h2, h3, h4, h5⟩ := b.dk q e
    refine ⟨h0, gs, c, s, ?_, ?_, h3, h4, h5⟩
    · rw [upd_ne (ne_of_none h1 hp)]; exact h1
    · rw [upd_ne (ne_of_none h2 hp)]; exact h2

/-! ### the slots -/
inductive Cell where
  | no | sh (d : D) | ow (a : Addr) (d : D)
abbrev Env := List Cell
abbrev Sg := L2.St
/-- an object that a slot owns: its top at a in H, its parts seen -/
def OwnRep (K : PySem.W.Frag) (dp : Option (Addr × Addr)) (H Hs : Hp) (a : Addr) : D → Prop
  | .lst ds => ∃ vs, H a = some (.lst vs) ∧ Reps K dp Hs ds vs
  | .ins C ns ds => ∃ dx gs, H a = some (.ins C dx gs) ∧ gs.map (·.1) = ns ∧ Reps K dp Hs ds (gs.map (·.2))
  | _ => False
def Owned (K : PySem.W.Frag) (dp : Option (Addr × Addr)) (H0 H Hs : Hp) (a : Addr) (d : D) : Prop :=
  OwnRep K dp H Hs a d ∧ Hs a = none ∧ H0 a = none ∧ ¬ isDk dp a
def CellOk (K : PySem.W.Frag) (dp : Option (Addr × Addr)) (H0 H Hs : Hp) : Cell → Option (Option V) → Prop
  | .no, _ => True
  | .sh d, o => ∃ v, o = some (some v) ∧ Rep K dp Hs d v
  | .ow a d, o => o = some (some (.ref a)) ∧ Owned K dp H0 H Hs a d
structure Rl (K : PySem.W.Frag) (dp : Option (Addr × Addr)) (H0 Hs0 : Hp) (σ : Sg) (H Hs : Hp) (ρ : Env) : Prop where
  stp : Stp dp H0 Hs0 H Hs
  len : ρ.length = σ.length
  cells : ∀ (i : Nat) (c : Cell), ρ[i]? = some c → CellOk K dp H0 H Hs c σ[i]?
  dist : ∀ (i j : Nat) (a : Addr) (d d' : D), ρ[i]? = some (.ow a d) → ρ[j]? = some (.ow a d') → i = j

section
variable {K : PySem.W.Frag} {dp : Option (Addr × Addr)} {H0 Hs0 H Hs H' Hs' : Hp} {σ : Sg} {ρ : Env}
theorem OwnRep.step {a : Addr} (s : Stp dp H Hs H' Hs') (hs : Hs a = none) (hd : ¬ isDk dp a) : ∀ (d : D), OwnRep K dp H Hs a d → OwnRep K dp H' Hs' a d
  | .lst ds, h => by
    obtain ⟨vs, h1, h2⟩ := h
    exact ⟨vs, s.frm _ _ h1 hs hd, Reps.mono s.ext _ _ h2⟩
  | .ins C ns ds, h => by
    obtain ⟨dx, gs, h1, h2, h3⟩ := h
    exact ⟨dx, gs, s.frm _ _ h1 hs hd, h2, Reps.mono s.ext _ _ h3⟩
  | .non, h => h.elim
  | .bl _, h => h.elim
  | .int _, h => h.elim
  | .str _, h => h.elim
  | .tup _, h => h.elim
  | .deck, h => h.elim
  | .scr _, h => h.elim
theorem OwnRep.there {a : Addr} : ∀ (d : D), OwnRep K dp H Hs a d → H a ≠ none
  | .lst ds, h => by obtain ⟨vs, h1, h2⟩ := h; rw [h1]; simp
  | .ins C ns ds, h => by obtain ⟨dx, gs, h1, h2, h3⟩ := h; rw [h1]; simp
  | .non, h => h.elim
  | .bl _, h => h.elim
  | .int _, h => h.elim
  | .str _, h => h.elim
  | .tup _, h => h.elim
  | .deck, h => h.elim
  | .scr _, h => h.elim
theorem Owned.step {a : Addr} {d : D} (o : Owned K dp H0 H Hs a d) (s : Stp dp H Hs H' Hs') : Owned K dp H0 H' Hs' a d :=
  ⟨o.1.step s o.2.1 o.2.2.2, s.new a (o.1.there _) o.2.1, o.2.2.1, o.2.2.2⟩
theorem Rl.bs (r : Rl K dp H0 Hs0 σ H Hs ρ) : Bs dp H Hs := r.stp.bs
theorem Rl.step (r : Rl K dp H0 Hs0 σ H Hs ρ) (s : Stp dp H Hs H' Hs') : Rl K dp H0 Hs0 σ H' Hs' ρ where
  stp := r.stp.trans s
  len := r.len
  cells := fun i c e => by
    have h := r.cells i c e
    cases c with
    | no => trivial
    | sh d => obtain ⟨v, e1, q⟩ := h; exact ⟨v, e1, Rep.mono s.ext _ _ q⟩
    | ow a d => obtain ⟨e1, q⟩ := h; exact ⟨e1, q.step s⟩
  dist := r.dist
/-- a slot gets a seen value -/
theorem Rl.set (r : Rl K dp H0 Hs0 σ H Hs ρ) (i : Nat) {d : D} {v : V} (q : Rep K dp Hs d v) : Rl K dp H0 Hs0 (σ.set i (some v)) H Hs (ρ.set i (.sh d)) where
  stp := r.stp
  len := by rw [List.length_set, List.length_set, r.len]
  cells := fun j c e => by
    by_cases hij : i = j
    · subst hij
      have hl : i < ρ.length := by
        have := (List.getElem?_eq_some_iff.mp e).1
        rwa [List.length_set] at this
      rw [List.getElem?_set_self hl] at e
      cases e
      exact ⟨v, by rw [List.getElem?_set_self (by rw [← r.len]; exact hl)], q⟩
    · rw [List.getElem?_set_ne hij] at e
      rw [List.getElem?_set_ne hij]
      exact r.cells j c e
  dist := fun j k a d1 d2 e1 e2 => by
    have ne : ∀ (j : Nat) (d1 : D), (ρ.set i (.sh d))[j]? = some (.ow a d1) → i ≠ j := fun j d1 e z => by
      subst z
      have hl : i < ρ.length := by
        have := (List.getElem?_eq_some_iff.mp e).1
        rwa [List.length_set] at this
      rw [List.getElem?_set_self hl] at e
      cases e
    have n1 := ne j d1 e1
    have n2 := ne k d2 e2
    rw [List.getElem?_set_ne n1] at e1
    rw [List.getElem?_set_ne n2] at e2
    exact r.dist j k a d1 d2 e1 e2
/-- a slot is forgotten -/
theorem Rl.wipe1 (r : Rl K dp H0 Hs0 σ H Hs ρ) (i : Nat) (o : Option V) : Rl K dp H0 Hs0 (σ.set i o) H Hs (ρ.set i .no) where
  stp := r.stp
  len := by rw [List.length_set, List.length_set, r.len]
  cells := fun j c e => by
    by_cases hij : i = j
    · subst hij
      have hl : i < ρ.length := by
        have := (List.getElem?_eq_some_iff.mp e).1
        rwa [List.length_set] at this
      rw [List.getElem?_set_self hl] at e
      cases e
      trivial
    · rw [List.getElem?_set_ne hij] at e
      rw [List.getElem?_set_ne hij]
      exact r.cells j c e
  dist := fun j k a d1 d2 e1 e2 => by
    have ne : ∀ (j : Nat) (d1 : D), (ρ.set i .no)[j]? = some (.ow a d1) → i ≠ j := fun j d1 e z => by
      subst z
      have hl : i < ρ.length := by
        have := (List.getElem?_eq_some_iff.mp e).1
        rwa [List.length_set] at this
      rw [List.getElem?_set_self hl] at e
      cases e
    have n1 := ne j d1 e1
    have n2 := ne k d2 e2
    rw [List.getElem?_set_ne n1] at e1
    rw [List.getElem?_set_ne n2] at e2
    exact r.dist j k a d1 d2 e1 e2
/-- a slot gets an object of its own that no other slot has -/
theorem Rl.setO (r : Rl K dp H0 Hs0 σ H Hs ρ) (i : Nat) {d : D} {a : Addr} (q : Owned K dp H0 H Hs a d) (hn : ∀ (j : Nat) (d' : D), j ≠ i → ρ[j]? ≠ some (.ow a d')) :
    Rl K dp H0 Hs0 (σ.set i (some (.ref a))) H Hs (ρ.set i (.ow a d)) where
  stp := r.stp
  len := by rw [List.length_set, List.length_set, r.len]
  cells := fun j c e => by
    by_cases hij : i = j
    · subst hij
      have hl : i < ρ.length := by
        have := (List.getElem?_eq_some_iff.mp e).1
        rwa [List.length_set] at this
      rw [List.getElem?_set_self hl] at e
      cases e
      exact ⟨by rw [List.getElem?_set_self (by rw [← r.len]; exact hl)], q⟩
    · rw [List.getElem?_set_ne hij] at e
      rw [List.getElem?_set_ne hij]
      exact r.cells j c e
  dist := fun j k b d1 d2 e1 e2 => by
    have il : ∀ (j : Nat) (d1 : D), (ρ.set i (.ow a d))[j]? = some (.ow b d1) → i = j → a = b := fun j d1 e z => by
      subst z
      have hl : i < ρ.length := by
        have := (List.getElem?_eq_some_iff.mp e).1
        rwa [List.length_set] at this
      rw [List.getElem?_set_self hl] at e
      cases e
      rfl
    by_cases h1 : i = j
    · by_cases h2 : i = k
      · rw [← h1, ← h2]
      · exfalso
        have eb := il j d1 e1 h1
        rw [List.getElem?_set_ne h2] at e2
        exact hn k d2 (Ne.symm h2) (by rw [e2, eb])
    · by_cases h2 : i = k
      · exfalso
        have eb := il k d2 e2 h2
        rw [List.getElem?_set_ne h1] at e1
        exact hn j d1 (Ne.symm h1) (by rw [e1, eb])
      · rw [List.getElem?_set_ne h1] at e1
        rw [List.getElem?_set_ne h2] at e2
        exact r.dist j k b d1 d2 e1 e2
/-- a new object is no other slot's -/
theorem Rl.fresh (r : Rl K dp H0 Hs0 σ H Hs ρ) {a : Addr} (hn : H a = none) (j : Nat) (d' : D) : ρ[j]? ≠ some (.ow a d') := fun e => by
  obtain ⟨_, q, _⟩ := r.cells j _ e
  exact q.there _ hn
/-- an owned object is changed -/
theorem Rl.put (r : Rl K dp H0 Hs0 σ H Hs ρ) {i : Nat} {a : Addr} {d d' : D} {o : HO} (e : ρ[i]? = some (.ow a d)) (q : OwnRep K dp (upd H a o) Hs a d') : Rl K dp H0 Hs0 σ (upd H a o) Hs (ρ.set i (.ow a d')) := by
  obtain ⟨e1, ow, hs, h0, hdk⟩ := r.cells i _ e
  have hi : i < ρ.length := (List.getElem?_eq_some_iff.mp e).1
  refine ⟨⟨r.stp.ext, r.stp.new, fun x u h1 h2 h3 => ?_, ⟨fun x u h => ?_, fun p hp => ?_, r.bs.dkn⟩⟩, by rw [List.length_set, r.len], fun j c ec => ?_, fun j k b d1 d2 e1 e2 => ?_⟩
  · have : x ≠ a := fun z => by subst z; rw [h0] at h1; cases h1
    rw [upd_ne this]; exact r.stp.frm x u h1 h2 h3
  · have : x ≠ a := fun z => by subst z; rw [hs] at h; cases h
    rw [upd_ne this]; exact r.bs.sub x u h
  · obtain ⟨g0, gs, c, s, g1, g2, g3⟩ := r.bs.dk p hp
    refine ⟨g0, gs, c, s, ?_, ?_, g3⟩
    · rw [upd_ne (fun z => hdk ⟨p, hp, .inl z.symm⟩)]; exact g1
    · rw [upd_ne (fun z => hdk ⟨p, hp, .inr z.symm⟩)]; exact g2
  · by_cases hij : i = j
    · subst hij
      rw [List.getElem?_set_self hi] at ec
      cases ec
      exact ⟨e1, q, hs, h0, hdk⟩
    · rw [List.getElem?_set_ne hij] at ec
      have h := r.cells j c ec
      cases c with
      | no => trivial
      | sh d => exact h
      | ow b d2 =>
        have hb : b ≠ a := fun z => by subst z; exact hij (r.dist i j b d d2 e ec)
        obtain ⟨f1, f2, f3⟩ := h
        refine ⟨f1, ?_, f3⟩
        cases d2 with
        | lst ds => obtain ⟨vs, g1, g2⟩ := f2; exact ⟨vs, by rw [upd_ne hb]; exact g1, g2⟩
        | ins C ns ds => obtain ⟨dx, gs, g1, g2⟩ := f2; exact ⟨dx, gs, by rw [upd_ne hb]; exact g1, g2⟩
        | _ => exact f2.elim
  · have key : ∀ (j : Nat) (d1 : D), (ρ.set i (.ow a d'))[j]? = some (.ow b d1) → ∃ d3, ρ[j]? = some (.ow b d3) := fun j d1 e1 => by
      by_cases hij : i = j
      · subst hij
        rw [List.getElem?_set_self hi] at e1
        cases e1
        exact ⟨d, e⟩
      · rw [List.getElem?_set_ne hij] at e1
        exact ⟨d1, e1⟩
    obtain ⟨d3, e3⟩ := key j d1 e1
    obtain ⟨d4, e4⟩ := key k d2 e2
    exact r.dist j k b d3 d4 e3 e4




end
end DL

set_option Elab.async false
set_option linter.all false
set_option autoImplicit false
set_option maxRecDepth 100000
set_option maxHeartbeats 4000000
namespace DL
open PySem PySem.Spec PyProof.Rows L2

abbrev TEd := Env → (D → Prop) → Prop
abbrev TTd := Env → (Bool → Prop) → Prop
abbrev TAd := Env → (List D → Prop) → Prop
abbrev RD2 := D → D → (D → Prop) → Prop

/-- a value whose top may be owned: the top in H, its parts seen -/
def RepB (K : PySem.W.Frag) (dp : Option (Addr × Addr)) (H Hs : Hp) : D → V → Prop
  | .lst ds, v => ∃ a vs, v = .ref a ∧ H a = some (.lst vs) ∧ ¬ isDk dp a ∧ Reps K dp Hs ds vs
  | .ins C ns ds, v => ∃ a dx gs, v = .ref a ∧ H a = some (.ins C dx gs) ∧ ¬ isDk dp a ∧ gs.map (·.1) = ns ∧ Reps K dp Hs ds (gs.map (·.2))
  | d, v => Rep K dp Hs d v

def tD (K : PySem.W.Frag) (m : TEd) : TE := fun σ H Q => ∃ dp H0 Hs0 Hs ρ P, Rl K dp H0 Hs0 σ H Hs ρ ∧ m ρ P ∧ ∀ d, P d → ∀ v H' Hs', Stp dp H Hs H' Hs' → Rep K dp Hs' d v → Q v H'
def tB (K : PySem.W.Frag) (m : TEd) : TE := fun σ H Q => ∃ dp H0 Hs0 Hs ρ P, Rl K dp H0 Hs0 σ H Hs ρ ∧ m ρ P ∧ ∀ d, P d → ∀ v H' Hs', Stp dp H Hs H' Hs' → RepB K dp H' Hs' d v → Q v H'
/-- a new object -/
def tF (K : PySem.W.Frag) (m : TEd) : TE := fun σ H Q => ∃ dp H0 Hs0 Hs ρ P, Rl K dp H0 Hs0 σ H Hs ρ ∧ m ρ P ∧ ∀ d, P d → ∀ a H' Hs', Stp dp H Hs H' Hs' → OwnRep K dp H' Hs' a d → Hs' a = none → H a = none → ¬ isDk dp a → Q (.ref a) H'
def tT (K : PySem.W.Frag) (m : TTd) : TT := fun σ H Q => ∃ dp H0 Hs0 Hs ρ P, Rl K dp H0 Hs0 σ H Hs ρ ∧ m ρ P ∧ ∀ b, P b → ∀ H' Hs', Stp dp H Hs H' Hs' → Q b H'
def tA (K : PySem.W.Frag) (m : TAd) : TA := fun σ H Q => ∃ dp H0 Hs0 Hs ρ P, Rl K dp H0 Hs0 σ H Hs ρ ∧ m ρ P ∧ ∀ ds, P ds → ∀ vs H' Hs', Stp dp H Hs H' Hs' → Reps K dp Hs' ds vs → Q vs H'
/-- arguments whose tops may be owned -/
def RepsB (K : PySem.W.Frag) (dp : Option (Addr × Addr)) (H Hs : Hp) : List D → List V → Prop
  | [], vs => vs = []
  | d :: ds, vs => ∃ v r, vs = v :: r ∧ RepB K dp H Hs d v ∧ RepsB K dp H Hs ds r
def tAB (K : PySem.W.Frag) (m : TAd) : TA := fun σ H Q => ∃ dp H0 Hs0 Hs ρ P, Rl K dp H0 Hs0 σ H Hs ρ ∧ m ρ P ∧ ∀ ds, P ds → ∀ vs H' Hs', Stp dp H Hs H' Hs' → RepsB K dp H' Hs' ds vs → Q vs H'

def PEd (X : Cx) (e : Expr) (m : TEd) : Prop := PE X e (tD X.K m)
def PEb (X : Cx) (e : Expr) (m : TEd) : Prop := PE X e (tB X.K m)
def PEf (X : Cx) (e : Expr) (m : TEd) : Prop := PE X e (tF X.K m)
def PTd (X : Cx) (e : Expr) (m : TTd) : Prop := PT X e (tT X.K m)
def PWd (X : Cx) (e : Expr) (m : TTd) : Prop := PW X e (tT X.K m)
def PAd (X : Cx) (es : List Expr) (m : TAd) : Prop := PA X es (tA X.K m)
def PAb (X : Cx) (es : List Expr) (m : TAd) : Prop := PA X es (tAB X.K m)

theorem PE.mono {X : Cx} {e : Expr} {t t' : TE} (h : PE X e t) (f : ∀ σ H Q, t' σ H Q → t σ H Q) : PE X e t' := ⟨fun pins s σ H Q I hw => h.run pins s σ H Q I (f σ H Q hw)⟩
theorem PT.mono {X : Cx} {e : Expr} {t t' : TT} (h : PT X e t) (f : ∀ σ H Q, t' σ H Q → t σ H Q) : PT X e t' := ⟨fun pins s σ H Q I hw => h.run pins s σ H Q I (f σ H Q hw)⟩
theorem PW.mono {X : Cx} {e : Expr} {t t' : TT} (h : PW X e t) (f : ∀ σ H Q, t' σ H Q → t σ H Q) : PW X e t' := ⟨fun whole pins s σ H Q I hw => h.run whole pins s σ H Q I (f σ H Q hw)⟩
theorem PA.mono {X : Cx} {es : List Expr} {t t' : TA} (h : PA X es t) (f : ∀ σ H Q, t' σ H Q → t σ H Q) : PA X es t' := ⟨fun pos pins s σ H Q I hw => h.run pos pins s σ H Q I (f σ H Q hw)⟩

section
variable {K : PySem.W.Frag} {dp : Option (Addr × Addr)} {H0 Hs0 H Hs H' Hs' : Hp} {σ : Sg} {ρ : Env}
theorem Bs.ndk (b : Bs dp H Hs) {a : Addr} {o : HO} (h : Hs a = some o) : ¬ isDk dp a := fun z => by rw [b.dkn a z] at h; cases h
theorem Rep.b (b : Bs dp H Hs) : ∀ (d : D) (v : V), Rep K dp Hs d v → RepB K dp H Hs d v
  | .lst ds, v, h => by
    unfold Rep at h
    obtain ⟨a, vs, e, h1, h2⟩ := h
    exact ⟨a, vs, e, b.sub _ _ h1, b.ndk h1, h2⟩
  | .ins C ns ds, v, h => by
    unfold Rep at h
    obtain ⟨a, dx, gs, e, h1, h2, h3⟩ := h
    exact ⟨a, dx, gs, e, b.sub _ _ h1, b.ndk h1, h2, h3⟩
  | .non, v, h => h
  | .bl _, v, h => h
  | .int _, v, h => h
  | .str _, v, h => h
  | .tup _, v, h => h
  | .deck, v, h => h
  | .scr _, v, h => h
theorem top_step (s : Stp dp H Hs H' Hs') {a : Addr} {o : HO} (b : Bs dp H Hs) (h : H a = some o) (hd : ¬ isDk dp a) : H' a = some o := by
  cases e : Hs a with
  | none => exact s.frm a o h e hd
  | some u =>
    have := b.sub a u e
    rw [h] at this; cases this
    exact s.bs.sub _ _ (s.ext _ _ e)
theorem RepB.step (b : Bs dp H Hs) (s : Stp dp H Hs H' Hs') : ∀ (d : D) (v : V), RepB K dp H Hs d v → RepB K dp H' Hs' d v
  | .lst ds, v, h => by
    obtain ⟨a, vs, e, h1, h0, h2⟩ := h
    exact ⟨a, vs, e, top_step s b h1 h0, h0, Reps.mono s.ext _ _ h2⟩
  | .ins C ns ds, v, h => by
    obtain ⟨a, dx, gs, e, h1, h0, h2, h3⟩ := h
    exact ⟨a, dx, gs, e, top_step s b h1 h0, h0, h2, Reps.mono s.ext _ _ h3⟩
  | .non, v, h => Rep.mono s.ext _ _ h
  | .bl _, v, h => Rep.mono s.ext _ _ h
  | .int _, v, h => Rep.mono s.ext _ _ h
  | .str _, v, h => Rep.mono s.ext _ _ h
  | .tup _, v, h => Rep.mono s.ext _ _ h
  | .deck, v, h => Rep.mono s.ext _ _ h
  | .scr _, v, h => Rep.mono s.ext _ _ h
theorem RepsB.step (b : Bs dp H Hs) (s : Stp dp H Hs H' Hs') : ∀ (ds : List D) (vs : List V), RepsB K dp H Hs ds vs → RepsB K dp H' Hs' ds vs
  | [], _, h => h
  | d :: ds, vs, h => by
    obtain ⟨v, r, e, h1, h2⟩ := h
    exact ⟨v, r, e, RepB.step b s d v h1, RepsB.step b s ds r h2⟩
theorem RepB.of_own {a : Addr} : ∀ {d : D}, OwnRep K dp H Hs a d → ¬ isDk dp a → RepB K dp H Hs d (.ref a)
  | .lst ds, h, hd => by
    obtain ⟨vs, h1, h2⟩ := h
    exact ⟨a, vs, rfl, h1, hd, h2⟩
  | .ins C ns ds, h, hd => by
    obtain ⟨dx, gs, h1, h2, h3⟩ := h
    exact ⟨a, dx, gs, rfl, h1, hd, h2, h3⟩
  | .non, h, _ => h.elim
  | .bl _, h, _ => h.elim
  | .int _, h, _ => h.elim
  | .str _, h, _ => h.elim
  | .tup _, h, _ => h.elim
  | .deck, h, _ => h.elim
  | .scr _, h, _ => h.elim
/-- an object that was not seen is seen from now on -/
theorem Bs.share (b : Bs dp H Hs) {a : Addr} {o : HO} (h : H a = some o) (hs : Hs a = none) (hd : ¬ isDk dp a) : Bs dp H (upd Hs a o) := by
  refine ⟨fun x u e => ?_, b.dk, fun x hx => ?_⟩
  · by_cases z : x = a
    · subst z; rw [upd_same] at e; cases e; exact h
    · rw [upd_ne z] at e; exact b.sub x u e
  · have : x ≠ a := fun z => by subst z; exact hd hx
    rw [upd_ne this]; exact b.dkn x hx
theorem same_share {a : Addr} {o : HO} (hs : Hs a = none) : Same Hs (upd Hs a o) := fun x u e => by
  rw [upd_ne (ne_of_none e hs)]; exact e
theorem Stp.share (s : Stp dp H Hs H' Hs') {a : Addr} {o : HO} (h : H' a = some o) (hs : Hs' a = none) (hn : H a = none) (hd : ¬ isDk dp a) : Stp dp H Hs H' (upd Hs' a o) := by
  refine ⟨s.ext.trans (same_share hs), fun x h1 h2 => ?_, s.frm, s.bs.share h hs hd⟩
  have : x ≠ a := fun z => by subst z; exact h1 hn
  rw [upd_ne this]; exact s.new x h1 h2
theorem OwnRep.top {a : Addr} : ∀ {d : D}, OwnRep K dp H Hs a d → ∃ o, H a = some o ∧ ∀ Hs', Same Hs Hs' → Hs' a = some o → Rep K dp Hs' d (.ref a)
  | .lst ds, h => by
    obtain ⟨vs, h1, h2⟩ := h
    exact ⟨_, h1, fun Hs' sm e => by unfold Rep; exact ⟨a, vs, rfl, e, Reps.mono sm _ _ h2⟩⟩
  | .ins C ns ds, h => by
    obtain ⟨dx, gs, h1, h2, h3⟩ := h
    exact ⟨_, h1, fun Hs' sm e => by unfold Rep; exact ⟨a, dx, gs, rfl, e, h2, Reps.mono sm _ _ h3⟩⟩
  | .non, h => h.elim
  | .bl _, h => h.elim
  | .int _, h => h.elim
  | .str _, h => h.elim
  | .tup _, h => h.elim
  | .deck, h => h.elim
  | .scr _, h => h.elim
theorem RepB.int {i : Int} {v : V} (h : RepB K dp H Hs (.int i) v) : v = .int i := by
  have h' : Rep K dp Hs (.int i) v := h
  unfold Rep at h'; exact h'
theorem RepB.bl {i : Bool} {v : V} (h : RepB K dp H Hs (.bl i) v) : v = .bl i := by
  have h' : Rep K dp Hs (.bl i) v := h
  unfold Rep at h'; exact h'
theorem RepB.str {i : Str} {v : V} (h : RepB K dp H Hs (.str i) v) : v = .str i := by
  have h' : Rep K dp Hs (.str i) v := h
  unfold Rep at h'; exact h'
theorem RepB.non {v : V} (h : RepB K dp H Hs .non v) : v = .non := by
  have h' : Rep K dp Hs .non v := h
  unfold Rep at h'; exact h'
theorem RepB.tup {ds : List D} {v : V} (h : RepB K dp H Hs (.tup ds) v) : ∃ a vs, v = .ref a ∧ SqT K H a vs ∧ Reps K dp Hs ds vs ∨ ∃ a vs, v = .ref a ∧ SqT K Hs a vs ∧ Reps K dp Hs ds vs := by
  have h' : Rep K dp Hs (.tup ds) v := h
  unfold Rep at h'
  obtain ⟨a, vs, h1, h2, h3⟩ := h'
  exact ⟨a, vs, .inr ⟨a, vs, h1, h2, h3⟩⟩
theorem rep_int {i : Int} : Rep K dp Hs (.int i) (.int i) := by unfold Rep; rfl
theorem rep_bl {i : Bool} : Rep K dp Hs (.bl i) (.bl i) := by unfold Rep; rfl
theorem rep_str {i : Str} : Rep K dp Hs (.str i) (.str i) := by unfold Rep; rfl
theorem rep_non : Rep K dp Hs .non .non := by unfold Rep; rfl
end

section
variable {X : Cx} {e a b c : Expr} {m ma mb mc : TEd} {pos : Pos}
theorem PEd.bo (h : PEd X e m) : PEb X e m := PE.mono h fun σ H Q ⟨dp, H0, Hs0, Hs, ρ, P, r, hm, k⟩ =>
  ⟨dp, H0, Hs0, Hs, ρ, P, r, hm, fun d hd v H' Hs' s q => k d hd v H' Hs' s (Rep.b s.bs d v q)⟩
theorem PEf.d (h : PEf X e m) : PEd X e m := PE.mono h fun σ H Q ⟨dp, H0, Hs0, Hs, ρ, P, r, hm, k⟩ =>
  ⟨dp, H0, Hs0, Hs, ρ, P, r, hm, fun d hd a H' Hs' s q hs hn hdk => by
    obtain ⟨o, h1, h2⟩ := OwnRep.top q
    exact k d hd (.ref a) H' (upd Hs' a o) (s.share h1 hs hn hdk) (h2 _ (same_share hs) upd_same)⟩
theorem PEf.bo (h : PEf X e m) : PEb X e m := h.d.bo

/-! ### names and constants -/
def varD (i : Nat) : TEd := fun ρ P => match ρ[i]? with
  | some (.sh d) => P d
  | _ => False
def varB (i : Nat) : TEd := fun ρ P => match ρ[i]? with
  | some (.sh d) => P d
  | some (.ow _ d) => P d
  | _ => False
def conD (d : D) : TEd := fun _ P => P d
theorem dv (i : Nat) {x : Str} {pos : Pos} (hN : X.N[i]? = some x := by rfl) (hv : Vis X.env.scope x := by first | exact Or.inl rfl | exact Or.inr (Or.inl rfl) | exact Or.inr (Or.inr rfl)) (hd : (x == ("__debug__" : Str)) = false := by decide)
    (hcd : (x == ("__classdict__" : Str)) = false := by decide) : PEd X (.Name x pos) (varD i) := PE.mono (pe_var hN hv hd hcd) fun σ H Q ⟨dp, H0, Hs0, Hs, ρ, P, r, hm, k⟩ => by
  unfold varD at hm
  split at hm
  · rename_i d e
    obtain ⟨v, e1, q⟩ := r.cells i _ e
    exact ⟨v, e1, k d hm v H Hs (.refl r.bs) q⟩
  · exact hm.elim
theorem dvb (i : Nat) {x : Str} {pos : Pos} (hN : X.N[i]? = some x := by rfl) (hv : Vis X.env.scope x := by first | exact Or.inl rfl | exact Or.inr (Or.inl rfl) | exact Or.inr (Or.inr rfl)) (hd : (x == ("__debug__" : Str)) = false := by decide)
    (hcd : (x == ("__classdict__" : Str)) = false := by decide) : PEb X (.Name x pos) (varB i) := PE.mono (pe_var hN hv hd hcd) fun σ H Q ⟨dp, H0, Hs0, Hs, ρ, P, r, hm, k⟩ => by
  unfold varB at hm
  split at hm
  · rename_i d e
    obtain ⟨v, e1, q⟩ := r.cells i _ e
    exact ⟨v, e1, k d hm v H Hs (.refl r.bs) (Rep.b r.bs _ _ q)⟩
  · rename_i a d e
    obtain ⟨e1, q⟩ := r.cells i _ e
    exact ⟨.ref a, e1, k d hm (.ref a) H Hs (.refl r.bs) (RepB.of_own q.1 q.2.2.2)⟩
  · exact hm.elim
theorem d_con {v : V} {d : D} (h : PE X e (tC v)) (hr : ∀ dp Hs, Rep X.K dp Hs d v) : PEd X e (conD d) := PE.mono h fun σ H Q ⟨dp, H0, Hs0, Hs, ρ, P, r, hm, k⟩ =>
  k d hm v H Hs (.refl r.bs) (hr _ _)
theorem d_int {i : Int} {j : Nat} {pos : Pos} : PEd X (.Constant (.int i) j pos) (conD (.int i)) := d_con pe_int fun _ _ => rep_int
theorem d_bl {i : Bool} {j : Nat} {pos : Pos} : PEd X (.Constant (.bool i) j pos) (conD (.bl i)) := d_con pe_bl fun _ _ => rep_bl
theorem d_str {i : Str} {j : Nat} {pos : Pos} : PEd X (.Constant (.str i) j pos) (conD (.str i)) := d_con pe_str fun _ _ => rep_str
theorem d_non {j : Nat} {pos : Pos} : PEd X (.Constant .none j pos) (conD .non) := d_con pe_non fun _ _ => rep_non

/-! ### operations on two values -/
/-- by data: what f of two values asks, and what it gives -/
def OpD (X : Cx) (f : Value → Value → Sem Value) (rd : RD2) : Prop := ∃ r : R2, OpR X f r ∧
  ∀ (dp : Option (Addr × Addr)) (H Hs : Hp) (d1 d2 : D) (v1 v2 : V) (P : D → Prop) (Q : VK), Bs dp H Hs → RepB X.K dp H Hs d1 v1 → RepB X.K dp H Hs d2 v2 → rd d1 d2 P →
    (∀ d, P d → ∀ v H' Hs', Stp dp H Hs H' Hs' → Rep X.K dp Hs' d v → Q v H') → r v1 v2 H Q
def OpF (X : Cx) (f : Value → Value → Sem Value) (rd : RD2) : Prop := ∃ r : R2, OpR X f r ∧
  ∀ (dp : Option (Addr × Addr)) (H Hs : Hp) (d1 d2 : D) (v1 v2 : V) (P : D → Prop) (Q : VK), Bs dp H Hs → RepB X.K dp H Hs d1 v1 → RepB X.K dp H Hs d2 v2 → rd d1 d2 P →
    (∀ d, P d → ∀ a H' Hs', Stp dp H Hs H' Hs' → OwnRep X.K dp H' Hs' a d → Hs' a = none → H a = none → ¬ isDk dp a → Q (.ref a) H') → r v1 v2 H Q
def binD (rd : RD2) (ma mb : TEd) : TEd := fun ρ P => ma ρ fun d1 => mb ρ fun d2 => rd d1 d2 P
theorem bin_run {r : R2} {Hs0 H0 : Hp} {dp : Option (Addr × Addr)} {H Hs : Hp} {σ : Sg} {ρ : Env} {P : D → Prop} {Q : VK} {rd : RD2} (rl : Rl X.K dp H0 Hs0 σ H Hs ρ) (hm : binD rd ma mb ρ P)
    (h : ∀ (H2 Hs2 : Hp) (d1 d2 : D) (v1 v2 : V), Stp dp H Hs H2 Hs2 → RepB X.K dp H2 Hs2 d1 v1 → RepB X.K dp H2 Hs2 d2 v2 → rd d1 d2 P → r v1 v2 H2 Q) : tOp r (tB X.K ma) (tB X.K mb) σ H Q := by
  refine ⟨dp, H0, Hs0, Hs, ρ, _, rl, hm, fun d1 hd1 v1 H1 Hs1 s1 q1 => ?_⟩
  refine ⟨dp, H0, Hs0, Hs1, ρ, _, rl.step s1, hd1, fun d2 hd2 v2 H2 Hs2 s2 q2 => ?_⟩
  exact h H2 Hs2 d1 d2 v1 v2 (s1.trans s2) (RepB.step s1.bs s2 _ _ q1) q2 hd2
theorem d_op {op : Operator} {rd : RD2} (ho : OpD X (binaryOp op) rd) (ha : PEb X a ma) (hb : PEb X b mb) : PEd X (.BinOp a op b pos) (binD rd ma mb) := by
  obtain ⟨r, hr, hd⟩ := ho
  refine PE.mono (pe_op hr ha hb) fun σ H Q ⟨dp, H0, Hs0, Hs, ρ, P, rl, hm, k⟩ => bin_run rl hm fun H2 Hs2 d1 d2 v1 v2 s q1 q2 h => ?_
  exact hd dp H2 Hs2 d1 d2 v1 v2 P Q s.bs q1 q2 h fun d hd v H3 Hs3 s3 q => k d hd v H3 Hs3 (s.trans s3) q
theorem d_opF {op : Operator} {rd : RD2} (ho : OpF X (binaryOp op) rd) (ha : PEb X a ma) (hb : PEb X b mb) : PEf X (.BinOp a op b pos) (binD rd ma mb) := by
  obtain ⟨r, hr, hd⟩ := ho
  refine PE.mono (pe_op hr ha hb) fun σ H Q ⟨dp, H0, Hs0, Hs, ρ, P, rl, hm, k⟩ => bin_run rl hm fun H2 Hs2 d1 d2 v1 v2 s q1 q2 h => ?_
  refine hd dp H2 Hs2 d1 d2 v1 v2 P Q s.bs q1 q2 h fun d hd a H3 Hs3 s3 q hs hn hdk => k d hd a H3 Hs3 (s.trans s3) q hs ?_ hdk
  cases e : H a with
  | none => rfl
  | some o =>
    have := top_step s rl.bs e hdk
    rw [hn] at this; cases this
theorem d_cmp {op : CmpOp} {rd : RD2} (ho : OpD X (compareOp op) rd) (ha : PEb X a ma) (hb : PEb X b mb) (hm : behindInMarks op b = false := by rfl) : PEd X (.Compare a [op] [b] pos) (binD rd ma mb) := by
  obtain ⟨r, hr, hd⟩ := ho
  refine PE.mono (pe_cmpR hr ha hb hm) fun σ H Q ⟨dp, H0, Hs0, Hs, ρ, P, rl, hm, k⟩ => bin_run rl hm fun H2 Hs2 d1 d2 v1 v2 s q1 q2 h => ?_
  exact hd dp H2 Hs2 d1 d2 v1 v2 P Q s.bs q1 q2 h fun d hd v H3 Hs3 s3 q => k d hd v H3 Hs3 (s.trans s3) q
/-- a comparison as a test -/
def tstD (m : TEd) : TTd := fun ρ P => m ρ fun d => match d with
  | .bl c => P c
  | _ => False
theorem tst_run {t : TE} {K : PySem.W.Frag} {σ : Sg} {H : Hp} {Q : Bool → Hp → Prop} (f : ∀ Q, tD K m σ H Q → t σ H Q) (h : tT K (tstD m) σ H Q) : t σ H fun x H' => ∃ k, x = .bl k ∧ Q k H' := by
  obtain ⟨dp, H0, Hs0, Hs, ρ, P, rl, hm, k⟩ := h
  refine f _ ⟨dp, H0, Hs0, Hs, ρ, _, rl, hm, fun d hd v H' Hs' s q => ?_⟩
  cases d with
  | bl c =>
    unfold Rep at q
    exact ⟨c, q, k c hd H' Hs' s⟩
  | _ => exact hd.elim
theorem dt_cmp {op : CmpOp} {rd : RD2} (ho : OpD X (compareOp op) rd) (ha : PEb X a ma) (hb : PEb X b mb) (hm : behindInMarks op b = false := by rfl) : PTd X (.Compare a [op] [b] pos) (tstD (binD rd ma mb)) := by
  obtain ⟨r, hr, hd⟩ := ho
  refine PT.mono (pt_cmpR hr ha hb hm) fun σ H Q h => tst_run (t := tOp r (tB X.K ma) (tB X.K mb)) (fun Q ⟨dp, H0, Hs0, Hs, ρ, P, rl, hm, k⟩ => bin_run rl hm fun H2 Hs2 d1 d2 v1 v2 s q1 q2 h => ?_) h
  exact hd dp H2 Hs2 d1 d2 v1 v2 P Q s.bs q1 q2 h fun d hd v H3 Hs3 s3 q => k d hd v H3 Hs3 (s.trans s3) q
end

/-! ### the operations by data -/
def iopD (C : Int → Int → Prop) (g : Int → Int → D) : RD2 := fun x y P => match x, y with
  | .int i, .int j => C i j ∧ P (g i j)
  | _, _ => False
def addD : RD2 := fun x y P => match x, y with
  | .int i, .int j => P (.int (i + j))
  | .str i, .str j => i.length + j.length ≤ sizeLine ∧ P (.str (i ++ j))
  | .lst xs, .lst ys => xs.length + ys.length ≤ sizeLine ∧ P (.lst (xs ++ ys))
  | .tup xs, .tup ys => xs ≠ [] ∧ xs.length + ys.length ≤ sizeLine ∧ P (.tup (xs ++ ys))
  | _, _ => False
def mulD : RD2 := fun x y P => match x, y with
  | .int i, .int j => CMulW i j ∧ P (.int (i * j))
  | .lst xs, .int k => -(2 ^ 63) ≤ k ∧ k < 2 ^ 63 ∧ xs.length * k.toNat ≤ sizeLine ∧ P (.lst (List.replicate k.toNat xs).flatten)
  | _, _ => False
def subD : RD2 := iopD (fun _ _ => True) fun i j => .int (i - j)
def fdivD : RD2 := iopD CDivW fun i j => .int (i / j)
def modD : RD2 := iopD (fun _ j => 0 < j) fun i j => .int (i % j)
def powD : RD2 := iopD CPow fun i j => .int (i ^ j.toNat)
def ltD : RD2 := iopD (fun _ _ => True) fun i j => .bl (decide (i < j))
def leD : RD2 := iopD (fun _ _ => True) fun i j => .bl (decide (i ≤ j))
def gtD : RD2 := iopD (fun _ _ => True) fun i j => .bl (decide (j < i))
def geD : RD2 := iopD (fun _ _ => True) fun i j => .bl (decide (j ≤ i))
section
variable {X : Cx}
theorem opd_int {f : Value → Value → Sem Value} {C : Int → Int → Prop} {g : Int → Int → V} {gd : Int → Int → D} {Cd : Int → Int → Prop} (h : OpR X f (rI C g)) (hg : ∀ i j dp Hs, Rep X.K dp Hs (gd i j) (g i j)) (hC : ∀ i j, Cd i j → C i j) : OpD X f (iopD Cd gd) := by
  refine ⟨_, h, fun dp H Hs d1 d2 v1 v2 P Q bs q1 q2 hd k => ?_⟩
  unfold iopD at hd
  split at hd
  · rename_i i j
    exact ⟨i, j, q1.int, q2.int, hC _ _ hd.1, k _ hd.2 _ H Hs (.refl bs) (hg _ _ _ _)⟩
  · exact hd.elim
theorem opd_int0 {f : Value → Value → Sem Value} {g : Int → Int → V} {gd : Int → Int → D} (h : OpR X f (rI0 g)) (hg : ∀ i j dp Hs, Rep X.K dp Hs (gd i j) (g i j)) : OpD X f (iopD (fun _ _ => True) gd) := by
  refine ⟨_, h, fun dp H Hs d1 d2 v1 v2 P Q bs q1 q2 hd k => ?_⟩
  unfold iopD at hd
  split at hd
  · rename_i i j
    exact ⟨i, j, q1.int, q2.int, k _ hd.2 _ H Hs (.refl bs) (hg _ _ _ _)⟩
  · exact hd.elim
theorem o_sub : OpD X (binaryOp .Sub) subD := opd_int0 op_sub fun _ _ _ _ => rep_int
theorem o_fdiv : OpD X (binaryOp .FloorDiv) fdivD := opd_int op_fdivW (fun _ _ _ _ => rep_int) fun _ _ h => h
theorem o_mod : OpD X (binaryOp .Mod) modD := opd_int op_mod (fun _ _ _ _ => rep_int) fun _ _ h => h
theorem o_pow : OpD X (binaryOp .Pow) powD := opd_int op_pow (fun _ _ _ _ => rep_int) fun _ _ h => h
theorem o_lt : OpD X (compareOp .Lt) ltD := opd_int0 op_lt fun _ _ _ _ => rep_bl
theorem o_le : OpD X (compareOp .LtE) leD := opd_int0 op_le fun _ _ _ _ => rep_bl
theorem o_gt : OpD X (compareOp .Gt) gtD := opd_int0 op_gt fun _ _ _ _ => rep_bl
theorem o_ge : OpD X (compareOp .GtE) geD := opd_int0 op_ge fun _ _ _ _ => rep_bl
/-- a new list or tuple at p -/
theorem free_ndk {dp : Option (Addr × Addr)} {H Hs : Hp} (bs : Bs dp H Hs) {p : Addr} (hp : H p = none) : ¬ isDk dp p := by
  rintro ⟨q, e, h⟩
  obtain ⟨_, gs, c, s, g1, g2, _⟩ := bs.dk q e
  rcases h with h | h <;> subst h
  · rw [g1] at hp; cases hp
  · rw [g2] at hp; cases hp
theorem newL {K : PySem.W.Frag} {dp : Option (Addr × Addr)} {H Hs : Hp} (bs : Bs dp H Hs) {p : Addr} (hp : H p = none) {ds : List D} {vs : List V} (hr : Reps K dp Hs ds vs) {Q : VK}
    (k : ∀ a H' Hs', Stp dp H Hs H' Hs' → OwnRep K dp H' Hs' a (.lst ds) → Hs' a = none → H a = none → ¬ isDk dp a → Q (.ref a) H') : Q (.ref p) (upd H p (.lst vs)) :=
  k p _ Hs (.laidO bs hp) ⟨vs, upd_same, hr⟩ (bs.sub.free hp) hp (free_ndk bs hp)
theorem newLs {K : PySem.W.Frag} {dp : Option (Addr × Addr)} {H Hs : Hp} (bs : Bs dp H Hs) {p : Addr} (hp : H p = none) {ds : List D} {vs : List V} (hr : Reps K dp Hs ds vs) {Q : VK}
    (k : ∀ v H' Hs', Stp dp H Hs H' Hs' → Rep K dp Hs' (.lst ds) v → Q v H') : Q (.ref p) (upd H p (.lst vs)) :=
  k _ _ _ (.laid bs hp) (by unfold Rep; exact ⟨p, vs, rfl, upd_same, Reps.mono (same_share (bs.sub.free hp)) _ _ hr⟩)
theorem newTs {K : PySem.W.Frag} {dp : Option (Addr × Addr)} {H Hs : Hp} (bs : Bs dp H Hs) {p : Addr} (hp : H p = none) {ds : List D} {vs : List V} (hr : Reps K dp Hs ds vs) {Q : VK}
    (k : ∀ v H' Hs', Stp dp H Hs H' Hs' → Rep K dp Hs' (.tup ds) v → Q v H') : Q (.ref p) (upd H p (.tup vs)) :=
  k _ _ _ (.laid bs hp) (by unfold Rep; exact ⟨p, vs, rfl, .of upd_same, Reps.mono (same_share (bs.sub.free hp)) _ _ hr⟩)
theorem RepB.lst {K : PySem.W.Frag} {dp : Option (Addr × Addr)} {H Hs : Hp} {ds : List D} {v : V} (h : RepB K dp H Hs (.lst ds) v) : ∃ a vs, v = .ref a ∧ H a = some (.lst vs) ∧ Reps K dp Hs ds vs := by
  obtain ⟨a, vs, e, h1, _, h2⟩ := h
  exact ⟨a, vs, e, h1, h2⟩
theorem RepB.tp {K : PySem.W.Frag} {dp : Option (Addr × Addr)} {H Hs : Hp} (bs : Bs dp H Hs) {ds : List D} {v : V} (h : RepB K dp H Hs (.tup ds) v) : ∃ a vs, v = .ref a ∧ SqT K H a vs ∧ Reps K dp Hs ds vs := by
  have h' : Rep K dp Hs (.tup ds) v := h
  unfold Rep at h'
  obtain ⟨a, vs, h1, h2, h3⟩ := h'
  exact ⟨a, vs, h1, Same.seqT bs.sub h2, h3⟩
theorem RepB.scr {K : PySem.W.Frag} {dp : Option (Addr × Addr)} {H Hs : Hp} (bs : Bs dp H Hs) {xs : List Int} {v : V} (h : RepB K dp H Hs (.scr xs) v) : ∃ a, v = .ref a ∧ SqL K H a (xs.map .int) := by
  have h' : Rep K dp Hs (.scr xs) v := h
  unfold Rep at h'
  obtain ⟨a, h1, h2⟩ := h'
  exact ⟨a, h1, bs.sub.seq h2⟩

def catD : RD2 := fun x y P => match x, y with
  | .lst xs, .lst ys => xs.length + ys.length ≤ sizeLine ∧ P (.lst (xs ++ ys))
  | _, _ => False
def repD : RD2 := fun x y P => match x, y with
  | .lst xs, .int k => -(2 ^ 63) ≤ k ∧ k < 2 ^ 63 ∧ xs.length * k.toNat ≤ sizeLine ∧ P (.lst (List.replicate k.toNat xs).flatten)
  | _, _ => False
theorem f_cat : OpF X (binaryOp .Add) catD := by
  refine ⟨_, op_cat, fun dp H Hs d1 d2 v1 v2 P Q bs q1 q2 hd k => ?_⟩
  unfold catD at hd
  split at hd
  · obtain ⟨a, vs, rfl, h1, hr⟩ := q1.lst
    obtain ⟨b, ws, rfl, h2, hr'⟩ := q2.lst
    exact ⟨a, b, vs, ws, rfl, rfl, h1, h2, by rw [← hr.length, ← hr'.length]; exact hd.1, fun p hp => newL bs hp (hr.append hr') (k _ hd.2)⟩
  · exact hd.elim
theorem f_rep : OpF X (binaryOp .Mult) repD := by
  refine ⟨_, op_rep, fun dp H Hs d1 d2 v1 v2 P Q bs q1 q2 hd k => ?_⟩
  unfold repD at hd
  split at hd
  · obtain ⟨a, vs, rfl, h1, hr⟩ := q1.lst
    exact ⟨a, _, vs, rfl, q2.int, h1, hd.1, hd.2.1, by rw [← hr.length]; exact hd.2.2.1, fun p hp => newL bs hp (hr.rep _) (k _ hd.2.2.2)⟩
  · exact hd.elim
theorem o_mul : OpD X (binaryOp .Mult) mulD := by
  refine ⟨_, op_mulW.or op_rep, fun dp H Hs d1 d2 v1 v2 P Q bs q1 q2 hd k => ?_⟩
  unfold mulD at hd
  split at hd
  · exact .inl ⟨_, _, q1.int, q2.int, hd.1, k _ hd.2 _ H Hs (.refl bs) rep_int⟩
  · obtain ⟨a, vs, rfl, h1, hr⟩ := q1.lst
    exact .inr ⟨a, _, vs, rfl, q2.int, h1, hd.1, hd.2.1, by rw [← hr.length]; exact hd.2.2.1, fun p hp => newLs bs hp (hr.rep _) (k _ hd.2.2.2)⟩
  · exact hd.elim
theorem o_add : OpD X (binaryOp .Add) addD := by
  refine ⟨_, op_add.or (op_add_str.or (op_cat.or op_catT)), fun dp H Hs d1 d2 v1 v2 P Q bs q1 q2 hd k => ?_⟩
  unfold addD at hd
  split at hd
  · exact .inl ⟨_, _, q1.int, q2.int, k _ hd _ H Hs (.refl bs) rep_int⟩
  · exact .inr (.inl ⟨_, _, q1.str, q2.str, hd.1, k _ hd.2 _ H Hs (.refl bs) rep_str⟩)
  · obtain ⟨a, vs, rfl, h1, hr⟩ := q1.lst
    obtain ⟨b, ws, rfl, h2, hr'⟩ := q2.lst
    exact .inr (.inr (.inl ⟨a, b, vs, ws, rfl, rfl, h1, h2, by rw [← hr.length, ← hr'.length]; exact hd.1, fun p hp => newLs bs hp (hr.append hr') (k _ hd.2)⟩))
  · rename_i xs ys
    obtain ⟨a, vs, e1, h1, hr⟩ := RepB.tp bs q1
    obtain ⟨b, ws, e2, h2, hr'⟩ := RepB.tp bs q2
    subst e1; subst e2
    have hvs : vs ≠ [] := fun z => by subst z; exact hd.1 (List.length_eq_zero_iff.mp hr.length)
    refine .inr (.inr (.inr ⟨a, b, vs, ws, rfl, rfl, h1, h2, hvs, by rw [← hr.length, ← hr'.length]; exact hd.2.1, fun hz => ?_, fun _ p hp => newTs bs hp (hr.append hr') (k _ hd.2.2)⟩))
    subst hz
    have : ys = [] := List.length_eq_zero_iff.mp hr'.length
    subst this
    have q := hd.2.2
    rw [List.append_nil] at q
    exact k _ q _ H Hs (.refl bs) q1
  · exact hd.elim

/-! ### == at any depth -/
mutual
def dat : D → PyData
  | .non => .none
  | .bl b => .bool b
  | .int i => .int i
  | .str x => .str x
  | .lst ds => .list (dats ds)
  | .tup ds => .tuple (dats ds)
  | .ins _ _ _ => .dict []
  | .deck => .dict []
  | .scr xs => .list (xs.map .int)
def dats : List D → List PyData
  | [] => []
  | d :: ds => dat d :: dats ds
end
def eqvD (a b : D) : Bool := PyData.eqv (dat a) (dat b)
/-- no instance within, at most n deep -/
def Pl (n : Nat) (d : D) : Prop := (dat d).canLay0 = true ∧ (dat d).depth ≤ n
end
mutual
theorem Rep.dp {K : PySem.W.Frag} {dp : Option (Addr × Addr)} {H Hs : Hp} (sm : Same Hs H) : ∀ (d : D) (v : V), Rep K dp Hs d v → (dat d).canLay0 = true → Dp K H v (dat d)
  | .non, v, h, _ => by unfold Rep at h; subst h; unfold dat; exact .non
  | .bl b, v, h, _ => by unfold Rep at h; subst h; unfold dat; exact .bl b
  | .int i, v, h, _ => by unfold Rep at h; subst h; unfold dat; exact .int i
  | .str x, v, h, _ => by unfold Rep at h; subst h; unfold dat; exact .str x
  | .lst ds, v, h, c => by
    unfold Rep at h
    obtain ⟨a, vs, rfl, h1, h2⟩ := h
    unfold dat at c ⊢
    exact .lst (.of (sm _ _ h1)) (Reps.dp sm ds vs h2 (by simpa [PyData.canLay0] using c))
  | .tup ds, v, h, c => by
    unfold Rep at h
    obtain ⟨a, vs, rfl, h1, h2⟩ := h
    unfold dat at c ⊢
    exact .tup (Same.seqT sm h1) (Reps.dp sm ds vs h2 (by simpa [PyData.canLay0] using c))
  | .ins C ns ds, v, h, c => by unfold dat at c; cases c
  | .deck, v, h, c => by unfold dat at c; cases c
  | .scr xs, v, h, _ => by
    unfold Rep at h
    obtain ⟨a, rfl, h1⟩ := h
    unfold dat
    refine .lst (sm.seq h1) ?_
    clear h1
    rename_i cc
    clear cc
    induction xs with
    | nil => exact .nil
    | cons x xs ih => exact .cons (.int x) ih
theorem Reps.dp {K : PySem.W.Frag} {dp : Option (Addr × Addr)} {H Hs : Hp} (sm : Same Hs H) : ∀ (ds : List D) (vs : List V), Reps K dp Hs ds vs → PyData.canLayAll0 (dats ds) = true → DpAll K H vs (dats ds)
  | [], vs, h, _ => by rw [h.unnil]; unfold dats; exact .nil
  | d :: ds, vs, h, c => by
    obtain ⟨v, r, rfl, h1, h2⟩ := h.uncons
    unfold dats at c ⊢
    have c' : (dat d).canLay0 = true ∧ PyData.canLayAll0 (dats ds) = true := by simpa [PyData.canLayAll0] using c
    exact .cons (Rep.dp sm d v h1 c'.1) (Reps.dp sm ds r h2 c'.2)
end
theorem RepB.dp {K : PySem.W.Frag} {dp : Option (Addr × Addr)} {H Hs : Hp} (bs : Bs dp H Hs) : ∀ (d : D) (v : V), RepB K dp H Hs d v → (dat d).canLay0 = true → Dp K H v (dat d)
  | .lst ds, v, h, c => by
    obtain ⟨a, vs, rfl, h1, _, h2⟩ := h
    unfold dat at c ⊢
    exact .lst (.of h1) (Reps.dp bs.sub ds vs h2 (by simpa [PyData.canLay0] using c))
  | .ins C ns ds, v, h, c => by unfold dat at c; cases c
  | .non, v, h, c => Rep.dp (dp := dp) bs.sub _ v h c
  | .bl _, v, h, c => Rep.dp (dp := dp) bs.sub _ v h c
  | .int _, v, h, c => Rep.dp (dp := dp) bs.sub _ v h c
  | .str _, v, h, c => Rep.dp (dp := dp) bs.sub _ v h c
  | .tup _, v, h, c => Rep.dp (dp := dp) bs.sub _ v h c
  | .deck, v, h, c => Rep.dp (dp := dp) bs.sub _ v h c
  | .scr _, v, h, c => Rep.dp (dp := dp) bs.sub _ v h c
section
variable {X : Cx}
def eqD : RD2 := fun x y P => Pl 64 x ∧ Pl 64 y ∧ P (.bl (eqvD x y))
def neD : RD2 := fun x y P => Pl 64 x ∧ Pl 64 y ∧ P (.bl (!eqvD x y))
theorem shaped_pl {d : D} (h : Pl 64 d) : SeqAt.shaped (dat d) = true := by
  unfold SeqAt.shaped
  rw [h.1, decide_eq_true h.2]; rfl
theorem o_eq (hu : X.A.units + 64 < cLine) : OpD X (compareOp .Eq) eqD :=
  ⟨_, op_eqD hu, fun dp H Hs d1 d2 v1 v2 P Q bs q1 q2 ⟨p1, p2, hd⟩ k => ⟨dat d1, dat d2, RepB.dp bs _ _ q1 p1.1, RepB.dp bs _ _ q2 p2.1, shaped_pl p1, shaped_pl p2, k _ hd _ H Hs (.refl bs) rep_bl⟩⟩
theorem o_ne (hu : X.A.units + 64 < cLine) : OpD X (compareOp .NotEq) neD :=
  ⟨_, op_neD hu, fun dp H Hs d1 d2 v1 v2 P Q bs q1 q2 ⟨p1, p2, hd⟩ k => ⟨dat d1, dat d2, RepB.dp bs _ _ q1 p1.1, RepB.dp bs _ _ q2 p2.1, shaped_pl p1, shaped_pl p2, k _ hd _ H Hs (.refl bs) rep_bl⟩⟩
/-- is None, is not None -/
def isND : RD2 := fun x y P => match x, y with
  | .non, .non => P (.bl true)
  | .int _, .non => P (.bl false)
  | .bl _, .non => P (.bl false)
  | .str _, .non => P (.bl false)
  | .lst _, .non => P (.bl false)
  | .tup _, .non => P (.bl false)
  | .ins _ _ _, .non => P (.bl false)
  | _, _ => False
def notND : RD2 := fun x y P => isND x y fun d => match d with
  | .bl c => P (.bl (!c))
  | _ => False
theorem isN_v {K : PySem.W.Frag} {dp : Option (Addr × Addr)} {H Hs : Hp} {d1 d2 : D} {v1 v2 : V} {P : D → Prop} (bs : Bs dp H Hs) (q1 : RepB K dp H Hs d1 v1) (q2 : RepB K dp H Hs d2 v2) (hd : isND d1 d2 P) : v2 = .non ∧ P (.bl (decide (v1 = .non))) := by
  unfold isND at hd
  split at hd
  · exact ⟨q2.non, by rw [q1.non]; exact hd⟩
  · exact ⟨q2.non, by rw [q1.int]; exact hd⟩
  · exact ⟨q2.non, by rw [q1.bl]; exact hd⟩
  · exact ⟨q2.non, by rw [q1.str]; exact hd⟩
  · obtain ⟨a, vs, rfl, _⟩ := q1.lst; exact ⟨q2.non, hd⟩
  · obtain ⟨a, vs, e, _⟩ := RepB.tp bs q1; subst e; exact ⟨q2.non, hd⟩
  · obtain ⟨a, dx, gs, rfl, _⟩ := q1; exact ⟨q2.non, hd⟩
  · exact hd.elim
theorem o_isN : OpD X (compareOp .Is) isND := ⟨_, op_isN, fun dp H Hs d1 d2 v1 v2 P Q bs q1 q2 hd k => by
  obtain ⟨h1, h2⟩ := isN_v bs q1 q2 hd
  exact ⟨h1, k _ h2 _ H Hs (.refl bs) rep_bl⟩⟩
theorem o_notN : OpD X (compareOp .IsNot) notND := ⟨_, op_notN, fun dp H Hs d1 d2 v1 v2 P Q bs q1 q2 hd k => by
  obtain ⟨h1, h2⟩ := isN_v bs q1 q2 hd
  exact ⟨h1, k _ h2 _ H Hs (.refl bs) rep_bl⟩⟩
end
end DL

set_option Elab.async false
set_option linter.all false
set_option autoImplicit false
set_option maxRecDepth 100000
set_option maxHeartbeats 4000000
namespace DL
open PySem PySem.Spec PyProof.Rows L2

/-! ### arguments -/
def nilA : TAd := fun _ P => P []
def consA (m : TEd) (ms : TAd) : TAd := fun ρ P => m ρ fun d => ms ρ fun ds => P (d :: ds)
section
variable {X : Cx} {e : Expr} {es : List Expr} {m : TEd} {ms : TAd}
theorem da_nil : PAd X [] nilA := PA.mono pa_nil fun σ H Q ⟨dp, H0, Hs0, Hs, ρ, P, rl, hm, k⟩ => k [] hm [] H Hs (.refl rl.bs) .nil
theorem db_nil : PAb X [] nilA := PA.mono pa_nil fun σ H Q ⟨dp, H0, Hs0, Hs, ρ, P, rl, hm, k⟩ => k [] hm [] H Hs (.refl rl.bs) rfl
theorem da_cons (h : PEd X e m) (t : PAd X es ms) (hs : starEach (e :: es) X.env = (false, eval e X.env) :: starEach es X.env := by rfl) : PAd X (e :: es) (consA m ms) := by
  refine PA.mono (pa_cons h t hs) fun σ H Q ⟨dp, H0, Hs0, Hs, ρ, P, rl, hm, k⟩ => ?_
  refine ⟨dp, H0, Hs0, Hs, ρ, _, rl, hm, fun d hd v H1 Hs1 s1 q1 => ?_⟩
  exact ⟨dp, H0, Hs0, Hs1, ρ, _, rl.step s1, hd, fun ds hds vs H2 Hs2 s2 q2 => k _ hds _ H2 Hs2 (s1.trans s2) (.cons (Rep.mono s2.ext _ _ q1) q2)⟩
theorem db_cons (h : PEb X e m) (t : PAb X es ms) (hs : starEach (e :: es) X.env = (false, eval e X.env) :: starEach es X.env := by rfl) : PAb X (e :: es) (consA m ms) := by
  refine PA.mono (pa_cons h t hs) fun σ H Q ⟨dp, H0, Hs0, Hs, ρ, P, rl, hm, k⟩ => ?_
  refine ⟨dp, H0, Hs0, Hs, ρ, _, rl, hm, fun d hd v H1 Hs1 s1 q1 => ?_⟩
  exact ⟨dp, H0, Hs0, Hs1, ρ, _, rl.step s1, hd, fun ds hds vs H2 Hs2 s2 q2 => k _ hds _ H2 Hs2 (s1.trans s2) ⟨v, vs, rfl, RepB.step s1.bs s2 _ _ q1, q2⟩⟩
end
/-! ### displays -/
def lstD (ms : TAd) : TEd := fun ρ P => ms ρ fun ds => ds.length ≤ sizeLine ∧ P (.lst ds)
def tupD (ms : TAd) : TEd := fun ρ P => ms ρ fun ds => ds.length ≤ sizeLine ∧ P (.tup ds)
section
variable {X : Cx} {e a b c : Expr} {es : List Expr} {m ma mb mc : TEd} {ms : TAd} {pos : Pos}
theorem back_none {dp : Option (Addr × Addr)} {H Hs H' Hs' : Hp} (b : Bs dp H Hs) (s : Stp dp H Hs H' Hs') {a : Addr} (hn : H' a = none) (hdk : ¬ isDk dp a) : H a = none := by
  cases e : H a with
  | none => rfl
  | some o =>
    have := top_step s b e hdk
    rw [hn] at this; cases this
theorem f_lst (h : PAd X es ms) : PEf X (.List es pos) (lstD ms) := by
  refine PE.mono (pe_lst h) fun σ H Q ⟨dp, H0, Hs0, Hs, ρ, P, rl, hm, k⟩ => ?_
  refine ⟨dp, H0, Hs0, Hs, ρ, _, rl, hm, fun ds hd vs H1 Hs1 s1 q1 => ⟨by rw [← q1.length]; exact hd.1, fun p hp => newL s1.bs hp q1 fun a H2 Hs2 s2 q2 hs hn hdk => k _ hd.2 a H2 Hs2 (s1.trans s2) q2 hs (back_none rl.bs s1 hn hdk) hdk⟩⟩
theorem d_tup {x1 : Nat} (h : PAd X es ms) : PEd X (.Tuple es x1 pos) (tupD ms) := by
  refine PE.mono (pe_tup h) fun σ H Q ⟨dp, H0, Hs0, Hs, ρ, P, rl, hm, k⟩ => ?_
  refine ⟨dp, H0, Hs0, Hs, ρ, _, rl, hm, fun ds hd vs H1 Hs1 s1 q1 => ⟨by rw [← q1.length]; exact hd.1, fun p hp => newTs s1.bs hp q1 fun v H2 Hs2 s2 q2 => k _ hd.2 v H2 Hs2 (s1.trans s2) q2⟩⟩

/-! ### calls of built-in functions -/
def CallD (X : Cx) (f : Value) (rd : List D → (D → Prop) → Prop) : Prop := ∃ r : List V → Hp → VK → Prop, CallR X f r ∧
  ∀ (dp : Option (Addr × Addr)) (H Hs : Hp) (ds : List D) (vs : List V) (P : D → Prop) (Q : VK), Bs dp H Hs → RepsB X.K dp H Hs ds vs → rd ds P →
    (∀ d, P d → ∀ v H' Hs', Stp dp H Hs H' Hs' → Rep X.K dp Hs' d v → Q v H') → r vs H Q
def CallF (X : Cx) (f : Value) (rd : List D → (D → Prop) → Prop) : Prop := ∃ r : List V → Hp → VK → Prop, CallR X f r ∧
  ∀ (dp : Option (Addr × Addr)) (H Hs : Hp) (ds : List D) (vs : List V) (P : D → Prop) (Q : VK), Bs dp H Hs → RepsB X.K dp H Hs ds vs → rd ds P →
    (∀ d, P d → ∀ a H' Hs', Stp dp H Hs H' Hs' → OwnRep X.K dp H' Hs' a d → Hs' a = none → H a = none → ¬ isDk dp a → Q (.ref a) H') → r vs H Q
def callB (rd : List D → (D → Prop) → Prop) (ms : TAd) : TEd := fun ρ P => ms ρ fun ds => rd ds P
variable {x : Str} {id T : String} {p : Pos} {rd : List D → (D → Prop) → Prop}
theorem cb_mono {K : PySem.W.Frag} {r : List V → Hp → VK → Prop} {σ : Sg} {H : Hp} {Q : VK}
    (hd : ∀ (dp : Option (Addr × Addr)) (H Hs : Hp) (ds : List D) (vs : List V) (P : D → Prop) (Q : VK), Bs dp H Hs → RepsB K dp H Hs ds vs → rd ds P →
    (∀ d, P d → ∀ v H' Hs', Stp dp H Hs H' Hs' → Rep K dp Hs' d v → Q v H') → r vs H Q) (h : tD K (callB rd ms) σ H Q) : tCB r (tAB K ms) σ H Q := by
  obtain ⟨dp, H0, Hs0, Hs, ρ, P, rl, hm, k⟩ := h
  exact ⟨dp, H0, Hs0, Hs, ρ, _, rl, hm, fun ds hds vs H1 Hs1 s1 q1 => hd dp H1 Hs1 ds vs P Q s1.bs q1 hds fun d h2 v H2 Hs2 s2 q2 => k d h2 v H2 Hs2 (s1.trans s2) q2⟩
theorem cf_mono {K : PySem.W.Frag} {r : List V → Hp → VK → Prop} {σ : Sg} {H : Hp} {Q : VK}
    (hd : ∀ (dp : Option (Addr × Addr)) (H Hs : Hp) (ds : List D) (vs : List V) (P : D → Prop) (Q : VK), Bs dp H Hs → RepsB K dp H Hs ds vs → rd ds P →
    (∀ d, P d → ∀ a H' Hs', Stp dp H Hs H' Hs' → OwnRep K dp H' Hs' a d → Hs' a = none → H a = none → ¬ isDk dp a → Q (.ref a) H') → r vs H Q) (h : tF K (callB rd ms) σ H Q) : tCB r (tAB K ms) σ H Q := by
  obtain ⟨dp, H0, Hs0, Hs, ρ, P, rl, hm, k⟩ := h
  exact ⟨dp, H0, Hs0, Hs, ρ, _, rl, hm, fun ds hds vs H1 Hs1 s1 q1 => hd dp H1 Hs1 ds vs P Q s1.bs q1 hds fun d h2 a H2 Hs2 s2 q2 hs hn hdk => k d h2 a H2 Hs2 (s1.trans s2) q2 hs (back_none rl.bs s1 hn hdk) hdk⟩
theorem d_callB (hc : CallD X (.builtin id) rd) (hg : Gl X x) (hm : X.mg x = none) (hv : bootBuiltins x = some (.builtin id)) (ha : PAb X (e :: es) ms) (hn : x ≠ "__name__" := by decide) (hdb : (x == ("__debug__" : Str)) = false := by decide)
    (he : starEach (e :: es) X.env = (false, eval e X.env) :: starEach es X.env := by rfl) (hpl : (backTo pos (starEach es X.env)).any (·.1) = false := by rfl) : PEd X (.Call (.Name x p) (e :: es) [] pos) (callB rd ms) := by
  obtain ⟨r, hr, hd⟩ := hc
  exact PE.mono (pe_callB hr hg hm hv ha hn hdb he hpl) fun σ H Q h => cb_mono hd h
theorem d_callTy (hc : CallD X (.type T) rd) (hg : Gl X x) (hm : X.mg x = none) (hv : bootBuiltins x = some (.type T)) (ha : PAb X (e :: es) ms) (hn : x ≠ "__name__" := by decide) (hdb : (x == ("__debug__" : Str)) = false := by decide)
    (he : starEach (e :: es) X.env = (false, eval e X.env) :: starEach es X.env := by rfl) (hpl : (backTo pos (starEach es X.env)).any (·.1) = false := by rfl) : PEd X (.Call (.Name x p) (e :: es) [] pos) (callB rd ms) := by
  obtain ⟨r, hr, hd⟩ := hc
  exact PE.mono (pe_callTy hr hg hm hv ha hn hdb he hpl) fun σ H Q h => cb_mono hd h
theorem f_callTy (hc : CallF X (.type T) rd) (hg : Gl X x) (hm : X.mg x = none) (hv : bootBuiltins x = some (.type T)) (ha : PAb X (e :: es) ms) (hn : x ≠ "__name__" := by decide) (hdb : (x == ("__debug__" : Str)) = false := by decide)
    (he : starEach (e :: es) X.env = (false, eval e X.env) :: starEach es X.env := by rfl) (hpl : (backTo pos (starEach es X.env)).any (·.1) = false := by rfl) : PEf X (.Call (.Name x p) (e :: es) [] pos) (callB rd ms) := by
  obtain ⟨r, hr, hd⟩ := hc
  exact PE.mono (pe_callTy hr hg hm hv ha hn hdb he hpl) fun σ H Q h => cf_mono hd h
/-- the ints of a list -/
def toInts : List D → Option (List Int)
  | [] => some []
  | .int i :: r => (toInts r).map (i :: ·)
  | _ :: _ => none
theorem toInts_map : ∀ ns : List Int, toInts (ns.map D.int) = some ns
  | [] => rfl
  | n :: ns => by rw [List.map_cons, toInts, toInts_map ns]; rfl
theorem toInts_some : ∀ {ds : List D} {ns : List Int}, toInts ds = some ns → ds = ns.map D.int
  | [], ns, h => by cases h; rfl
  | .int i :: r, ns, h => by
    unfold toInts at h
    cases e : toInts r with
    | none => rw [e] at h; cases h
    | some z =>
      rw [e] at h
      have : i :: z = ns := by simpa using h
      subst this
      rw [toInts_some e]; rfl
  | .non :: _, _, h | .bl _ :: _, _, h | .str _ :: _, _, h | .lst _ :: _, _, h | .tup _ :: _, _, h | .ins _ _ _ :: _, _, h | .deck :: _, _, h | .scr _ :: _, _, h => by cases h
def toBls : List D → Option (List Bool)
  | [] => some []
  | .bl i :: r => (toBls r).map (i :: ·)
  | _ :: _ => none
theorem toBls_map : ∀ ns : List Bool, toBls (ns.map D.bl) = some ns
  | [] => rfl
  | n :: ns => by rw [List.map_cons, toBls, toBls_map ns]; rfl
theorem toBls_some : ∀ {ds : List D} {ns : List Bool}, toBls ds = some ns → ds = ns.map D.bl
  | [], ns, h => by cases h; rfl
  | .bl i :: r, ns, h => by
    unfold toBls at h
    cases e : toBls r with
    | none => rw [e] at h; cases h
    | some z =>
      rw [e] at h
      have : i :: z = ns := by simpa using h
      subst this
      rw [toBls_some e]; rfl
  | .non :: _, _, h | .int _ :: _, _, h | .str _ :: _, _, h | .lst _ :: _, _, h | .tup _ :: _, _, h | .ins _ _ _ :: _, _, h | .deck :: _, _, h | .scr _ :: _, _, h => by cases h
theorem Reps.bls {K : PySem.W.Frag} {dp : Option (Addr × Addr)} {H : Hp} : ∀ {ns : List Bool} {vs : List V}, Reps K dp H (ns.map D.bl) vs → vs = ns.map V.bl
  | [], vs, h => h.unnil
  | n :: ns, vs, h => by
    obtain ⟨v, r, rfl, h1, h2⟩ := h.uncons
    have h1' : v = .bl n := by unfold Rep at h1; exact h1
    rw [h1', Reps.bls h2, List.map_cons]
def lenD : List D → (D → Prop) → Prop
  | [.lst xs], P => P (.int xs.length)
  | [.tup xs], P => P (.int xs.length)
  | [.str x], P => x.length ≤ sizeLine ∧ P (.int x.length)
  | [.scr xs], P => P (.int xs.length)
  | _, _ => False
theorem rb1 {K : PySem.W.Frag} {dp : Option (Addr × Addr)} {H Hs : Hp} {d : D} {vs : List V} (h : RepsB K dp H Hs [d] vs) : ∃ v, vs = [v] ∧ RepB K dp H Hs d v := by
  obtain ⟨v, r, rfl, h1, h2⟩ := h
  have : r = [] := h2
  subst this
  exact ⟨v, rfl, h1⟩
theorem rb2 {K : PySem.W.Frag} {dp : Option (Addr × Addr)} {H Hs : Hp} {d d' : D} {vs : List V} (h : RepsB K dp H Hs [d, d'] vs) : ∃ v v', vs = [v, v'] ∧ RepB K dp H Hs d v ∧ RepB K dp H Hs d' v' := by
  obtain ⟨v, r, rfl, h1, h2⟩ := h
  obtain ⟨v', rfl, h3⟩ := rb1 h2
  exact ⟨v, v', rfl, h1, h3⟩
theorem b_len : CallD X (.builtin "len") lenD := ⟨_, call_len, fun dp H Hs ds vs P Q bs q hd k => by
  unfold lenD at hd
  split at hd
  · obtain ⟨v, rfl, q1⟩ := rb1 q
    obtain ⟨a, ws, rfl, h1, hr⟩ := q1.lst
    exact ⟨_, ws.length, rfl, .inl ⟨ws, .of h1, rfl⟩, k _ (by rw [← hr.length]; exact hd) _ H Hs (.refl bs) rep_int⟩
  · obtain ⟨v, rfl, q1⟩ := rb1 q
    obtain ⟨a, ws, rfl, h1, hr⟩ := RepB.tp bs q1
    exact ⟨_, ws.length, rfl, .inr ⟨ws, h1, rfl⟩, k _ (by rw [← hr.length]; exact hd) _ H Hs (.refl bs) rep_int⟩
  · obtain ⟨v, rfl, q1⟩ := rb1 q
    rw [q1.str]
    exact ⟨_, _, rfl, ⟨hd.1, rfl⟩, k _ hd.2 _ H Hs (.refl bs) rep_int⟩
  · obtain ⟨v, rfl, q1⟩ := rb1 q
    obtain ⟨a, rfl, h1⟩ := RepB.scr bs q1
    exact ⟨_, _, rfl, .inl ⟨_, h1, (List.length_map ..).symm⟩, k _ hd _ H Hs (.refl bs) rep_int⟩
  · exact hd.elim⟩
def sumD : List D → (D → Prop) → Prop
  | [.lst xs], P => ∃ ns, xs = List.map D.int ns ∧ P (.int ns.sum)
  | _, _ => False
theorem b_sum (hc : X.calm = true) : CallD X (.builtin "sum") sumD := ⟨_, cr_sum hc, fun dp H Hs ds vs P Q bs q hd k => by
  unfold sumD at hd
  split at hd
  · obtain ⟨v, rfl, q1⟩ := rb1 q
    obtain ⟨a, ws, rfl, h1, hr⟩ := q1.lst
    obtain ⟨ns, rfl, hp⟩ := hd
    rw [hr.ints] at h1
    exact ⟨a, ns, rfl, .of h1, k _ hp _ H Hs (.refl bs) rep_int⟩
  · exact hd.elim⟩
def allD : List D → (D → Prop) → Prop
  | [.lst xs], P => ∃ bs, xs = List.map D.bl bs ∧ P (.bl (bs.all _root_.id))
  | _, _ => False
def anyD : List D → (D → Prop) → Prop
  | [.lst xs], P => ∃ bs, xs = List.map D.bl bs ∧ P (.bl (bs.any _root_.id))
  | _, _ => False
theorem b_all (hc : X.calm = true) : CallD X (.builtin "all") allD := ⟨_, cr_all hc, fun dp H Hs ds vs P Q bs q hd k => by
  unfold allD at hd
  split at hd
  · obtain ⟨v, rfl, q1⟩ := rb1 q
    obtain ⟨a, ws, rfl, h1, hr⟩ := q1.lst
    obtain ⟨ns, rfl, hp⟩ := hd
    rw [hr.bls] at h1
    exact ⟨a, ns, rfl, .of h1, k _ hp _ H Hs (.refl bs) rep_bl⟩
  · exact hd.elim⟩
theorem b_any (hc : X.calm = true) : CallD X (.builtin "any") anyD := ⟨_, cr_any hc, fun dp H Hs ds vs P Q bs q hd k => by
  unfold anyD at hd
  split at hd
  · obtain ⟨v, rfl, q1⟩ := rb1 q
    obtain ⟨a, ws, rfl, h1, hr⟩ := q1.lst
    obtain ⟨ns, rfl, hp⟩ := hd
    rw [hr.bls] at h1
    exact ⟨a, ns, rfl, .of h1, k _ hp _ H Hs (.refl bs) rep_bl⟩
  · exact hd.elim⟩
def max2D : List D → (D → Prop) → Prop
  | [.int i, .int j], P => ∀ m, (m = i ∨ m = j) → i ≤ m → j ≤ m → P (.int m)
  | _, _ => False
def min2D : List D → (D → Prop) → Prop
  | [.int i, .int j], P => ∀ m, (m = i ∨ m = j) → m ≤ i → m ≤ j → P (.int m)
  | _, _ => False
theorem b_max2 (hc : X.calm = true) : CallD X (.builtin "max") max2D := ⟨_, call_max2 hc, fun dp H Hs ds vs P Q bs q hd k => by
  unfold max2D at hd
  split at hd
  · obtain ⟨v, v', rfl, q1, q2⟩ := rb2 q
    rw [q1.int, q2.int]
    exact ⟨_, _, rfl, k _ (hd _ (by split <;> simp) (by split <;> omega) (by split <;> omega)) _ H Hs (.refl bs) rep_int⟩
  · exact hd.elim⟩
theorem b_min2 (hc : X.calm = true) : CallD X (.builtin "min") min2D := ⟨_, call_min2 hc, fun dp H Hs ds vs P Q bs q hd k => by
  unfold min2D at hd
  split at hd
  · obtain ⟨v, v', rfl, q1, q2⟩ := rb2 q
    rw [q1.int, q2.int]
    exact ⟨_, _, rfl, k _ (hd _ (by split <;> simp) (by split <;> omega) (by split <;> omega)) _ H Hs (.refl bs) rep_int⟩
  · exact hd.elim⟩
def maxLD : List D → (D → Prop) → Prop
  | [.lst xs], P => ∃ ns : List Int, xs = List.map D.int ns ∧ 0 < ns.length ∧ ∀ m, m ∈ ns → (∀ y, y ∈ ns → y ≤ m) → P (.int m)
  | _, _ => False
def minLD : List D → (D → Prop) → Prop
  | [.lst xs], P => ∃ ns : List Int, xs = List.map D.int ns ∧ 0 < ns.length ∧ ∀ m, m ∈ ns → (∀ y, y ∈ ns → m ≤ y) → P (.int m)
  | _, _ => False
theorem b_maxL (hc : X.calm = true) : CallD X (.builtin "max") maxLD := ⟨_, cr_max hc, fun dp H Hs ds vs P Q bs q hd k => by
  unfold maxLD at hd
  split at hd
  · obtain ⟨v, rfl, q1⟩ := rb1 q
    obtain ⟨a, ws, rfl, h1, hr⟩ := q1.lst
    obtain ⟨ns, rfl, hl, hp⟩ := hd
    rw [hr.ints] at h1
    exact ⟨a, ns, rfl, .of h1, hl, fun m h1 h2 => k _ (hp m h1 h2) _ H Hs (.refl bs) rep_int⟩
  · exact hd.elim⟩
theorem b_minL (hc : X.calm = true) : CallD X (.builtin "min") minLD := ⟨_, cr_min hc, fun dp H Hs ds vs P Q bs q hd k => by
  unfold minLD at hd
  split at hd
  · obtain ⟨v, rfl, q1⟩ := rb1 q
    obtain ⟨a, ws, rfl, h1, hr⟩ := q1.lst
    obtain ⟨ns, rfl, hl, hp⟩ := hd
    rw [hr.ints] at h1
    exact ⟨a, ns, rfl, .of h1, hl, fun m h1 h2 => k _ (hp m h1 h2) _ H Hs (.refl bs) rep_int⟩
  · exact hd.elim⟩
def toIntD : List D → (D → Prop) → Prop
  | [.int i], P => P (.int i)
  | [.bl b], P => P (.int (if b then 1 else 0))
  | _, _ => False
theorem t_int : CallD X (.type "int") toIntD := ⟨_, call_int1, fun dp H Hs ds vs P Q bs q hd k => by
  unfold toIntD at hd
  split at hd
  · obtain ⟨v, rfl, q1⟩ := rb1 q
    rw [q1.int]
    exact .inl ⟨_, rfl, k _ hd _ H Hs (.refl bs) rep_int⟩
  · obtain ⟨v, rfl, q1⟩ := rb1 q
    rw [q1.bl]
    exact .inr ⟨_, rfl, k _ hd _ H Hs (.refl bs) rep_int⟩
  · exact hd.elim⟩
def toListD : List D → (D → Prop) → Prop
  | [.lst xs], P => P (.lst xs)
  | [.tup xs], P => P (.lst xs)
  | _, _ => False
theorem t_list : CallF X (.type "list") toListD := ⟨_, call_list_of, fun dp H Hs ds vs P Q bs q hd k => by
  unfold toListD at hd
  split at hd
  · obtain ⟨v, rfl, q1⟩ := rb1 q
    obtain ⟨a, ws, rfl, h1, hr⟩ := q1.lst
    exact ⟨a, ws, rfl, .inl (.of h1), fun l hl => newL bs hl hr (k _ hd)⟩
  · obtain ⟨v, rfl, q1⟩ := rb1 q
    obtain ⟨a, ws, rfl, h1, hr⟩ := RepB.tp bs q1
    exact ⟨a, ws, rfl, .inr h1, fun l hl => newL bs hl hr (k _ hd)⟩
  · exact hd.elim⟩
def toTupD : List D → (D → Prop) → Prop
  | [.lst xs], P => P (.tup xs)
  | [.tup xs], P => P (.tup xs)
  | _, _ => False
theorem t_tuple : CallD X (.type "tuple") toTupD := ⟨_, call_tuple_of, fun dp H Hs ds vs P Q bs q hd k => by
  unfold toTupD at hd
  split at hd
  · obtain ⟨v, rfl, q1⟩ := rb1 q
    obtain ⟨a, ws, rfl, h1, hr⟩ := q1.lst
    exact ⟨a, ws, rfl, .inl ⟨.of h1, fun l hl => newTs bs hl hr (k _ hd)⟩⟩
  · obtain ⟨v, rfl, q1⟩ := rb1 q
    obtain ⟨a, ws, rfl, h1, hr⟩ := RepB.tp bs q1
    exact ⟨a, ws, rfl, .inr ⟨h1, k _ hd _ H Hs (.refl bs) q1⟩⟩
  · exact hd.elim⟩

/-! ### subscripts -/
def ixD : RD2 := fun x y P => match x, y with
  | .lst xs, .int i => ∃ d, atI xs i = some d ∧ P d
  | .tup xs, .int i => ∃ d, atI xs i = some d ∧ P d
  | .str x, .int i => x.length ≤ sizeLine ∧ ∃ c, atI x.cps.toList i = some c ∧ P (.str ⟨#[c]⟩)
  | .scr xs, .int i => ∃ d, atI xs i = some d ∧ P (.int d)
  | _, _ => False
theorem Reps.atI {K : PySem.W.Frag} {dp : Option (Addr × Addr)} {H : Hp} {ds : List D} {vs : List V} {i : Int} {d : D} (h : Reps K dp H ds vs) (e : atI ds i = some d) : ∃ v, L2.atI vs i = some v ∧ Rep K dp H d v := by
  unfold L2.atI at e ⊢
  rw [h.length] at e
  cases q : ixN vs.length i with
  | none => rw [q] at e; cases e
  | some j =>
    rw [q] at e
    exact h.get e
theorem atI_mapInt {xs : List Int} {i d : Int} (e : atI xs i = some d) : atI (xs.map V.int) i = some (.int d) := by
  unfold L2.atI at e ⊢
  rw [List.length_map]
  cases q : ixN xs.length i with
  | none => rw [q] at e; cases e
  | some j =>
    rw [q] at e
    show (xs.map V.int)[j]? = _
    rw [List.getElem?_map, show xs[j]? = some d from e]; rfl
theorem d_ix (ha : PEb X a ma) (hb : PEb X b mb) (hs : PlainIx b := by exact fun _ _ => rfl) : PEd X (.Subscript a b pos) (binD ixD ma mb) := by
  refine PE.mono (pe_ix ix_seq ha hb hs) fun σ H Q ⟨dp, H0, Hs0, Hs, ρ, P, rl, hm, k⟩ => bin_run rl hm fun H2 Hs2 d1 d2 v1 v2 s q1 q2 h => ?_
  have bs := s.bs
  unfold ixD at h
  split at h
  · obtain ⟨d, e, hp⟩ := h
    obtain ⟨a, ws, rfl, h1, hr⟩ := q1.lst
    obtain ⟨v, ev, rv⟩ := hr.atI e
    rw [q2.int]
    exact .inl ⟨a, ws, _, v, rfl, rfl, .of h1, ev, k _ hp _ H2 Hs2 s rv⟩
  · obtain ⟨d, e, hp⟩ := h
    obtain ⟨a, ws, rfl, h1, hr⟩ := RepB.tp bs q1
    obtain ⟨v, ev, rv⟩ := hr.atI e
    rw [q2.int]
    exact .inr (.inl ⟨a, ws, _, v, rfl, rfl, h1, ev, k _ hp _ H2 Hs2 s rv⟩)
  · obtain ⟨hl, c, e, hp⟩ := h
    rw [q1.str, q2.int]
    exact .inr (.inr ⟨_, _, c, rfl, rfl, hl, e, k _ hp _ H2 Hs2 s rep_str⟩)
  · obtain ⟨d, e, hp⟩ := h
    obtain ⟨a, rfl, h1⟩ := RepB.scr bs q1
    rw [q2.int]
    exact .inl ⟨a, _, _, _, rfl, rfl, h1, atI_mapInt e, k _ hp _ H2 Hs2 s rep_int⟩
  · exact h.elim
end
/-! ### slices -/
def cutG {α : Type} (xs : List α) (lo hi : Option Int) : List α := (xs.drop (HT.sIx xs.length 0 lo)).take (HT.sIx xs.length xs.length hi - HT.sIx xs.length 0 lo)
abbrev TOd := Env → (Option Int → Prop) → Prop
def tOd (K : PySem.W.Frag) (m : TOd) : TO := fun σ H Q => ∃ dp H0 Hs0 Hs ρ P, Rl K dp H0 Hs0 σ H Hs ρ ∧ m ρ P ∧ ∀ b, P b → ∀ H' Hs', Stp dp H Hs H' Hs' → Q b H'
def POd (X : Cx) (e : Option Expr) (m : TOd) : Prop := PO X e (tOd X.K m)
def noO : TOd := fun _ P => P none
def someO (m : TEd) : TOd := fun ρ P => m ρ fun d => match d with
  | .int i => P (some i)
  | _ => False
theorem PO.mono {X : Cx} {e : Option Expr} {t t' : TO} (h : PO X e t) (f : ∀ σ H Q, t' σ H Q → t σ H Q) : PO X e t' := ⟨fun pins s σ H Q I hw => h.run pins s σ H Q I (f σ H Q hw)⟩
section
variable {X : Cx} {e : Expr} {m : TEd} {ml mh : TOd} {lo hi : Option Expr} {p2 pos : Pos}
theorem do_none : POd X none noO := PO.mono po_none fun σ H Q ⟨dp, H0, Hs0, Hs, ρ, P, rl, hm, k⟩ => k none hm H Hs (.refl rl.bs)
theorem do_some (h : PEb X e m) : POd X (some e) (someO m) := PO.mono (po_some h) fun σ H Q ⟨dp, H0, Hs0, Hs, ρ, P, rl, hm, k⟩ =>
  ⟨dp, H0, Hs0, Hs, ρ, _, rl, hm, fun d hd v H1 Hs1 s1 q1 => by
    cases d with
    | int i => exact ⟨i, q1.int, k _ hd H1 Hs1 s1⟩
    | _ => exact hd.elim⟩
/-- of a list: new; of a tuple (not the whole): new; of a text -/
def slL (x : D) (lo hi : Option Int) (P : D → Prop) : Prop := match x with
  | .lst xs => P (.lst (cutG xs lo hi))
  | .scr xs => P (.lst ((cutG xs lo hi).map .int))
  | _ => False
def slT (x : D) (lo hi : Option Int) (P : D → Prop) : Prop := match x with
  | .tup xs => ¬ (HT.sIx xs.length 0 lo = 0 ∧ HT.sIx xs.length xs.length hi = xs.length) ∧ P (.tup (cutG xs lo hi))
  | .str z => z.length ≤ sizeLine ∧ P (.str (cutS z lo hi))
  | _ => False
def slD (sl : D → Option Int → Option Int → (D → Prop) → Prop) (m : TEd) (ml mh : TOd) : TEd := fun ρ P => m ρ fun x => ml ρ fun l => mh ρ fun h => sl x l h P
theorem sl_run {K : PySem.W.Frag} {r : V → Option Int → Option Int → Hp → VK → Prop} {sl : D → Option Int → Option Int → (D → Prop) → Prop} {Hs0 H0 : Hp} {dp : Option (Addr × Addr)} {H Hs : Hp} {σ : Sg} {ρ : Env} {P : D → Prop} {Q : VK} (rl : Rl K dp H0 Hs0 σ H Hs ρ) (hm : slD sl m ml mh ρ P)
    (h : ∀ (H2 Hs2 : Hp) (d : D) (v : V) (l u : Option Int), Stp dp H Hs H2 Hs2 → RepB K dp H2 Hs2 d v → sl d l u P → r v l u H2 Q) : tSl r (tB K m) (tOd K ml) (tOd K mh) σ H Q := by
  refine ⟨dp, H0, Hs0, Hs, ρ, _, rl, hm, fun d1 hd1 v1 H1 Hs1 s1 q1 => ?_⟩
  refine ⟨dp, H0, Hs0, Hs1, ρ, _, rl.step s1, hd1, fun l hl H2 Hs2 s2 => ?_⟩
  refine ⟨dp, H0, Hs0, Hs2, ρ, _, (rl.step s1).step s2, hl, fun u hu H3 Hs3 s3 => ?_⟩
  exact h H3 Hs3 d1 v1 l u (s1.trans (s2.trans s3)) (RepB.step s1.bs (s2.trans s3) _ _ q1) hu
theorem Reps.cut {K : PySem.W.Frag} {dp : Option (Addr × Addr)} {H : Hp} {ds : List D} {vs : List V} (h : Reps K dp H ds vs) (lo hi : Option Int) : Reps K dp H (cutG ds lo hi) (cutV vs lo hi) := by
  unfold cutG cutV
  rw [h.length]
  exact (h.drop _).take _
theorem cut_ints (xs : List Int) (lo hi : Option Int) : cutV (xs.map V.int) lo hi = (cutG xs lo hi).map V.int := by
  unfold cutG cutV
  rw [List.length_map, List.map_take, List.map_drop]
theorem f_slice (he : PEb X e m) (hl : POd X lo ml) (hh : POd X hi mh) : PEf X (.Subscript e (.Slice lo hi none p2) pos) (slD slL m ml mh) := by
  refine PE.mono (pe_slice sl_list he hl hh) fun σ H Q ⟨dp, H0, Hs0, Hs, ρ, P, rl, hm, k⟩ => sl_run rl hm fun H2 Hs2 d v l u s q h => ?_
  unfold slL at h
  split at h
  · obtain ⟨a, ws, rfl, h1, hr⟩ := q.lst
    exact ⟨a, ws, rfl, .of h1, fun p hp => newL s.bs hp (hr.cut l u) fun b H3 Hs3 s3 q3 hs hn hdk => k _ h b H3 Hs3 (s.trans s3) q3 hs (back_none rl.bs s hn hdk) hdk⟩
  · obtain ⟨a, rfl, h1⟩ := RepB.scr s.bs q
    refine ⟨a, _, rfl, h1, fun p hp => ?_⟩
    rw [cut_ints]
    exact newL s.bs hp (reps_ints _) fun b H3 Hs3 s3 q3 hs hn hdk => k _ h b H3 Hs3 (s.trans s3) q3 hs (back_none rl.bs s hn hdk) hdk
  · exact h.elim
theorem d_sliceT (he : PEb X e m) (hl : POd X lo ml) (hh : POd X hi mh) : PEd X (.Subscript e (.Slice lo hi none p2) pos) (slD slT m ml mh) := by
  refine PE.mono (pe_slice (sl_tup.or sl_str) he hl hh) fun σ H Q ⟨dp, H0, Hs0, Hs, ρ, P, rl, hm, k⟩ => sl_run rl hm fun H2 Hs2 d v l u s q h => ?_
  unfold slT at h
  split at h
  · obtain ⟨a, ws, rfl, h1, hr⟩ := RepB.tp s.bs q
    exact .inl ⟨a, ws, rfl, h1, by rw [← hr.length]; exact h.1, fun p hp => newTs s.bs hp (hr.cut l u) fun b H3 Hs3 s3 q3 => k _ h.2 b H3 Hs3 (s.trans s3) q3⟩
  · rw [q.str]
    exact .inr ⟨_, rfl, h.1, k _ h.2 _ H2 Hs2 s rep_str⟩
  · exact h.elim
/-- xs[::-1] -/
def revD (m : TEd) : TEd := fun ρ P => m ρ fun x => match x with
  | .lst xs => P (.lst xs.reverse)
  | _ => False
theorem f_rev {k : Nat} {p1 p2 p3 : Pos} (he : PEb X e m) : PEf X (.Subscript e (.Slice none none (some (.UnaryOp .USub (.Constant (.int 1) k p1) p2)) p3) pos) (revD m) := by
  refine PE.mono (pe_revL he) fun σ H Q ⟨dp, H0, Hs0, Hs, ρ, P, rl, hm, k⟩ => ?_
  refine ⟨dp, H0, Hs0, Hs, ρ, _, rl, hm, fun d hd v H1 Hs1 s q => ?_⟩
  split at hd
  · obtain ⟨a, ws, rfl, h1, hr⟩ := q.lst
    exact ⟨a, ws, rfl, .of h1, fun p hp => newL s.bs hp hr.reverse fun b H3 Hs3 s3 q3 hs hn hdk => k _ hd b H3 Hs3 (s.trans s3) q3 hs (back_none rl.bs s hn hdk) hdk⟩
  · exact hd.elim
end
end DL

set_option Elab.async false
set_option linter.all false
set_option autoImplicit false
set_option maxRecDepth 100000
set_option maxHeartbeats 4000000
namespace DL
open PySem PySem.Spec PyProof.Rows L2

/-! ### promises by data -/
/-- arguments, what is wanted of the value, what is wanted of an error (its class, its value) -/
abbrev XD := Addr → D → Prop
abbrev SpD := List D → (D → Prop) → XD → Prop
abbrev X0 : XD := fun _ _ => False
def spOf (K : PySem.W.Frag) (S : SpD) : Sp := fun vs H Q E => ∃ (dp : Option (Addr × Addr)) (Hs : Hp) (ds : List D) (P : D → Prop) (PX : XD), Bs dp H Hs ∧ Reps K dp Hs ds vs ∧ S ds P PX ∧
  (∀ d, P d → ∀ v H' Hs', Stp dp H Hs H' Hs' → Rep K dp Hs' d v → Q v H') ∧
  (∀ C d, PX C d → ∀ dx v H' Hs', Stp dp H Hs H' Hs' → H' dx = some (.xd [("value", v)]) → Rep K dp Hs' d v → E (.ref C) (some dx) H')
/-- the module's def x keeps S, by at most level k -/
def Fd (P : Program) (w : World) (K : PySem.W.Frag) (mg : Str → Option Value) (base : Heap) (x : Str) (k : Nat) (ps : List Str) (S : SpD) : Prop :=
  ∃ (f : Addr) (fd : FuncData), FnOk P w K mg base (L2.CX P w) k f fd ps (spOf K S) ∧ mg x = some (.ref f) ∧ PySem.W.keepIn K (.ref f) = true ∧ Binds K fd ps []
def callD (S : SpD) (ms : TAd) : TEd := fun ρ P => ms ρ fun ds => S ds P X0
section
variable {X : Cx} {e a b c : Expr} {es : List Expr} {m ma mb mc : TEd} {ms : TAd} {pos p : Pos} {x : Str} {k : Nat} {ps : List Str} {S : SpD}
theorem call_run {K : PySem.W.Frag} {σ : Sg} {H : Hp} {Q : VK} (h : tD K (callD S ms) σ H Q) : tCall (spOf K S) [] E0 (tA K ms) σ H Q := by
  obtain ⟨dp, H0, Hs0, Hs, ρ, P, rl, hm, k⟩ := h
  refine ⟨dp, H0, Hs0, Hs, ρ, _, rl, hm, fun ds hds vs H1 Hs1 s1 q1 => ?_⟩
  show spOf K S (vs ++ []) H1 Q E0
  rw [List.append_nil]
  exact ⟨dp, Hs1, ds, P, X0, s1.bs, q1, hds, fun d hd v H2 Hs2 s2 q2 => k d hd v H2 Hs2 (s1.trans s2) q2, fun C d hx => hx.elim⟩
theorem d_call (F : Fd X.prog X.w X.K X.mg X.base x k ps S) (hr : Room k X.A) (hg : Gl X x) (ha : PAd X (e :: es) ms) (hdb : (x == ("__debug__" : Str)) = false := by decide)
    (he : starEach (e :: es) X.env = (false, eval e X.env) :: starEach es X.env := by rfl) (hpl : (backTo pos (starEach es X.env)).any (·.1) = false := by rfl) : PEd X (.Call (.Name x p) (e :: es) [] pos) (callD S ms) := by
  obtain ⟨f, fd, G, hm, hk, hb⟩ := F
  exact PE.mono (pe_call G hr hg hm hk hb .nil passL ha hdb he hpl) fun σ H Q h => call_run h
end

/-! ### what is walked -/
abbrev TId := Env → (List D → Prop) → Prop
structure ItOk (K : PySem.W.Frag) (dp : Option (Addr × Addr)) (H Hs : Hp) (J : It) (ds : List D) : Prop where
  go : ∀ H2 Hs2, Same Hs Hs2 → Bs dp H2 Hs2 → ∀ i, i < ds.length → J.go i H2
  yld : ∀ H2 Hs2, Same Hs Hs2 → Bs dp H2 Hs2 → ∀ i, i < ds.length → ∀ x H3, J.yld i H2 x H3 → ∃ Hs3 d, Stp dp H2 Hs2 H3 Hs3 ∧ ds[i]? = some d ∧ Rep K dp Hs3 d x
  stop : ∀ H2 Hs2, Same Hs Hs2 → Bs dp H2 Hs2 → ∀ i, ds.length ≤ i → J.stop i H2
def tI (K : PySem.W.Frag) (src : TId) : TI := fun σ H R => ∃ dp H0 Hs0 Hs ρ P, Rl K dp H0 Hs0 σ H Hs ρ ∧ src ρ P ∧ ∀ ds, P ds → ∀ J H' Hs', Stp dp H Hs H' Hs' → ItOk K dp H' Hs' J ds → R J H'
def PId (X : Cx) (tg iter : Expr) (src : TId) : Prop := PI X tg iter (tI X.K src)
theorem PI.mono {X : Cx} {tg iter : Expr} {t t' : TI} (h : PI X tg iter t) (f : ∀ σ H Q, t' σ H Q → t σ H Q) : PI X tg iter t' := ⟨fun pins s σ H R I hw => h.run pins s σ H R I (f σ H R hw)⟩
theorem PI.or {X : Cx} {tg iter : Expr} {t t' : TI} (h : PI X tg iter t) (h' : PI X tg iter t') : PI X tg iter (fun σ H R => t σ H R ∨ t' σ H R) := ⟨fun pins s σ H R I hw => hw.elim (h.run pins s σ H R I) (h'.run pins s σ H R I)⟩
section
variable {K : PySem.W.Frag} {dp : Option (Addr × Addr)} {H Hs : Hp}
theorem it_list {a : Addr} {vs : List V} {ds : List D} (h : SqL K Hs a vs) (hr : Reps K dp Hs ds vs) : ItOk K dp H Hs (Itl K a) ds where
  go := fun H2 Hs2 s bs i hi => by
    obtain ⟨v, hv, _⟩ := hr.get (i := i) (d := ds[i]) (by simp [hi])
    exact ⟨vs, v, bs.sub.seq (s.seq h), hv⟩
  yld := fun H2 Hs2 s bs i hi x H3 y => by
    obtain ⟨rfl, y⟩ := y
    have e := y vs (bs.sub.seq (s.seq h))
    obtain ⟨d, hd, q⟩ := hr.get' e
    exact ⟨Hs2, d, .refl bs, hd, Rep.mono s _ _ q⟩
  stop := fun H2 Hs2 s bs i hi => ⟨vs, bs.sub.seq (s.seq h), by rw [← hr.length]; exact hi⟩
theorem it_tup {a : Addr} {vs : List V} {ds : List D} (h : SqT K Hs a vs) (hr : Reps K dp Hs ds vs) : ItOk K dp H Hs (Itt K a) ds where
  go := fun H2 Hs2 s bs i hi => by
    obtain ⟨v, hv, _⟩ := hr.get (i := i) (d := ds[i]) (by simp [hi])
    exact ⟨vs, v, Same.seqT bs.sub (Same.seqT s h), hv⟩
  yld := fun H2 Hs2 s bs i hi x H3 y => by
    obtain ⟨rfl, y⟩ := y
    have e := y vs (Same.seqT bs.sub (Same.seqT s h))
    obtain ⟨d, hd, q⟩ := hr.get' e
    exact ⟨Hs2, d, .refl bs, hd, Rep.mono s _ _ q⟩
  stop := fun H2 Hs2 s bs i hi => ⟨vs, Same.seqT bs.sub (Same.seqT s h), by rw [← hr.length]; exact hi⟩
def rngL (lo : Int) (n : Nat) : List D := (List.range n).map fun i => D.int (lo + (i : Nat))
theorem rngL_len (lo : Int) (n : Nat) : (rngL lo n).length = n := by unfold rngL; simp
theorem rngL_get {lo : Int} {n i : Nat} (h : i < n) : (rngL lo n)[i]? = some (.int (lo + (i : Nat))) := by unfold rngL; simp [h]
theorem it_rng (lo : Int) (n : Nat) : ItOk K dp H Hs (Itr lo n) (rngL lo n) where
  go := fun H2 Hs2 s bs i hi => by rw [rngL_len] at hi; exact hi
  yld := fun H2 Hs2 s bs i hi x H3 y => by
    obtain ⟨rfl, rfl⟩ := y
    rw [rngL_len] at hi
    exact ⟨Hs2, _, .refl bs, rngL_get hi, rep_int⟩
  stop := fun H2 Hs2 s bs i hi => by rw [rngL_len] at hi; exact hi
def signs (x : Str) : List D := x.cps.toList.map fun c => D.str ⟨#[c]⟩
theorem it_str (x : Str) : ItOk K dp H Hs (Its x) (signs x) where
  go := fun H2 Hs2 s bs i hi => by
    unfold signs at hi
    rw [List.length_map] at hi
    exact hi
  yld := fun H2 Hs2 s bs i hi y H3 q => by
    obtain ⟨rfl, c, hc, rfl⟩ := q
    refine ⟨Hs2, .str ⟨#[c]⟩, .refl bs, ?_, rep_str⟩
    unfold signs
    rw [List.getElem?_map, Array.getElem?_toList, hc]; rfl
  stop := fun H2 Hs2 s bs i hi => by
    unfold signs at hi
    rw [List.length_map] at hi
    exact hi
def enumL (ds : List D) : List D := (List.range ds.length).map fun i => D.tup [.int (i : Nat), ds.getD i .non]
theorem it_enum {a : Addr} {vs : List V} {ds : List D} (h : SqL K Hs a vs) (hr : Reps K dp Hs ds vs) : ItOk K dp H Hs (Ite K a) (enumL ds) where
  go := fun H2 Hs2 s bs i hi => by
    have hi' : i < ds.length := by unfold enumL at hi; simpa using hi
    obtain ⟨v, hv, _⟩ := hr.get (i := i) (d := ds[i]) (by simp [hi'])
    exact ⟨vs, v, bs.sub.seq (s.seq h), hv⟩
  yld := fun H2 Hs2 s bs i hi x H3 y => by
    have hi' : i < ds.length := by unfold enumL at hi; simpa using hi
    obtain ⟨T, x, rfl, nT, rfl, y⟩ := y
    have e := y vs (bs.sub.seq (s.seq h))
    obtain ⟨d, hd, q⟩ := hr.get' e
    refine ⟨_, .tup [.int (i : Nat), d], .laid bs nT, ?_, ?_⟩
    · unfold enumL
      rw [List.getElem?_map, List.getElem?_range hi']
      simp [hd]
    · have sm := same_share (o := HO.tup [.int (i : Nat), x]) (bs.sub.free nT)
      unfold Rep
      exact ⟨T, _, rfl, .of upd_same, .cons rep_int (.cons (Rep.mono (s.trans sm) _ _ q) .nil)⟩
  stop := fun H2 Hs2 s bs i hi => by
    have hi' : ds.length ≤ i := by unfold enumL at hi; simpa using hi
    exact ⟨vs, bs.sub.seq (s.seq h), by rw [← hr.length]; exact hi'⟩
def zipL (ds es : List D) : List D := (ds.zip es).map fun p => D.tup [p.1, p.2]
theorem it_zip {a b : Addr} {vs ws : List V} {ds es : List D} (h : SqL K Hs a vs) (h' : SqL K Hs b ws) (hr : Reps K dp Hs ds vs) (hr' : Reps K dp Hs es ws) : ItOk K dp H Hs (Itz K a b) (zipL ds es) where
  go := fun H2 Hs2 s bs i hi => by
    have hi' : i < ds.length ∧ i < es.length := by unfold zipL at hi; simpa [Nat.lt_min] using hi
    obtain ⟨v, hv, _⟩ := hr.get (i := i) (d := ds[i]'hi'.1) (by simp [hi'.1])
    obtain ⟨w, hw, _⟩ := hr'.get (i := i) (d := es[i]'hi'.2) (by simp [hi'.2])
    exact ⟨vs, ws, v, w, bs.sub.seq (s.seq h), bs.sub.seq (s.seq h'), hv, hw⟩
  yld := fun H2 Hs2 s bs i hi x H3 y => by
    obtain ⟨T, x, y', rfl, nT, rfl, y1, y2⟩ := y
    have e1 := y1 vs (bs.sub.seq (s.seq h))
    have e2 := y2 ws (bs.sub.seq (s.seq h'))
    obtain ⟨d, hd, q⟩ := hr.get' e1
    obtain ⟨d', hd', q'⟩ := hr'.get' e2
    refine ⟨_, .tup [d, d'], .laid bs nT, ?_, ?_⟩
    · unfold zipL
      rw [List.getElem?_map]
      have : (ds.zip es)[i]? = some (d, d') := by
        rw [List.getElem?_zip_eq_some]
        exact ⟨hd, hd'⟩
      rw [this]; rfl
    · have sm := same_share (o := HO.tup [x, y']) (bs.sub.free nT)
      unfold Rep
      exact ⟨T, _, rfl, .of upd_same, .cons (Rep.mono (s.trans sm) _ _ q) (.cons (Rep.mono (s.trans sm) _ _ q') .nil)⟩
  stop := fun H2 Hs2 s bs i hi => by
    refine ⟨vs, ws, bs.sub.seq (s.seq h), bs.sub.seq (s.seq h'), ?_⟩
    have hi' : min ds.length es.length ≤ i := by unfold zipL at hi; simpa using hi
    rw [← hr.length, ← hr'.length]
    omega
end
/-- the items of a list, a tuple, the script, a text -/
def overD (m : TEd) : TId := fun ρ P => m ρ fun d => match d with
  | .lst xs => P xs
  | .scr xs => P (xs.map .int)
  | _ => False
def overT (m : TEd) : TId := fun ρ P => m ρ fun d => match d with
  | .tup xs => P xs
  | _ => False
def overS (m : TEd) : TId := fun ρ P => m ρ fun d => match d with
  | .str x => P (signs x)
  | _ => False
def rng1D (ms : TAd) : TId := fun ρ P => ms ρ fun ds => match ds with
  | [.int j] => -(2 ^ 62) ≤ j ∧ j < 2 ^ 62 ∧ P (rngL 0 j.toNat)
  | _ => False
def rng2D (ms : TAd) : TId := fun ρ P => ms ρ fun ds => match ds with
  | [.int i, .int j] => (-(2 ^ 62) ≤ i ∧ i < 2 ^ 62 ∧ -(2 ^ 62) ≤ j ∧ j < 2 ^ 62) ∧ P (rngL i (j - i).toNat)
  | _ => False
def enumD (ms : TAd) : TId := fun ρ P => ms ρ fun ds => match ds with
  | [.lst xs] => P (enumL xs)
  | [.scr xs] => P (enumL (xs.map .int))
  | _ => False
def zipD (ms : TAd) : TId := fun ρ P => ms ρ fun ds => match ds with
  | [.lst xs, .lst ys] => P (zipL xs ys)
  | _ => False
section
variable {X : Cx} {tg e a b : Expr} {es elts : List Expr} {m : TEd} {ms : TAd} {p pos tpos : Pos} {kk : Nat}
theorem Rep.un {K : PySem.W.Frag} {dp : Option (Addr × Addr)} {H : Hp} {ds : List D} {v : V} (h : Rep K dp H (.lst ds) v) : ∃ a vs, v = .ref a ∧ H a = some (.lst vs) ∧ Reps K dp H ds vs := by unfold Rep at h; exact h
theorem Rep.unT {K : PySem.W.Frag} {dp : Option (Addr × Addr)} {H : Hp} {ds : List D} {v : V} (h : Rep K dp H (.tup ds) v) : ∃ a vs, v = .ref a ∧ SqT K H a vs ∧ Reps K dp H ds vs := by unfold Rep at h; exact h
theorem Rep.unS {K : PySem.W.Frag} {dp : Option (Addr × Addr)} {H : Hp} {xs : List Int} {v : V} (h : Rep K dp H (.scr xs) v) : ∃ a, v = .ref a ∧ SqL K H a (xs.map .int) := by unfold Rep at h; exact h
theorem Rep.int' {K : PySem.W.Frag} {dp : Option (Addr × Addr)} {H : Hp} {i : Int} {v : V} (h : Rep K dp H (.int i) v) : v = .int i := by unfold Rep at h; exact h
theorem Rep.str' {K : PySem.W.Frag} {dp : Option (Addr × Addr)} {H : Hp} {i : Str} {v : V} (h : Rep K dp H (.str i) v) : v = .str i := by unfold Rep at h; exact h
theorem di_over (h : PEd X e m) : PId X tg e (overD m) := by
  refine PI.mono (pi_list h) fun σ H R ⟨dp, H0, Hs0, Hs, ρ, P, rl, hm, k⟩ => ?_
  refine ⟨dp, H0, Hs0, Hs, ρ, _, rl, hm, fun d hd v H1 Hs1 s q => ?_⟩
  split at hd
  · obtain ⟨a, vs, rfl, h1, hr⟩ := q.un
    exact ⟨a, rfl, ⟨vs, .of (s.bs.sub _ _ h1)⟩, k _ hd _ H1 Hs1 s (it_list (.of h1) hr)⟩
  · obtain ⟨a, rfl, h1⟩ := q.unS
    exact ⟨a, rfl, ⟨_, s.bs.sub.seq h1⟩, k _ hd _ H1 Hs1 s (it_list h1 (reps_ints _))⟩
  · exact hd.elim
theorem di_overT (h : PEd X e m) : PId X tg e (overT m) := by
  refine PI.mono (pi_tup h) fun σ H R ⟨dp, H0, Hs0, Hs, ρ, P, rl, hm, k⟩ => ?_
  refine ⟨dp, H0, Hs0, Hs, ρ, _, rl, hm, fun d hd v H1 Hs1 s q => ?_⟩
  split at hd
  · obtain ⟨a, vs, rfl, h1, hr⟩ := q.unT
    exact ⟨a, rfl, ⟨vs, Same.seqT s.bs.sub h1⟩, k _ hd _ H1 Hs1 s (it_tup h1 hr)⟩
  · exact hd.elim
theorem di_overS (h : PEd X e m) : PId X tg e (overS m) := by
  refine PI.mono (pi_str h) fun σ H R ⟨dp, H0, Hs0, Hs, ρ, P, rl, hm, k⟩ => ?_
  refine ⟨dp, H0, Hs0, Hs, ρ, _, rl, hm, fun d hd v H1 Hs1 s q => ?_⟩
  split at hd
  · exact ⟨_, q.str', k _ hd _ H1 Hs1 s (it_str _)⟩
  · exact hd.elim
theorem di_rng1 (hg : Gl X "range") (hm : X.mg "range" = none) (ha : PAb X [a] ms) (hs : starEach [a] X.env = [(false, eval a X.env)] := by rfl) : PId X tg (.Call (.Name "range" p) [a] [] pos) (rng1D ms) := by
  refine PI.mono (pi_range1 hg hm ha hs) fun σ H R ⟨dp, H0, Hs0, Hs, ρ, P, rl, hm, k⟩ => ?_
  refine ⟨dp, H0, Hs0, Hs, ρ, _, rl, hm, fun ds hd vs H1 Hs1 s q => ?_⟩
  split at hd
  · obtain ⟨v, rfl, q1⟩ := rb1 q
    rw [q1.int]
    exact ⟨_, rfl, hd.1, hd.2.1, k _ hd.2.2 _ H1 Hs1 s (it_rng _ _)⟩
  · exact hd.elim
theorem di_rng2 (hg : Gl X "range") (hm : X.mg "range" = none) (ha : PAb X [a, b] ms) (hs : starEach [a, b] X.env = [(false, eval a X.env), (false, eval b X.env)] := by rfl) (hs2 : starEach [b] X.env = [(false, eval b X.env)] := by rfl) :
    PId X tg (.Call (.Name "range" p) [a, b] [] pos) (rng2D ms) := by
  refine PI.mono (pi_range2 hg hm ha hs hs2) fun σ H R ⟨dp, H0, Hs0, Hs, ρ, P, rl, hm, k⟩ => ?_
  refine ⟨dp, H0, Hs0, Hs, ρ, _, rl, hm, fun ds hd vs H1 Hs1 s q => ?_⟩
  split at hd
  · obtain ⟨v, v', rfl, q1, q2⟩ := rb2 q
    rw [q1.int, q2.int]
    exact ⟨_, _, rfl, hd.1, k _ hd.2 _ H1 Hs1 s (it_rng _ _)⟩
  · exact hd.elim
theorem di_enum (hg : Gl X "enumerate") (hm : X.mg "enumerate" = none) (ha : PAd X [e] ms) (hs : starEach [e] X.env = [(false, eval e X.env)] := by rfl) : PId X (.Tuple elts kk tpos) (.Call (.Name "enumerate" p) [e] [] pos) (enumD ms) := by
  refine PI.mono (pi_enum hg hm ha hs) fun σ H R ⟨dp, H0, Hs0, Hs, ρ, P, rl, hm, k⟩ => ?_
  refine ⟨dp, H0, Hs0, Hs, ρ, _, rl, hm, fun ds hd vs H1 Hs1 s q => ?_⟩
  split at hd
  · obtain ⟨v, r, rfl, q1, q2⟩ := q.uncons
    cases q2.unnil
    obtain ⟨a, ws, rfl, h1, hr⟩ := q1.un
    exact ⟨a, ws, rfl, .of (s.bs.sub _ _ h1), k _ hd _ H1 Hs1 s (it_enum (.of h1) hr)⟩
  · obtain ⟨v, r, rfl, q1, q2⟩ := q.uncons
    cases q2.unnil
    obtain ⟨a, rfl, h1⟩ := q1.unS
    exact ⟨a, _, rfl, s.bs.sub.seq h1, k _ hd _ H1 Hs1 s (it_enum h1 (reps_ints _))⟩
  · exact hd.elim
theorem di_zip (hg : Gl X "zip") (hm : X.mg "zip" = none) (ha : PAd X [a, b] ms) (hs : starEach [a, b] X.env = (false, eval a X.env) :: starEach [b] X.env := by rfl) (hpl : (backTo pos (starEach [b] X.env)).any (·.1) = false := by rfl) :
    PId X (.Tuple elts kk tpos) (.Call (.Name "zip" p) [a, b] [] pos) (zipD ms) := by
  refine PI.mono (pi_zip hg hm ha hs hpl) fun σ H R ⟨dp, H0, Hs0, Hs, ρ, P, rl, hm, k⟩ => ?_
  refine ⟨dp, H0, Hs0, Hs, ρ, _, rl, hm, fun ds hd vs H1 Hs1 s q => ?_⟩
  split at hd
  · obtain ⟨v, r, rfl, q1, q2⟩ := q.uncons
    obtain ⟨v', r', rfl, q3, q4⟩ := q2.uncons
    cases q4.unnil
    obtain ⟨a, ws, rfl, h1, hr⟩ := q1.un
    obtain ⟨b, us, rfl, h2, hr'⟩ := q3.un
    exact ⟨a, b, ws, us, rfl, .of (s.bs.sub _ _ h1), .of (s.bs.sub _ _ h2), k _ hd _ H1 Hs1 s (it_zip (.of h1) (.of h2) hr hr')⟩
  · exact hd.elim
end
end DL

set_option Elab.async false
set_option linter.all false
set_option autoImplicit false
set_option maxRecDepth 100000
set_option maxHeartbeats 4000000
namespace DL
open PySem PySem.Spec PyProof.Rows L2

structure EndsD where
  nx : Env → Prop
  rt : D → Prop
  bk : Env → Prop := fun _ => False
  ct : Env → Prop := fun _ => False
  ex : Env → XD := fun _ _ _ => False
abbrev TSd := EndsD → Env → Prop
structure EndOk (K : PySem.W.Frag) (W : WX) (dp : Option (Addr × Addr)) (H0 Hs0 Hb : Hp) (DD : EndsD) (Dn : Ends) : Prop where
  nx : ∀ ρ σ H Hs, DD.nx ρ → Rl K dp H0 Hs0 σ H Hs ρ → Same Hb Hs → Dn.nx σ H
  bk : ∀ ρ σ H Hs, DD.bk ρ → Rl K dp H0 Hs0 σ H Hs ρ → Same Hb Hs → Dn.bk σ H
  ct : ∀ ρ σ H Hs, DD.ct ρ → Rl K dp H0 Hs0 σ H Hs ρ → Same Hb Hs → Dn.ct σ H
  rt : ∀ d, DD.rt d → ∀ v H Hs, Stp dp H0 Hs0 H Hs → Rep K dp Hs d v → Dn.rt v H
  ex : ∀ ρ C d, DD.ex ρ C d → ∀ σ dx v H Hs, Rl K dp H0 Hs0 σ H Hs ρ → Same Hb Hs → H dx = some (.xd [("value", v)]) → Rep K dp Hs d v → W (.ref C) (some dx) σ H
def tS (K : PySem.W.Frag) (W : WX) (m : TSd) : TS := fun Dn σ H => ∃ dp H0 Hs0 Hb Hs ρ DD, Rl K dp H0 Hs0 σ H Hs ρ ∧ Same Hb Hs ∧ m DD ρ ∧ EndOk K W dp H0 Hs0 Hb DD Dn
def PSd (X : Cx) (W : WX) (st : Stmt) (m : TSd) : Prop := PS X st (tS X.K W m)
def PSsd (X : Cx) (W : WX) (sts : List Stmt) (m : TSd) : Prop := PSs X sts (tS X.K W m)
theorem PS.mono {X : Cx} {st : Stmt} {t t' : TS} (h : PS X st t) (f : ∀ D σ H, t' D σ H → t D σ H) : PS X st t' := ⟨fun pins s σ H D I hw => h.run pins s σ H D I (f D σ H hw)⟩
theorem PSs.mono {X : Cx} {st : List Stmt} {t t' : TS} (h : PSs X st t) (f : ∀ D σ H, t' D σ H → t D σ H) : PSs X st t' := ⟨fun pins s σ H D I hw => h.run pins s σ H D I (f D σ H hw)⟩

section
variable {K : PySem.W.Frag} {dp : Option (Addr × Addr)} {H0 Hs0 H Hs H' Hs' : Hp} {σ : Sg} {ρ : Env}
theorem Rl.share (r : Rl K dp H0 Hs0 σ H Hs ρ) {i : Nat} {a : Addr} {d : D} (e : ρ[i]? = some (.ow a d)) : ∃ Hs', Same Hs Hs' ∧ Rl K dp H0 Hs0 σ H Hs' (ρ.set i (.sh d)) := by
  obtain ⟨e1, ow, hs, h0, hdk⟩ := r.cells i _ e
  have hi : i < ρ.length := (List.getElem?_eq_some_iff.mp e).1
  obtain ⟨o, ho, hrep⟩ := OwnRep.top ow
  have sm : Same Hs (upd Hs a o) := same_share hs
  refine ⟨upd Hs a o, sm, ⟨r.stp.ext.trans sm, fun x h1 h2 => ?_, r.stp.frm, r.bs.share ho hs hdk⟩, by rw [List.length_set, r.len], fun j c ec => ?_, fun j k b d1 d2 f1 f2 => ?_⟩
  · have : x ≠ a := fun z => by subst z; exact h1 h0
    rw [upd_ne this]; exact r.stp.new x h1 h2
  · by_cases hij : i = j
    · subst hij
      rw [List.getElem?_set_self hi] at ec
      cases ec
      exact ⟨.ref a, e1, hrep _ sm upd_same⟩
    · rw [List.getElem?_set_ne hij] at ec
      have h := r.cells j c ec
      cases c with
      | no => trivial
      | sh d => obtain ⟨v, g1, g2⟩ := h; exact ⟨v, g1, Rep.mono sm _ _ g2⟩
      | ow b d2 =>
        have hb : b ≠ a := fun z => by subst z; exact hij (r.dist i j b d d2 e ec)
        obtain ⟨f1, f2, f3, f4, f5⟩ := h
        refine ⟨f1, ?_, by rw [upd_ne hb]; exact f3, f4, f5⟩
        cases d2 with
        | lst ds => obtain ⟨vs, g1, g2⟩ := f2; exact ⟨vs, g1, Reps.mono sm _ _ g2⟩
        | ins C ns ds => obtain ⟨dx, gs, g1, g2, g3⟩ := f2; exact ⟨dx, gs, g1, g2, Reps.mono sm _ _ g3⟩
        | _ => exact f2.elim
  · have key : ∀ (j : Nat) (d1 : D), (ρ.set i (.sh d))[j]? = some (.ow b d1) → ρ[j]? = some (.ow b d1) := fun j d1 e1 => by
      by_cases hij : i = j
      · subst hij
        rw [List.getElem?_set_self hi] at e1
        cases e1
      · rw [List.getElem?_set_ne hij] at e1
        exact e1
    exact r.dist j k b d1 d2 (key j d1 f1) (key k d2 f2)
end

section
variable {X : Cx} {W : WX} {st : Stmt} {rest a b : List Stmt} {m m2 ma mb : TSd} {e c : Expr} {me mv : TEd} {mt : TTd} {pos : Pos}
/-! ### blocks -/
def nextD : TSd := fun DD ρ => DD.nx ρ
def seqD (a b : TSd) : TSd := fun DD ρ => a { DD with nx := fun ρ' => b DD ρ' } ρ
theorem dss_nil : PSsd X W [] nextD := PSs.mono pss_nil fun Dn σ H ⟨dp, H0, Hs0, Hb, Hs, ρ, DD, rl, hb, hm, eo⟩ => eo.nx ρ σ H Hs hm rl hb
theorem dss_cons (h1 : PSd X W st m) (h2 : PSsd X W rest m2) : PSsd X W (st :: rest) (seqD m m2) := by
  refine PSs.mono (pss_cons h1 h2) fun Dn σ H ⟨dp, H0, Hs0, Hb, Hs, ρ, DD, rl, hb, hm, eo⟩ => ?_
  exact ⟨dp, H0, Hs0, Hb, Hs, ρ, _, rl, hb, hm, ⟨fun ρ' σ' H' Hs' h rl' hb' => ⟨dp, H0, Hs0, Hb, Hs', ρ', DD, rl', hb', h, eo⟩, eo.bk, eo.ct, eo.rt, eo.ex⟩⟩
theorem dss_one (h1 : PSd X W st m) : PSsd X W [st] m := PSs.mono (pss_one h1) fun _ _ _ h => h
/-- with a joining of ways in between -/
def seqJ (a b : TSd) : TSd := fun DD ρ => ∃ J : Env → Prop, a { DD with nx := J } ρ ∧ ∀ ρ', J ρ' → b DD ρ'
theorem dss_consJ (h1 : PSd X W st m) (h2 : PSsd X W rest m2) : PSsd X W (st :: rest) (seqJ m m2) := by
  refine PSs.mono (pss_cons h1 h2) fun Dn σ H ⟨dp, H0, Hs0, Hb, Hs, ρ, DD, rl, hb, ⟨J, hm, hj⟩, eo⟩ => ?_
  exact ⟨dp, H0, Hs0, Hb, Hs, ρ, _, rl, hb, hm, ⟨fun ρ' σ' H' Hs' h rl' hb' => ⟨dp, H0, Hs0, Hb, Hs', ρ', DD, rl', hb', hj _ h, eo⟩, eo.bk, eo.ct, eo.rt, eo.ex⟩⟩
/-- slots whose objects are shared ahead of a statement -/
def shareD (i : Nat) (m : TSd) : TSd := fun DD ρ => match ρ[i]? with
  | some (.ow _ d) => m DD (ρ.set i (.sh d))
  | _ => m DD ρ
theorem ds_share (i : Nat) (h : PSd X W st m) : PSd X W st (shareD i m) := PS.mono h fun Dn σ H ⟨dp, H0, Hs0, Hb, Hs, ρ, DD, rl, hb, hm, eo⟩ => by
  unfold shareD at hm
  split at hm
  · rename_i a d e
    obtain ⟨Hs', sm, rl'⟩ := rl.share e
    exact ⟨dp, H0, Hs0, Hb, Hs', _, DD, rl', hb.trans sm, hm, eo⟩
  · exact ⟨dp, H0, Hs0, Hb, Hs, ρ, DD, rl, hb, hm, eo⟩

/-! ### plain statements -/
theorem ds_pass : PSd X W (.Pass pos) nextD := PS.mono ps_pass fun Dn σ H ⟨dp, H0, Hs0, Hb, Hs, ρ, DD, rl, hb, hm, eo⟩ => eo.nx ρ σ H Hs hm rl hb
def breakD : TSd := fun DD ρ => DD.bk ρ
def contD : TSd := fun DD ρ => DD.ct ρ
theorem ds_break : PSd X W (.Break pos) breakD := PS.mono ps_break fun Dn σ H ⟨dp, H0, Hs0, Hb, Hs, ρ, DD, rl, hb, hm, eo⟩ => eo.bk ρ σ H Hs hm rl hb
theorem ds_cont : PSd X W (.Continue pos) contD := PS.mono ps_continue fun Dn σ H ⟨dp, H0, Hs0, Hb, Hs, ρ, DD, rl, hb, hm, eo⟩ => eo.ct ρ σ H Hs hm rl hb
theorem ds_doc {x : Str} {j : Nat} {pos' : Pos} : PSd X W (.Expr (.Constant (.str x) j pos) pos') nextD := PS.mono ps_doc fun Dn σ H ⟨dp, H0, Hs0, Hb, Hs, ρ, DD, rl, hb, hm, eo⟩ => eo.nx ρ σ H Hs hm rl hb
def dropD (m : TEd) : TSd := fun DD ρ => m ρ fun _ => DD.nx ρ
theorem ds_expr (he : PEd X e me) (hs : swapsWith e none pos.line X.env = pure false := by rfl) : PSd X W (.Expr e pos) (dropD me) :=
  PS.mono (ps_expr he hs) fun Dn σ H ⟨dp, H0, Hs0, Hb, Hs, ρ, DD, rl, hb, hm, eo⟩ => ⟨dp, H0, Hs0, Hs, ρ, _, rl, hm, fun d hd v H' Hs' s q => eo.nx ρ σ H' Hs' hd (rl.step s) (hb.trans s.ext)⟩
def retD (m : TEd) : TSd := fun DD ρ => m ρ DD.rt
theorem ds_ret (he : PEd X e me) : PSd X W (.Return (some e) pos) (retD me) :=
  PS.mono (ps_ret he) fun Dn σ H ⟨dp, H0, Hs0, Hb, Hs, ρ, DD, rl, hb, hm, eo⟩ => ⟨dp, H0, Hs0, Hs, ρ, _, rl, hm, fun d hd v H' Hs' s q => eo.rt d hd v H' Hs' (rl.stp.trans s) q⟩
def retN : TSd := fun DD _ => DD.rt .non
theorem ds_retN : PSd X W (.Return none pos) retN :=
  PS.mono ps_retN fun Dn σ H ⟨dp, H0, Hs0, Hb, Hs, ρ, DD, rl, hb, hm, eo⟩ => eo.rt _ hm _ H Hs rl.stp rep_non
def ifD (t : TTd) (a b : TSd) : TSd := fun DD ρ => t ρ fun c => if c = true then a DD ρ else b DD ρ
theorem ds_if (hc : PTd X c mt) (ha : PSsd X W a ma) (hb : PSsd X W b mb) : PSd X W (.If c a b pos) (ifD mt ma mb) := by
  refine PS.mono (ps_if hc ha hb) fun Dn σ H ⟨dp, H0, Hs0, Hb, Hs, ρ, DD, rl, hbb, hm, eo⟩ => ?_
  refine ⟨dp, H0, Hs0, Hs, ρ, _, rl, hm, fun c hc H' Hs' s => ?_⟩
  cases c with
  | true => rw [if_pos rfl] at hc ⊢; exact ⟨dp, H0, Hs0, Hb, Hs', ρ, DD, rl.step s, hbb.trans s.ext, hc, eo⟩
  | false => rw [if_neg Bool.false_ne_true] at hc ⊢; exact ⟨dp, H0, Hs0, Hb, Hs', ρ, DD, rl.step s, hbb.trans s.ext, hc, eo⟩
/-- what is never reached -/
def neverD : TSd := fun _ _ => False
theorem ds_never : PSd X W st neverD := PS.mono ps_never fun Dn σ H ⟨dp, H0, Hs0, Hb, Hs, ρ, DD, rl, hb, hm, eo⟩ => hm.elim
theorem dss_never : PSsd X W rest neverD := PSs.mono pss_never fun Dn σ H ⟨dp, H0, Hs0, Hb, Hs, ρ, DD, rl, hb, hm, eo⟩ => hm.elim

/-! ### stores -/
def setD (i : Nat) (m : TEd) : TSd := fun DD ρ => m ρ fun d => DD.nx (ρ.set i (.sh d))
def ownD (i : Nat) (m : TEd) : TSd := fun DD ρ => m ρ fun d => ∀ a, DD.nx (ρ.set i (.ow a d))
theorem ds_set {i : Nat} {x : Str} {pos' : Pos} (hN : X.N.Nodup) (hi : X.N[i]? = some x) (hx : Loc X.env.scope x) (he : PEd X e me) (hs : swapsWith e (some (.Name x pos')) pos.line X.env = pure false := by rfl)
    (hf : X.fn x = true ∨ X.env.scope.names.lookup x = some .local := by first | exact .inl rfl | exact .inr rfl | assumption) : PSd X W (.Assign [.Name x pos'] e pos) (setD i me) :=
  PS.mono (ps_set hN hi hx he hs hf) fun Dn σ H ⟨dp, H0, Hs0, Hb, Hs, ρ, DD, rl, hb, hm, eo⟩ => ⟨dp, H0, Hs0, Hs, ρ, _, rl, hm, fun d hd v H' Hs' s q => eo.nx _ _ H' Hs' hd ((rl.step s).set i q) (hb.trans s.ext)⟩
theorem own_run {K : PySem.W.Frag} {i : Nat} {Dn : Ends} {σ : Sg} {H : Hp} (h : tS K W (ownD i me) Dn σ H) : tAsg (tF K me) (gName i) Dn σ H := by
  obtain ⟨dp, H0, Hs0, Hb, Hs, ρ, DD, rl, hb, hm, eo⟩ := h
  refine ⟨dp, H0, Hs0, Hs, ρ, _, rl, hm, fun d hd a H' Hs' s q hs hn hdk => ?_⟩
  refine eo.nx _ _ H' Hs' (hd a) ((rl.step s).setO i ⟨q, hs, ?_, hdk⟩ fun j d' _ e => ?_) (hb.trans s.ext)
  · exact by
      cases e : H0 a with
      | none => rfl
      | some o =>
        cases e2 : Hs0 a with
        | none =>
          have := rl.stp.frm a o e e2 hdk
          rw [hn] at this; cases this
        | some u =>
          have := rl.bs.sub _ _ (rl.stp.ext _ _ e2)
          rw [hn] at this; cases this
  · exact rl.fresh hn j d' e
theorem ds_own {i : Nat} {x : Str} {pos' : Pos} (hN : X.N.Nodup) (hi : X.N[i]? = some x) (hx : Loc X.env.scope x) (he : PEf X e me) (hs : swapsWith e (some (.Name x pos')) pos.line X.env = pure false := by rfl)
    (hf : X.fn x = true ∨ X.env.scope.names.lookup x = some .local := by first | exact .inl rfl | exact .inr rfl | assumption) : PSd X W (.Assign [.Name x pos'] e pos) (ownD i me) :=
  PS.mono (ps_set hN hi hx he hs hf) fun Dn σ H h => own_run h
/-- x op= e at a name -/
def augD (i : Nat) (rd : RD2) (m : TEd) : TSd := fun DD ρ => varD i ρ fun d1 => m ρ fun d2 => rd d1 d2 fun d => DD.nx (ρ.set i (.sh d))
def PIpD (X : Cx) (op : Operator) (rd : RD2) : Prop := ∃ t : TIp, PIp X op t ∧ ∀ (dp : Option (Addr × Addr)) (H Hs : Hp) (d1 d2 : D) (v1 v2 : V) (P : D → Prop) (Q : VK), Bs dp H Hs → RepB X.K dp H Hs d1 v1 → RepB X.K dp H Hs d2 v2 → rd d1 d2 P →
    (∀ d, P d → ∀ v H' Hs', Stp dp H Hs H' Hs' → Rep X.K dp Hs' d v → Q v H') → t v1 v2 H Q
theorem ds_aug {i : Nat} {x : Str} {op : Operator} {rd : RD2} {pos' : Pos} (hN : X.N.Nodup) (hi : X.N[i]? = some x) (hx : Loc X.env.scope x) (he : PEb X e me) (ho : PIpD X op rd)
    (hf : X.fn x = true ∨ X.env.scope.names.lookup x = some .local := by first | exact .inl rfl | exact .inr rfl | assumption) : PSd X W (.AugAssign (.Name x pos') op e pos) (augD i rd me) := by
  obtain ⟨t, ht, hd⟩ := ho
  refine PS.mono (ps_aug hN hi hx he ht hf) fun Dn σ H ⟨dp, H0, Hs0, Hb, Hs, ρ, DD, rl, hb, hm, eo⟩ => ?_
  unfold augD varD at hm
  split at hm
  · rename_i d1 e1
    obtain ⟨v1, ev, q1⟩ := rl.cells i _ e1
    refine ⟨v1, ev, dp, H0, Hs0, Hs, ρ, _, rl, hm, fun d2 hd2 v2 H1 Hs1 s1 q2 => ?_⟩
    exact hd dp H1 Hs1 d1 d2 v1 v2 _ _ s1.bs (Rep.b s1.bs _ _ (Rep.mono s1.ext _ _ q1)) q2 hd2 fun d h v H2 Hs2 s2 q => eo.nx _ _ H2 Hs2 h (((rl.step s1).step s2).set i q) (hb.trans (s1.ext.trans s2.ext))
  · exact hm.elim
theorem ip_int {op : Operator} {f : Int → Int → Int} (h : PIp X op (ipI f)) : PIpD X op (iopD (fun _ _ => True) fun i j => .int (f i j)) := ⟨_, h, fun dp H Hs d1 d2 v1 v2 P Q bs q1 q2 hd k => by
  unfold iopD at hd
  split at hd
  · exact ⟨_, _, q1.int, q2.int, k _ hd.2 _ H Hs (.refl bs) rep_int⟩
  · exact hd.elim⟩
theorem p_add : PIpD X .Add (iopD (fun _ _ => True) fun i j => .int (i + j)) := ip_int ip_add
theorem p_sub : PIpD X .Sub subD := ip_int ip_sub
/-- x.append(e), x.extend(e) of an owned list, as statements -/
def appD (i : Nat) (m : TEd) : TSd := fun DD ρ => match ρ[i]? with
  | some (.ow a (.lst ds)) => m ρ fun d => ds.length < sizeLine ∧ DD.nx (ρ.set i (.ow a (.lst (ds ++ [d]))))
  | _ => False
def extD (i : Nat) (m : TEd) : TSd := fun DD ρ => match ρ[i]? with
  | some (.ow a (.lst ds)) => m ρ fun d => match d with
    | .lst es => ds.length + es.length ≤ sizeLine ∧ DD.nx (ρ.set i (.ow a (.lst (ds ++ es))))
    | _ => False
  | _ => False
theorem owned_list {K : PySem.W.Frag} {dp : Option (Addr × Addr)} {H0 Hs0 H Hs : Hp} {σ : Sg} {ρ : Env} (rl : Rl K dp H0 Hs0 σ H Hs ρ) {i : Nat} {a : Addr} {ds : List D} (e : ρ[i]? = some (.ow a (.lst ds))) :
    σ[i]? = some (some (.ref a)) ∧ ∃ vs, H a = some (.lst vs) ∧ Reps K dp Hs ds vs := by
  obtain ⟨e1, ⟨vs, h1, h2⟩, _⟩ := rl.cells i _ e
  exact ⟨e1, vs, h1, h2⟩
def only1 (P : D → Prop) : List D → Prop
  | [d] => P d
  | _ => False
theorem arg1 {K : PySem.W.Frag} {dp : Option (Addr × Addr)} {H0 Hs0 H Hs : Hp} {σ : Sg} {ρ : Env} {P : D → Prop} {Q : List V → Hp → Prop} (rl : Rl K dp H0 Hs0 σ H Hs ρ) (hm : me ρ P)
    (k : ∀ d, P d → ∀ v H' Hs', Stp dp H Hs H' Hs' → Rep K dp Hs' d v → Q [v] H') : tA K (consA me nilA) σ H Q :=
  ⟨dp, H0, Hs0, Hs, ρ, only1 P, rl, hm, fun es hes ws H1 Hs1 s q => by
    match es, hes with
    | [d], hd =>
      obtain ⟨v, r, rfl, q1, q2⟩ := q.uncons
      cases q2.unnil
      exact k d hd v H1 Hs1 s q1⟩
theorem arg1b {K : PySem.W.Frag} {dp : Option (Addr × Addr)} {H0 Hs0 H Hs : Hp} {σ : Sg} {ρ : Env} {P : D → Prop} {Q : List V → Hp → Prop} (rl : Rl K dp H0 Hs0 σ H Hs ρ) (hm : me ρ P)
    (k : ∀ d, P d → ∀ v H' Hs', Stp dp H Hs H' Hs' → RepB K dp H' Hs' d v → Q [v] H') : tAB K (consA me nilA) σ H Q :=
  ⟨dp, H0, Hs0, Hs, ρ, only1 P, rl, hm, fun es hes ws H1 Hs1 s q => by
    match es, hes with
    | [d], hd =>
      obtain ⟨v, rfl, q1⟩ := rb1 q
      exact k d hd v H1 Hs1 s q1⟩
theorem ds_app {i : Nat} (h : PE X e (tBM X.K "list" rAppend (tVar i) (tA X.K (consA me nilA)))) (hsw : swapsWith e none pos.line X.env = pure false := by rfl) : PSd X W (.Expr e pos) (appD i me) := by
  refine PS.mono (ps_expr h hsw) fun Dn σ H ⟨dp, H0, Hs0, Hb, Hs, ρ, DD, rl, hb, hm, eo⟩ => ?_
  unfold appD at hm
  split at hm
  · rename_i a ds e1
    obtain ⟨ev, vs, h1, hr⟩ := owned_list rl e1
    refine ⟨.ref a, ev, .inl ⟨rfl, vs, .of h1⟩, arg1 rl hm fun d hd v H1 Hs1 s q => ?_⟩
    have rl1 := rl.step s
    obtain ⟨_, us, h2, hr2⟩ := owned_list rl1 e1
    refine ⟨a, us, v, rfl, rfl, h2, by rw [← hr2.length]; exact hd.1, ?_⟩
    exact eo.nx _ _ _ Hs1 hd.2 (rl1.put e1 ⟨_, upd_same, hr2.append (.cons q .nil)⟩) (hb.trans s.ext)
  · exact hm.elim
theorem ds_ext {i : Nat} (h : PE X e (tBM X.K "list" rExtend (tVar i) (tAB X.K (consA me nilA)))) (hsw : swapsWith e none pos.line X.env = pure false := by rfl) : PSd X W (.Expr e pos) (extD i me) := by
  refine PS.mono (ps_expr h hsw) fun Dn σ H ⟨dp, H0, Hs0, Hb, Hs, ρ, DD, rl, hb, hm, eo⟩ => ?_
  unfold extD at hm
  split at hm
  · rename_i a ds e1
    obtain ⟨ev, vs, h1, hr⟩ := owned_list rl e1
    refine ⟨.ref a, ev, .inl ⟨rfl, vs, .of h1⟩, arg1b rl hm fun d hd v H1 Hs1 s q => ?_⟩
    have rl1 := rl.step s
    obtain ⟨_, us, h2, hr2⟩ := owned_list rl1 e1
    split at hd
    · obtain ⟨b, zs, rfl, h3, hr3⟩ := q.lst
      refine ⟨a, b, us, zs, rfl, rfl, h2, h3, by rw [← hr2.length, ← hr3.length]; exact hd.1, ?_⟩
      exact eo.nx _ _ _ Hs1 hd.2 (rl1.put e1 ⟨_, upd_same, hr2.append hr3⟩) (hb.trans s.ext)
    · exact hd.elim
  · exact hm.elim
/-- x[k] = e of an owned list -/
def stiD (i : Nat) (mk mv : TEd) : TSd := fun DD ρ => mv ρ fun d => match ρ[i]? with
  | some (.ow a (.lst ds)) => mk ρ fun dk => match dk with
    | .int k => ∃ j, ixN ds.length k = some j ∧ DD.nx (ρ.set i (.ow a (.lst (ds.set j d))))
    | _ => False
  | _ => False
theorem ds_sti {i : Nat} {o ix : Expr} {p : Pos} {mk : TEd} (ho : PE X o (tVar i)) (hi : PEd X ix mk) (he : PEd X e mv) (hs : swapsWithSole [.Subscript o ix p] e pos.line X.env = pure false := by rfl) (hw : swappedStores [.Subscript o ix p] e X.env = pure none := by rfl)
    (ha : ∀ v, assign (.Subscript o ix p) X.env v = (do
      let ov ← holding [v] (eval o X.env)
      let iv ← holding [v, ov] (eval ix X.env)
      standAt p
      holding [v, ov, iv] (setItem ov iv v)
      release [v, ov, iv] []) := by intro _; rfl) (h1 : (assignEach [.Subscript o ix p] X.env).map (·.2) = [assign (.Subscript o ix p) X.env] := by rfl) :
    PSd X W (.Assign [.Subscript o ix p] e pos) (stiD i mk mv) := by
  refine PS.mono (ps_asg he (pg_sub ho hi set_list ha) hs hw h1) fun Dn σ H ⟨dp, H0, Hs0, Hb, Hs, ρ, DD, rl, hb, hm, eo⟩ => ?_
  refine ⟨dp, H0, Hs0, Hs, ρ, _, rl, hm, fun d hd v H1 Hs1 s q => ?_⟩
  have rl1 := rl.step s
  split at hd
  · rename_i a ds e1
    obtain ⟨ev, vs, h1, hr⟩ := owned_list rl1 e1
    refine ⟨.ref a, ev, dp, H0, Hs0, Hs1, ρ, _, rl1, hd, fun dk hk vk H2 Hs2 s2 q2 => ?_⟩
    have rl2 := rl1.step s2
    obtain ⟨_, us, h2, hr2⟩ := owned_list rl2 e1
    split at hk
    · obtain ⟨j, hj, hn⟩ := hk
      rw [q2.int']
      refine ⟨a, us, _, j, rfl, rfl, h2, by rw [← hr2.length]; exact hj, ?_⟩
      exact eo.nx _ _ _ Hs2 hn (rl2.put e1 ⟨_, upd_same, hr2.set j (Rep.mono s2.ext _ _ q)⟩) (hb.trans (s.ext.trans s2.ext))
    · exact hk.elim
  · exact hd.elim
end

/-! ### targets -/
abbrev TGd := D → Env → (Env → Prop) → Prop
abbrev TGsd := List D → Env → (Env → Prop) → Prop
def tG (K : PySem.W.Frag) (g : TGd) : TG := fun v σ H Q => ∃ dp H0 Hs0 Hs ρ d P, Rl K dp H0 Hs0 σ H Hs ρ ∧ Rep K dp Hs d v ∧ g d ρ P ∧ ∀ ρ' σ', P ρ' → Rl K dp H0 Hs0 σ' H Hs ρ' → Q σ' H
def tGs (K : PySem.W.Frag) (g : TGsd) : TGs := fun vs σ H Q => ∃ dp H0 Hs0 Hs ρ ds P, Rl K dp H0 Hs0 σ H Hs ρ ∧ Reps K dp Hs ds vs ∧ g ds ρ P ∧ ∀ ρ' σ', P ρ' → Rl K dp H0 Hs0 σ' H Hs ρ' → Q σ' H
def PGd (X : Cx) (e : Expr) (g : TGd) : Prop := PG X e (tG X.K g)
def PGsd (X : Cx) (es : List Expr) (g : TGsd) : Prop := PGs X es (tGs X.K g)
theorem PG.mono {X : Cx} {e : Expr} {t t' : TG} (h : PG X e t) (f : ∀ v σ H Q, t' v σ H Q → t v σ H Q) : PG X e t' := ⟨fun pins s σ H v u Q I r hw => h.run pins s σ H v u Q I r (f v σ H Q hw)⟩
theorem PGs.mono {X : Cx} {e : List Expr} {t t' : TGs} (h : PGs X e t) (f : ∀ v σ H Q, t' v σ H Q → t v σ H Q) : PGs X e t' := ⟨fun pins s σ H vs us Q I r hw => h.run pins s σ H vs us Q I r (f vs σ H Q hw)⟩
def gN (i : Nat) : TGd := fun d ρ P => P (ρ.set i (.sh d))
def gsNil : TGsd := fun ds ρ P => ds = [] ∧ P ρ
def gsCons (g : TGd) (gs : TGsd) : TGsd := fun ds ρ P => match ds with
  | d :: r => g d ρ fun ρ' => gs r ρ' P
  | [] => False
def gT (n : Nat) (gs : TGsd) : TGd := fun d ρ P => match d with
  | .tup xs => xs.length = n ∧ gs xs ρ P
  | _ => False
section
variable {X : Cx} {W : WX} {x : Str} {pos : Pos} {e : Expr} {es : List Expr} {g : TGd} {gs : TGsd} {me : TEd}
theorem dg_name {i : Nat} (hN : X.N.Nodup) (hi : X.N[i]? = some x) (hx : Loc X.env.scope x) (hf : X.fn x = true ∨ X.env.scope.names.lookup x = some .local := by first | exact .inl rfl | exact .inr rfl | assumption) : PGd X (.Name x pos) (gN i) :=
  PG.mono (pg_name hN hi hx hf) fun v σ H Q ⟨dp, H0, Hs0, Hs, ρ, d, P, rl, q, hm, k⟩ => k _ _ hm (rl.set i q)
theorem dgs_nil : PGsd X [] gsNil := PGs.mono pgs_nil fun vs σ H Q ⟨dp, H0, Hs0, Hs, ρ, ds, P, rl, q, hm, k⟩ => by
  obtain ⟨rfl, hp⟩ := hm
  exact ⟨q.unnil, k _ _ hp rl⟩
theorem dgs_cons (h1 : PGd X e g) (h2 : PGsd X es gs) (hs : (assignEach (e :: es) X.env).map (·.2) = assign e X.env :: (assignEach es X.env).map (·.2) := by rfl) : PGsd X (e :: es) (gsCons g gs) := PGs.mono (pgs_cons h1 h2 hs) fun vs σ H Q ⟨dp, H0, Hs0, Hs, ρ, ds, P, rl, q, hm, k⟩ => by
  unfold gsCons at hm
  split at hm
  · obtain ⟨v, r, rfl, q1, q2⟩ := q.uncons
    exact ⟨v, r, rfl, dp, H0, Hs0, Hs, ρ, _, _, rl, q1, hm, fun ρ' σ' hp rl' => ⟨dp, H0, Hs0, Hs, ρ', _, P, rl', q2, hp, k⟩⟩
  · exact hm.elim
theorem dg_tup {k : Nat} {n : Nat} (hc : X.calm = true) (h : PGsd X es gs) (hn : (assignEach es X.env).length = n := by rfl) (hst : (assignEach es X.env).findIdx? (·.1) = none := by rfl) : PGd X (.Tuple es k pos) (gT n gs) := PG.mono (pg_tup hc h hn hst) fun v σ H Q ⟨dp, H0, Hs0, Hs, ρ, d, P, rl, q, hm, k⟩ => by
  unfold gT at hm
  split at hm
  · obtain ⟨a, vs, rfl, h1, hr⟩ := q.unT
    exact ⟨a, vs, rfl, Same.seqT rl.bs.sub h1, by rw [← hr.length]; exact hm.1, dp, H0, Hs0, Hs, ρ, _, P, rl, hr, hm.2, k⟩
  · exact hm.elim
/-- target = e -/
def asgD (me : TEd) (g : TGd) : TSd := fun DD ρ => me ρ fun d => g d ρ DD.nx
theorem ds_asg {tg : Expr} (he : PEd X e me) (hg : PGd X tg g) (hs : swapsWithSole [tg] e pos.line X.env = pure false := by rfl) (hw : swappedStores [tg] e X.env = pure none := by rfl) (h1 : (assignEach [tg] X.env).map (·.2) = [assign tg X.env] := by rfl) : PSd X W (.Assign [tg] e pos) (asgD me g) :=
  PS.mono (ps_asg he hg hs hw h1) fun Dn σ H ⟨dp, H0, Hs0, Hb, Hs, ρ, DD, rl, hb, hm, eo⟩ => ⟨dp, H0, Hs0, Hs, ρ, _, rl, hm, fun d hd v H1 Hs1 s q => ⟨dp, H0, Hs0, Hs1, ρ, d, _, rl.step s, q, hd, fun ρ' σ' hp rl' => eo.nx _ _ _ _ hp rl' (hb.trans s.ext)⟩⟩

/-! ### loops -/
def forD (src : TId) (g : TGd) (body : TSd) : TSd := fun DD ρ => src ρ fun ds => ∃ Wd : Nat → Env → Prop, Wd 0 ρ ∧
  (∀ i d ρ', ds[i]? = some d → Wd i ρ' → g d ρ' fun ρ2 => body { DD with nx := Wd (i + 1), ct := Wd (i + 1), bk := DD.nx } ρ2) ∧ ∀ ρ', Wd ds.length ρ' → DD.nx ρ'
theorem ds_for {tg iter : Expr} {body : List Stmt} {src : TId} {mb : TSd} (hp : PassesOwn (model X.prog X.w) X.A X.env X.xe) (hc : X.calm = true) (hi : PId X tg iter src) (hg : PGd X tg g) (hb : PSsd X W body mb)
    (hs : ∀ x, foldedSetIterable iter X.env x = pure x := by intro _; rfl) : PSd X W (.For tg iter body [] pos) (forD src g mb) := by
  refine PS.mono (ps_for hp hc hi hg hb hs) fun Dn σ H ⟨dp, H0, Hs0, Hb, Hs, ρ, DD, rl, hbb, hm, eo⟩ => ?_
  refine ⟨dp, H0, Hs0, Hs, ρ, _, rl, hm, fun ds ⟨Wd, w0, turn, done⟩ J H1 Hs1 s1 it => ?_⟩
  refine ⟨fun i m σ' H' => m = ds.length - i ∧ i ≤ ds.length ∧ ∃ Hs' ρ', Rl X.K dp H0 Hs0 σ' H' Hs' ρ' ∧ Same Hs1 Hs' ∧ Wd i ρ', ⟨ds.length, rfl, Nat.zero_le _, Hs1, ρ, rl.step s1, Same.refl _, w0⟩, fun i m σ' H' ⟨hmm, hi, Hs', ρ', rl', sm, w⟩ => ?_⟩
  by_cases hlt : i < ds.length
  · refine .inr ⟨it.go _ _ sm rl'.bs i hlt, fun σ2 H2 => ∃ Hs2 ρ2, Rl X.K dp H0 Hs0 σ2 H2 Hs2 ρ2 ∧ Same Hs1 Hs2 ∧ Wd (i + 1) ρ2, fun σ2 H2 ⟨Hs2, ρ2, r2, sm2, w2⟩ => ⟨ds.length - (i + 1), by omega, rfl, hlt, Hs2, ρ2, r2, sm2, w2⟩, fun x H2 y => ?_⟩
    obtain ⟨Hs2, d, s2, hd, q⟩ := it.yld _ _ sm rl'.bs i hlt x H2 y
    refine ⟨dp, H0, Hs0, Hs2, ρ', d, _, rl'.step s2, q, turn i d ρ' hd w, fun ρ3 σ3 hb3 rl3 => ?_⟩
    refine ⟨dp, H0, Hs0, Hs1, Hs2, ρ3, _, rl3, sm.trans s2.ext, hb3, ⟨fun ρ4 σ4 H4 Hs4 h r4 sm4 => ⟨Hs4, ρ4, r4, sm4, h⟩, fun ρ4 σ4 H4 Hs4 h r4 sm4 => eo.nx _ _ _ _ h r4 (hbb.trans (s1.ext.trans sm4)), fun ρ4 σ4 H4 Hs4 h r4 sm4 => ⟨Hs4, ρ4, r4, sm4, h⟩, eo.rt, fun ρ4 C4 d4 h σ4 dx v H4 Hs4 r4 sm4 e q => eo.ex ρ4 C4 d4 h σ4 dx v H4 Hs4 r4 (hbb.trans (s1.ext.trans sm4)) e q⟩⟩
  · have hi' : i = ds.length := by omega
    subst hi'
    exact .inl ⟨it.stop _ _ sm rl'.bs _ (Nat.le_refl _), eo.nx _ _ _ _ (done _ w) rl' (hbb.trans (s1.ext.trans sm))⟩
def whileD (t : TTd) (body : TSd) : TSd := fun DD ρ => ∃ Wd : Nat → Env → Prop, (∃ m, Wd m ρ) ∧ ∀ m ρ', Wd m ρ' →
  t ρ' fun c => if c = true then body { DD with nx := fun ρ2 => ∃ m', m' < m ∧ Wd m' ρ2, ct := fun ρ2 => ∃ m', m' < m ∧ Wd m' ρ2, bk := DD.nx } ρ' else DD.nx ρ'
theorem ds_while {c : Expr} {body : List Stmt} {mt : TTd} {mb : TSd} (hp : PassesOwn (model X.prog X.w) X.A X.env X.xe) (hc : PTd X c mt) (hb : PSsd X W body mb) : PSd X W (.While c body [] pos) (whileD mt mb) := by
  refine PS.mono (ps_while hp hc hb) fun Dn σ H ⟨dp, H0, Hs0, Hb, Hs, ρ, DD, rl, hbb, ⟨Wd, ⟨m0, w0⟩, turn⟩, eo⟩ => ?_
  refine ⟨fun m σ' H' => ∃ Hs' ρ', Rl X.K dp H0 Hs0 σ' H' Hs' ρ' ∧ Same Hb Hs' ∧ Wd m ρ', ⟨m0, Hs, ρ, rl, hbb, w0⟩, fun m σ' H' ⟨Hs', ρ', rl', sm, w⟩ => ?_⟩
  refine ⟨dp, H0, Hs0, Hs', ρ', _, rl', turn m ρ' w, fun b hb2 H1 Hs1 s => ?_⟩
  cases b with
  | true =>
    rw [if_pos rfl] at hb2 ⊢
    refine ⟨fun σ2 H2 => ∃ m', m' < m ∧ ∃ Hs2 ρ2, Rl X.K dp H0 Hs0 σ2 H2 Hs2 ρ2 ∧ Same Hb Hs2 ∧ Wd m' ρ2, fun σ2 H2 ⟨m', hm, h⟩ => ⟨m', hm, h⟩, ?_⟩
    exact ⟨dp, H0, Hs0, Hb, Hs1, ρ', _, rl'.step s, sm.trans s.ext, hb2, ⟨fun ρ4 σ4 H4 Hs4 ⟨m', hm, h⟩ r4 sm4 => ⟨m', hm, Hs4, ρ4, r4, sm4, h⟩, fun ρ4 σ4 H4 Hs4 h r4 sm4 => eo.nx _ _ _ _ h r4 sm4, fun ρ4 σ4 H4 Hs4 ⟨m', hm, h⟩ r4 sm4 => ⟨m', hm, Hs4, ρ4, r4, sm4, h⟩, eo.rt, eo.ex⟩⟩
  | false =>
    rw [if_neg Bool.false_ne_true] at hb2 ⊢
    exact eo.nx _ _ _ _ hb2 (rl'.step s) (sm.trans s.ext)
end
end DL

set_option Elab.async false
set_option linter.all false
set_option autoImplicit false
set_option maxRecDepth 100000
set_option maxHeartbeats 4000000
namespace DL
open PySem PySem.Spec PyProof.Rows L2

/-! ### tests -/
section
variable {X : Cx} {e a b c : Expr} {rest : List Expr} {m ma mb mc : TEd} {mt mu : TTd} {pos : Pos}
theorem dt_val (h : PEd X e m) (he : ∀ whole, isTrue e X.env whole = (do let v ← whole; standAt e.pos; holding [v] (truthy v)) := by intro _; rfl) : PTd X e (tstD m) :=
  PT.mono (pt_val h he) fun σ H Q hh => tst_run (t := tD X.K m) (fun _ z => z) hh
/-- the truth of any value -/
def truD (m : TEd) : TTd := fun ρ P => m ρ fun d => match d with
  | .bl c => P c
  | .int i => P (i != 0)
  | .lst xs => P (!xs.isEmpty)
  | .tup xs => P (!xs.isEmpty)
  | .str x => x.length ≤ sizeLine ∧ P ((x.length : Int) != 0)
  | .non => P false
  | .scr xs => P (!xs.isEmpty)
  | _ => False
theorem isEmpty_reps {K : PySem.W.Frag} {dp : Option (Addr × Addr)} {H : Hp} {ds : List D} {vs : List V} (h : Reps K dp H ds vs) : (!vs.isEmpty) = !ds.isEmpty := by
  cases ds with
  | nil => rw [h.unnil]; rfl
  | cons d ds => obtain ⟨v, r, rfl, _⟩ := h.uncons; rfl
theorem dt_truth (h : PEb X e m) (he : ∀ whole, isTrue e X.env whole = (do let v ← whole; standAt e.pos; holding [v] (truthy v)) := by intro _; rfl) : PTd X e (truD m) := by
  refine PT.mono (pt_truth h he) fun σ H Q ⟨dp, H0, Hs0, Hs, ρ, P, rl, hm, k⟩ => ?_
  refine ⟨dp, H0, Hs0, Hs, ρ, _, rl, hm, fun d hd v H1 Hs1 s q => ?_⟩
  split at hd
  · rw [q.bl]; exact ⟨_, rfl, k _ hd H1 Hs1 s⟩
  · rw [q.int]; exact ⟨_, rfl, k _ hd H1 Hs1 s⟩
  · obtain ⟨a, vs, rfl, h1, hr⟩ := q.lst
    exact ⟨_, .inl ⟨vs, .of h1, rfl⟩, by rw [isEmpty_reps hr]; exact k _ hd H1 Hs1 s⟩
  · obtain ⟨a, vs, rfl, h1, hr⟩ := RepB.tp s.bs q
    exact ⟨_, .inr (.inl ⟨vs, h1, rfl⟩), by rw [isEmpty_reps hr]; exact k _ hd H1 Hs1 s⟩
  · rw [q.str]; exact ⟨_, ⟨hd.1, rfl⟩, k _ hd.2 H1 Hs1 s⟩
  · rw [q.non]; exact ⟨_, rfl, k _ hd H1 Hs1 s⟩
  · obtain ⟨a, rfl, h1⟩ := RepB.scr s.bs q
    refine ⟨_, .inl ⟨_, h1, rfl⟩, ?_⟩
    rw [List.isEmpty_map]
    exact k _ hd H1 Hs1 s
  · exact hd.elim
def andT (t u : TTd) : TTd := fun ρ P => t ρ fun c => if c = true then u ρ P else P false
def orT (t u : TTd) : TTd := fun ρ P => t ρ fun c => if c = true then P true else u ρ P
def notT (t : TTd) : TTd := fun ρ P => t ρ fun c => P (!c)
theorem dw_and1 (h : PTd X a mt) : PWd X (.BoolOp .And [a] pos) mt := pw_and1 h
theorem dw_or1 (h : PTd X a mt) : PWd X (.BoolOp .Or [a] pos) mt := pw_or1 h
theorem dw_and (h : PTd X a mt) (hb : PWd X (.BoolOp .And (b :: rest) pos) mu) : PWd X (.BoolOp .And (a :: b :: rest) pos) (andT mt mu) := PW.mono (pw_and h hb) fun σ H Q ⟨dp, H0, Hs0, Hs, ρ, P, rl, hm, k⟩ =>
  ⟨dp, H0, Hs0, Hs, ρ, _, rl, hm, fun c hc H1 Hs1 s => by
    cases c with
    | true => rw [if_pos rfl] at hc ⊢; exact ⟨dp, H0, Hs0, Hs1, ρ, P, rl.step s, hc, fun b hb H2 Hs2 s2 => k b hb H2 Hs2 (s.trans s2)⟩
    | false => rw [if_neg Bool.false_ne_true] at hc ⊢; exact k _ hc H1 Hs1 s⟩
theorem dw_or (h : PTd X a mt) (hb : PWd X (.BoolOp .Or (b :: rest) pos) mu) : PWd X (.BoolOp .Or (a :: b :: rest) pos) (orT mt mu) := PW.mono (pw_or h hb) fun σ H Q ⟨dp, H0, Hs0, Hs, ρ, P, rl, hm, k⟩ =>
  ⟨dp, H0, Hs0, Hs, ρ, _, rl, hm, fun c hc H1 Hs1 s => by
    cases c with
    | true => rw [if_pos rfl] at hc ⊢; exact k _ hc H1 Hs1 s
    | false => rw [if_neg Bool.false_ne_true] at hc ⊢; exact ⟨dp, H0, Hs0, Hs1, ρ, P, rl.step s, hc, fun b hb H2 Hs2 s2 => k b hb H2 Hs2 (s.trans s2)⟩⟩
theorem PWd.t (h : PWd X e mt) : PTd X e mt := PW.pt h
theorem dt_not (h : PTd X a mt) : PTd X (.UnaryOp .Not a pos) (notT mt) := PT.mono (pt_not h) fun σ H Q ⟨dp, H0, Hs0, Hs, ρ, P, rl, hm, k⟩ =>
  ⟨dp, H0, Hs0, Hs, ρ, _, rl, hm, fun c hc H1 Hs1 s => k _ hc H1 Hs1 s⟩
/-! ### and, or, not as values (of bools) -/
def andV (ma mb : TEd) : TEd := fun ρ P => ma ρ fun d => match d with
  | .bl c => if c = true then mb ρ P else P (.bl false)
  | _ => False
def orV (ma mb : TEd) : TEd := fun ρ P => ma ρ fun d => match d with
  | .bl c => if c = true then P (.bl true) else mb ρ P
  | _ => False
def notV (ma : TEd) : TEd := fun ρ P => ma ρ fun d => match d with
  | .bl c => P (.bl (!c))
  | _ => False
theorem d_one {op : BoolOp} (h : PEd X a m) : PEd X (.BoolOp op [a] pos) m := pe_one h
theorem d_and (ha : PEd X a ma) (hb : PEd X (.BoolOp .And (b :: rest) pos) mb) : PEd X (.BoolOp .And (a :: b :: rest) pos) (andV ma mb) := PE.mono (pe_and ha hb) fun σ H Q ⟨dp, H0, Hs0, Hs, ρ, P, rl, hm, k⟩ =>
  ⟨dp, H0, Hs0, Hs, ρ, _, rl, hm, fun d hd v H1 Hs1 s q => by
    cases d with
    | bl c =>
      refine ⟨c, by unfold Rep at q; exact q, ?_⟩
      cases c with
      | true => rw [if_pos rfl]; exact ⟨dp, H0, Hs0, Hs1, ρ, P, rl.step s, (by simpa using hd), fun d hd v H2 Hs2 s2 q2 => k d hd v H2 Hs2 (s.trans s2) q2⟩
      | false => rw [if_neg Bool.false_ne_true]; exact k _ (by simpa using hd) _ H1 Hs1 s rep_bl
    | _ => exact hd.elim⟩
theorem d_or (ha : PEd X a ma) (hb : PEd X (.BoolOp .Or (b :: rest) pos) mb) : PEd X (.BoolOp .Or (a :: b :: rest) pos) (orV ma mb) := PE.mono (pe_or ha hb) fun σ H Q ⟨dp, H0, Hs0, Hs, ρ, P, rl, hm, k⟩ =>
  ⟨dp, H0, Hs0, Hs, ρ, _, rl, hm, fun d hd v H1 Hs1 s q => by
    cases d with
    | bl c =>
      refine ⟨c, by unfold Rep at q; exact q, ?_⟩
      cases c with
      | true => rw [if_pos rfl]; exact k _ (by simpa using hd) _ H1 Hs1 s rep_bl
      | false => rw [if_neg Bool.false_ne_true]; exact ⟨dp, H0, Hs0, Hs1, ρ, P, rl.step s, (by simpa using hd), fun d hd v H2 Hs2 s2 q2 => k d hd v H2 Hs2 (s.trans s2) q2⟩
    | _ => exact hd.elim⟩
theorem d_not (ha : PEd X a ma) : PEd X (.UnaryOp .Not a pos) (notV ma) := PE.mono (pe_not ha) fun σ H Q ⟨dp, H0, Hs0, Hs, ρ, P, rl, hm, k⟩ =>
  ⟨dp, H0, Hs0, Hs, ρ, _, rl, hm, fun d hd v H1 Hs1 s q => by
    cases d with
    | bl c => exact ⟨c, by unfold Rep at q; exact q, k _ hd _ H1 Hs1 s rep_bl⟩
    | _ => exact hd.elim⟩
def ifeD (t : TTd) (ma mb : TEd) : TEd := fun ρ P => t ρ fun c => if c = true then ma ρ P else mb ρ P
theorem d_ife (hc : PTd X c mt) (ha : PEd X a ma) (hb : PEd X b mb) : PEd X (.IfExp c a b pos) (ifeD mt ma mb) := PE.mono (pe_ifExp hc ha hb) fun σ H Q ⟨dp, H0, Hs0, Hs, ρ, P, rl, hm, k⟩ =>
  ⟨dp, H0, Hs0, Hs, ρ, _, rl, hm, fun c hc H1 Hs1 s => by
    cases c with
    | true => rw [if_pos rfl] at hc ⊢; exact ⟨dp, H0, Hs0, Hs1, ρ, P, rl.step s, hc, fun d hd v H2 Hs2 s2 q2 => k d hd v H2 Hs2 (s.trans s2) q2⟩
    | false => rw [if_neg Bool.false_ne_true] at hc ⊢; exact ⟨dp, H0, Hs0, Hs1, ρ, P, rl.step s, hc, fun d hd v H2 Hs2 s2 q2 => k d hd v H2 Hs2 (s.trans s2) q2⟩⟩
def negD (m : TEd) : TEd := fun ρ P => m ρ fun d => match d with
  | .int i => P (.int (-i))
  | _ => False
theorem d_neg (ha : PEb X a m) : PEd X (.UnaryOp .USub a pos) (negD m) := PE.mono (pe_un un_neg ha) fun σ H Q ⟨dp, H0, Hs0, Hs, ρ, P, rl, hm, k⟩ =>
  ⟨dp, H0, Hs0, Hs, ρ, _, rl, hm, fun d hd v H1 Hs1 s q => by
    cases d with
    | int c => exact ⟨c, q.int, k _ hd _ H1 Hs1 s rep_int⟩
    | _ => exact hd.elim⟩
/-- a op b op' c -/
def chnD (rd rd' : RD2) (ma mb mc : TEd) : TEd := fun ρ P => ma ρ fun d1 => mb ρ fun d2 => rd d1 d2 fun z => match z with
  | .bl k => if k = true then mc ρ fun d3 => rd' d2 d3 P else P (.bl false)
  | _ => False
theorem chn_run {r r' : R2} {rd rd' : RD2} {op op' : CmpOp} (hr : ∀ (dp : Option (Addr × Addr)) (H Hs : Hp) (d1 d2 : D) (v1 v2 : V) (P : D → Prop) (Q : VK), Bs dp H Hs → RepB X.K dp H Hs d1 v1 → RepB X.K dp H Hs d2 v2 → rd d1 d2 P →
    (∀ d, P d → ∀ v H' Hs', Stp dp H Hs H' Hs' → Rep X.K dp Hs' d v → Q v H') → r v1 v2 H Q)
    (hr' : ∀ (dp : Option (Addr × Addr)) (H Hs : Hp) (d1 d2 : D) (v1 v2 : V) (P : D → Prop) (Q : VK), Bs dp H Hs → RepB X.K dp H Hs d1 v1 → RepB X.K dp H Hs d2 v2 → rd' d1 d2 P →
    (∀ d, P d → ∀ v H' Hs', Stp dp H Hs H' Hs' → Rep X.K dp Hs' d v → Q v H') → r' v1 v2 H Q) {σ : Sg} {H : Hp} {Q : VK} (h : tD X.K (chnD rd rd' ma mb mc) σ H Q) : tChain r r' (tB X.K ma) (tB X.K mb) (tB X.K mc) σ H Q := by
  obtain ⟨dp, H0, Hs0, Hs, ρ, P, rl, hm, k⟩ := h
  refine ⟨dp, H0, Hs0, Hs, ρ, _, rl, hm, fun d1 hd1 v1 H1 Hs1 s1 q1 => ?_⟩
  refine ⟨dp, H0, Hs0, Hs1, ρ, _, rl.step s1, hd1, fun d2 hd2 v2 H2 Hs2 s2 q2 => ?_⟩
  refine hr dp H2 Hs2 d1 d2 v1 v2 _ _ s2.bs (RepB.step s1.bs s2 _ _ q1) q2 hd2 fun z hz v3 H3 Hs3 s3 q3 => ?_
  cases z with
  | bl c =>
    refine ⟨c, by unfold Rep at q3; exact q3, ?_⟩
    cases c with
    | true =>
      rw [if_pos rfl]
      refine ⟨dp, H0, Hs0, Hs3, ρ, _, (rl.step s1).step (s2.trans s3), (by simpa using hz), fun d3 hd3 v4 H4 Hs4 s4 q4 => ?_⟩
      exact hr' dp H4 Hs4 d2 d3 v2 v4 P Q s4.bs (RepB.step s2.bs (s3.trans s4) _ _ q2) q4 hd3 fun d hd v H5 Hs5 s5 q5 => k d hd v H5 Hs5 (s1.trans (s2.trans (s3.trans (s4.trans s5)))) q5
    | false =>
      rw [if_neg Bool.false_ne_true]
      exact k _ (by simpa using hz) _ H3 Hs3 (s1.trans (s2.trans s3)) rep_bl
  | _ => exact hz.elim
end
section
variable {X : Cx} {e a b c : Expr} {ma mb mc : TEd} {pos : Pos} {op op' : CmpOp} {rd rd' : RD2}
theorem d_chain (ho : OpD X (compareOp op) rd) (ho' : OpD X (compareOp op') rd') (ha : PEb X a ma) (hb : PEb X b mb) (hc : PEb X c mc) (hm : lastMarks [op, op'] [b, c] = false := by rfl) : PEd X (.Compare a [op, op'] [b, c] pos) (chnD rd rd' ma mb mc) := by
  obtain ⟨r, hr, hd⟩ := ho
  obtain ⟨r', hr', hd'⟩ := ho'
  exact PE.mono (pe_chain hr hr' ha hb hc hm) fun σ H Q h => chn_run (op := op) (op' := op') hd hd' h
theorem dt_chain (ho : OpD X (compareOp op) rd) (ho' : OpD X (compareOp op') rd') (ha : PEb X a ma) (hb : PEb X b mb) (hc : PEb X c mc) (hm : lastMarks [op, op'] [b, c] = false := by rfl) : PTd X (.Compare a [op, op'] [b, c] pos) (tstD (chnD rd rd' ma mb mc)) := by
  obtain ⟨r, hr, hd⟩ := ho
  obtain ⟨r', hr', hd'⟩ := ho'
  exact PT.mono (pt_chain hr hr' ha hb hc hm) fun σ H Q h => tst_run (t := tChain r r' (tB X.K ma) (tB X.K mb) (tB X.K mc)) (fun Q h => chn_run (op := op) (op' := op') hd hd' h) h
end

/-! ### list comprehensions with one for -/
def wipeD (ρ : Env) : List Nat → Env
  | [] => ρ
  | v :: vs => (wipeD ρ vs).set v .no
theorem Rl.wipe {K : PySem.W.Frag} {dp : Option (Addr × Addr)} {H0 Hs0 H Hs : Hp} {σ : Sg} {ρ : Env} (r : Rl K dp H0 Hs0 σ H Hs ρ) : ∀ vs : List Nat, Rl K dp H0 Hs0 (L2.wipe σ vs) H Hs (wipeD ρ vs)
  | [] => r
  | v :: vs => (r.wipe vs).wipe1 v none
theorem wipe_set {σ : Sg} {i : Nat} {o : Option V} : ∀ {vs : List Nat}, i ∈ vs → L2.wipe (σ.set i o) vs = L2.wipe σ vs
  | v :: vs, h => by
    show (L2.wipe (σ.set i o) vs).set v none = (L2.wipe σ vs).set v none
    by_cases hm : i ∈ vs
    · rw [wipe_set hm]
    · have hv : i = v := by
        rcases List.mem_cons.mp h with h | h
        · exact h
        · exact absurd h hm
      subst hv
      have key : ∀ (vs : List Nat), i ∉ vs → L2.wipe (σ.set i o) vs = (L2.wipe σ vs).set i o := fun vs => by
        induction vs with
        | nil => intro _; rfl
        | cons w ws ih =>
          intro hn
          have h1 : i ≠ w := fun z => hn (by rw [z]; exact List.mem_cons_self)
          have h2 : i ∉ ws := fun z => hn (List.mem_cons_of_mem _ z)
          show (L2.wipe (σ.set i o) ws).set w none = ((L2.wipe σ ws).set w none).set i o
          rw [ih h2, List.set_comm _ _ h1]
      rw [key vs hm, List.set_set]
theorem wipe_comm {σ : Sg} {i : Nat} : ∀ (vs : List Nat), L2.wipe (σ.set i none) vs = (L2.wipe σ vs).set i none
  | [] => rfl
  | v :: vs => by
    show (L2.wipe (σ.set i none) vs).set v none = ((L2.wipe σ vs).set v none).set i none
    rw [wipe_comm vs]
    by_cases h : i = v
    · rw [h]
    · rw [List.set_comm _ _ h]
theorem wipe_wipe (σ : Sg) : ∀ (vs : List Nat), L2.wipe (L2.wipe σ vs) vs = L2.wipe σ vs
  | [] => rfl
  | v :: vs => by
    show (L2.wipe ((L2.wipe σ vs).set v none) vs).set v none = (L2.wipe σ vs).set v none
    rw [wipe_comm vs, wipe_wipe σ vs, List.set_set]
/-- a target that stores into the slots vs alone -/
def TgB (K : PySem.W.Frag) (g : TG) (vs : List Nat) (gd : TGd) : Prop := ∀ (dp : Option (Addr × Addr)) (H0 Hs0 H Hs : Hp) (σ : Sg) (ρ : Env) (d : D) (v : V) (P : Env → Prop) (Q : Sg → Hp → Prop), Rl K dp H0 Hs0 σ H Hs ρ → Rep K dp Hs d v → gd d ρ P →
  (∀ ρ' σ', P ρ' → Rl K dp H0 Hs0 σ' H Hs ρ' → L2.wipe σ' vs = L2.wipe σ vs → Q σ' H) → g v σ H Q
def TgsB (K : PySem.W.Frag) (g : TGs) (vs : List Nat) (gd : TGsd) : Prop := ∀ (dp : Option (Addr × Addr)) (H0 Hs0 H Hs : Hp) (σ : Sg) (ρ : Env) (ds : List D) (us : List V) (P : Env → Prop) (Q : Sg → Hp → Prop), Rl K dp H0 Hs0 σ H Hs ρ → Reps K dp Hs ds us → gd ds ρ P →
  (∀ ρ' σ', P ρ' → Rl K dp H0 Hs0 σ' H Hs ρ' → L2.wipe σ' vs = L2.wipe σ vs → Q σ' H) → g us σ H Q
theorem tg_name {K : PySem.W.Frag} {i : Nat} {vs : List Nat} (hi : i ∈ vs := by decide) : TgB K (gName i) vs (gN i) := fun dp H0 Hs0 H Hs σ ρ d v P Q rl q hm k => k _ _ hm (rl.set i q) (wipe_set hi)
theorem tgs_nil {K : PySem.W.Frag} {vs : List Nat} : TgsB K gNil vs gsNil := fun dp H0 Hs0 H Hs σ ρ ds us P Q rl q hm k => by
  obtain ⟨rfl, hp⟩ := hm
  exact ⟨q.unnil, k _ _ hp rl rfl⟩
theorem tgs_cons {K : PySem.W.Frag} {vs : List Nat} {g : TG} {u : TGs} {gd : TGd} {ud : TGsd} (h : TgB K g vs gd) (t : TgsB K u vs ud) : TgsB K (gCons g u) vs (gsCons gd ud) := fun dp H0 Hs0 H Hs σ ρ ds us P Q rl q hm k => by
  unfold gsCons at hm
  split at hm
  · obtain ⟨v, r, rfl, q1, q2⟩ := q.uncons
    exact ⟨v, r, rfl, h dp H0 Hs0 H Hs σ ρ _ v _ _ rl q1 hm fun ρ' σ' hp rl' hw => t dp H0 Hs0 H Hs σ' ρ' _ r P Q rl' q2 hp fun ρ2 σ2 hp2 rl2 hw2 => k ρ2 σ2 hp2 rl2 (hw2.trans hw)⟩
  · exact hm.elim
theorem tg_tup {K : PySem.W.Frag} {vs : List Nat} {n : Nat} {u : TGs} {ud : TGsd} (t : TgsB K u vs ud) : TgB K (gTup K n u) vs (gT n ud) := fun dp H0 Hs0 H Hs σ ρ d v P Q rl q hm k => by
  unfold gT at hm
  split at hm
  · obtain ⟨a, us, rfl, h1, hr⟩ := q.unT
    exact ⟨a, us, rfl, Same.seqT rl.bs.sub h1, by rw [← hr.length]; exact hm.1, t dp H0 Hs0 H Hs σ ρ _ us P Q rl hr hm.2 k⟩
  · exact hm.elim
theorem PTs.mono {X : Cx} {ifs : List Expr} {t t' : TT} (h : PTs X ifs t) (f : ∀ σ H Q, t' σ H Q → t σ H Q) : PTs X ifs t' := ⟨fun pins s σ H Q I hw => h.run pins s σ H Q I (f σ H Q hw)⟩
def PTsd (X : Cx) (ifs : List Expr) (m : TTd) : Prop := PTs X ifs (tT X.K m)
def yesT : TTd := fun _ P => P true
theorem dts_nil {X : Cx} : PTsd X [] yesT := PTs.mono pts_nil fun σ H Q ⟨dp, H0, Hs0, Hs, ρ, P, rl, hm, k⟩ => k true hm H Hs (.refl rl.bs)
theorem dts_one {X : Cx} {c : Expr} {m : TTd} (h : PTd X c m) : PTsd X [c] m := pts_one h
theorem Stp.poke {dp : Option (Addr × Addr)} {H Hs H' Hs' : Hp} {a : Addr} {o : HO} (s : Stp dp H Hs H' Hs') (hn : H a = none) (hs : Hs' a = none) (hd : ¬ isDk dp a) : Stp dp H Hs (upd H' a o) Hs' := by
  refine ⟨s.ext, s.new, fun x u h1 h2 h3 => ?_, ⟨fun x u h => ?_, fun p hp => ?_, s.bs.dkn⟩⟩
  · rw [upd_ne (ne_of_none h1 hn)]; exact s.frm x u h1 h2 h3
  · rw [upd_ne (ne_of_none h hs)]; exact s.bs.sub x u h
  · obtain ⟨g0, gs, c, s', g1, g2, g3⟩ := s.bs.dk p hp
    refine ⟨g0, gs, c, s', ?_, ?_, g3⟩
    · rw [upd_ne (fun z => hd ⟨p, hp, .inl z.symm⟩)]; exact g1
    · rw [upd_ne (fun z => hd ⟨p, hp, .inr z.symm⟩)]; exact g2
def lcD (src : TId) (gd : TGd) (mt : TTd) (me : TEd) (vs : List Nat) : TEd := fun ρ P => src ρ fun ds => ∃ I : Nat → List D → Prop, I 0 [] ∧
  (∀ i d acc, ds[i]? = some d → I i acc → gd d (wipeD ρ vs) fun ρ2 => mt ρ2 fun b => if b = true then me ρ2 fun y => acc.length < sizeLine ∧ I (i + 1) (acc ++ [y]) else I (i + 1) acc) ∧ ∀ acc, I ds.length acc → P (.lst acc)
theorem lc_run {K : PySem.W.Frag} {src : TId} {g : TG} {gd : TGd} {mt : TTd} {me : TEd} {vs : List Nat} {σ : Sg} {H : Hp} {Q : VK} (hgd : TgB K g vs gd) (h : tF K (lcD src gd mt me vs) σ H Q) : tLc (tI K src) g (tT K mt) (tD K me) vs σ H Q := by
  obtain ⟨dp, H0, Hs0, Hs, ρ, P, rl, hm, k⟩ := h
  refine ⟨dp, H0, Hs0, Hs, ρ, _, rl, hm, fun ds ⟨I, i0, turn, done⟩ J H1 Hs1 s1 it Da hDa => ?_⟩
  have ndk : ¬ isDk dp Da := free_ndk s1.bs hDa
  refine ⟨fun i m H' => m = ds.length - i ∧ i ≤ ds.length ∧ ∃ Hs' acc us, Stp dp H1 Hs1 H' Hs' ∧ H' Da = some (.lst us) ∧ Hs' Da = none ∧ Reps K dp Hs' acc us ∧ I i acc,
    ⟨ds.length, rfl, Nat.zero_le _, Hs1, [], [], .laidO s1.bs hDa, upd_same, s1.bs.sub.free hDa, .nil, i0⟩, fun i m H' ⟨hmm, hi, Hs', acc, us, S, hD, hDs, hr, w⟩ => ?_⟩
  by_cases hlt : i < ds.length
  · refine .inr ⟨it.go _ _ S.ext S.bs i hlt, fun H2 => ∃ Hs2 acc2 us2, Stp dp H1 Hs1 H2 Hs2 ∧ H2 Da = some (.lst us2) ∧ Hs2 Da = none ∧ Reps K dp Hs2 acc2 us2 ∧ I (i + 1) acc2, fun H2 h => ⟨ds.length - (i + 1), by omega, rfl, hlt, h⟩, fun x H2 y => ?_⟩
    obtain ⟨Hs2, d, s2, hd, q⟩ := it.yld _ _ S.ext S.bs i hlt x H2 y
    have rlw := (((rl.step s1).step S).step s2).wipe vs
    refine hgd dp H0 Hs0 H2 Hs2 _ _ d x _ _ rlw q (turn i d acc hd w) fun ρ2 σ2 hp2 rl2 hw2 => ⟨by rw [hw2]; exact wipe_wipe σ vs, ?_⟩
    refine ⟨dp, H0, Hs0, Hs2, ρ2, _, rl2, hp2, fun b hb H3 Hs3 s3 => ?_⟩
    have hD3 : H3 Da = some (.lst us) := top_step (s2.trans s3) S.bs hD ndk
    have hDs3 : Hs3 Da = none := (s2.trans s3).new Da (by rw [hD]; simp) hDs
    cases b with
    | true =>
      rw [if_pos rfl] at hb
      refine iteT ?_
      refine ⟨dp, H0, Hs0, Hs3, ρ2, _, rl2.step s3, hb, fun y hy v H4 Hs4 s4 q4 => ?_⟩
      have hD4 : H4 Da = some (.lst us) := top_step s4 s3.bs hD3 ndk
      have hDs4 : Hs4 Da = none := s4.new Da (by rw [hD3]; simp) hDs3
      refine ⟨us, hD4, by rw [← hr.length]; exact hy.1, Hs4, acc ++ [y], us ++ [v], (S.trans (s2.trans (s3.trans s4))).poke hDa hDs4 ndk, upd_same, hDs4, (Reps.mono (s2.trans (s3.trans s4)).ext _ _ hr).append (.cons q4 .nil), hy.2⟩
    | false =>
      rw [if_neg Bool.false_ne_true] at hb
      refine iteF ?_
      exact ⟨Hs3, acc, us, S.trans (s2.trans s3), hD3, hDs3, Reps.mono (s2.trans s3).ext _ _ hr, hb⟩
  · have hi' : i = ds.length := by omega
    subst hi'
    exact .inl ⟨it.stop _ _ S.ext S.bs _ (Nat.le_refl _), k _ (done _ w) Da H' Hs' (s1.trans S) ⟨us, hD, hr⟩ hDs (back_none rl.bs s1 hDa ndk) ndk⟩
section
variable {X : Cx} {W : WX} {elt tg iter : Expr} {ifs : List Expr} {scope : Scope} {own : List (Str × Nat)} {pos : Pos} {src : TId} {g : TG} {gd : TGd} {mt : TTd} {me : TEd}
theorem f_lc (hc : X.calm = true) (hN : X.N.Nodup) (hi : PId X tg iter src) (ok : BlkOk X.N X.env.scope scope own)
    (hg : ∀ (s : Shared) (H : Hp) (C : Addr) (cl : List (Str × Addr)) (fp : List Addr), PG (X.blk s H scope (compEnvC scope cl C X.env) fp) tg g) (hgd : TgB X.K g (own.map (·.2)) gd)
    (ht : ∀ (s : Shared) (H : Hp) (C : Addr) (cl : List (Str × Addr)) (fp : List Addr), PTsd (X.blk s H scope (compEnvC scope cl C X.env) fp) ifs mt)
    (he : ∀ (s : Shared) (H : Hp) (C : Addr) (cl : List (Str × Addr)) (fp : List Addr), PEd (X.blk s H scope (compEnvC scope cl C X.env) fp) elt me) (hs : ∀ x, foldedSetIterable iter X.env x = pure x := by intro _; rfl) :
    PEf X (.ListComp elt [⟨tg, iter, ifs, 0⟩] scope pos) (lcD src gd mt me (own.map (·.2))) :=
  PE.mono (pe_lc (tt := tT X.K mt) (te := tD X.K me) hc hN hi ok hg ht he hs) fun σ H Q h => lc_run hgd h
theorem set_run {K : PySem.W.Frag} {t : TE} {m : TEd} {i : Nat} {Dn : Ends} {σ : Sg} {H : Hp} (f : ∀ σ H Q, tF K m σ H Q → t σ H Q) (h : tS K W (setD i m) Dn σ H) : tAsg t (gName i) Dn σ H := by
  obtain ⟨dp, H0, Hs0, Hb, Hs, ρ, DD, rl, hb, hm, eo⟩ := h
  refine f σ H _ ⟨dp, H0, Hs0, Hs, ρ, _, rl, hm, fun d hd a H' Hs' s q hs hn hdk => ?_⟩
  obtain ⟨o, h1, h2⟩ := OwnRep.top q
  have s' := s.share h1 hs hn hdk
  exact eo.nx _ _ H' _ hd ((rl.step s').set i (h2 _ (same_share hs) upd_same)) (hb.trans s'.ext)
/-- name = [..] on one line -/
theorem ds_setLc {i : Nat} {y : Str} {py spos : Pos} (hc : X.calm = true) (hN : X.N.Nodup) (hy : X.N[i]? = some y) (hyl : X.env.scope.names.lookup y = some .local)
    (hsw : swapsWith (.ListComp elt [⟨tg, iter, ifs, 0⟩] scope pos) (some (.Name y py)) spos.line X.env = pure true) (hi : PId X tg iter src) (ok : BlkOk X.N X.env.scope scope own)
    (hg : ∀ (s : Shared) (H : Hp) (C : Addr) (cl : List (Str × Addr)) (fp : List Addr), PG (X.blk s H scope (compEnvC scope cl C X.env) fp) tg g) (hgd : TgB X.K g (own.map (·.2)) gd)
    (ht : ∀ (s : Shared) (H : Hp) (C : Addr) (cl : List (Str × Addr)) (fp : List Addr), PTsd (X.blk s H scope (compEnvC scope cl C X.env) fp) ifs mt)
    (he : ∀ (s : Shared) (H : Hp) (C : Addr) (cl : List (Str × Addr)) (fp : List Addr), PEd (X.blk s H scope (compEnvC scope cl C X.env) fp) elt me) (hs : ∀ x, foldedSetIterable iter X.env x = pure x := by intro _; rfl) :
    PSd X W (.Assign [.Name y py] (.ListComp elt [⟨tg, iter, ifs, 0⟩] scope pos) spos) (setD i (lcD src gd mt me (own.map (·.2)))) :=
  PS.mono (ps_setLc (tt := tT X.K mt) (te := tD X.K me) hc hN hy hyl hsw hi ok hg ht he hs) fun Dn σ H h => set_run (fun σ H Q h => lc_run hgd h) h
end
end DL

set_option Elab.async false
set_option linter.all false
set_option autoImplicit false
set_option maxRecDepth 100000
set_option maxHeartbeats 4000000
namespace DL
open PySem PySem.Spec PyProof.Rows L2

/-! ### a def keeps its promise -/
def startD (N : List Str) (ds : List D) : Env := ds.map .sh ++ List.replicate (N.length - ds.length) .no
abbrev W0 : WX := fun _ _ _ _ => False
theorem start_rl {K : PySem.W.Frag} {dp : Option (Addr × Addr)} {H Hs : Hp} (bs : Bs dp H Hs) {N : List Str} {ds : List D} {vs : List V} (h : Reps K dp Hs ds vs) : Rl K dp H Hs (L2.start N vs) H Hs (startD N ds) where
  stp := .refl bs
  len := by unfold startD L2.start; simp [h.length]
  cells := fun i c e => by
    unfold startD at e
    by_cases hi : i < ds.length
    · rw [List.getElem?_append_left (by simpa using hi), List.getElem?_map] at e
      obtain ⟨v, hv, q⟩ := h.get (i := i) (d := ds[i]) (by simp [hi])
      rw [List.getElem?_eq_getElem hi] at e
      cases e
      refine ⟨v, ?_, q⟩
      unfold L2.start
      rw [List.getElem?_append_left (by rw [List.length_map, ← h.length]; exact hi), List.getElem?_map, hv]; rfl
    · rw [List.getElem?_append_right (by simpa using Nat.le_of_not_lt hi)] at e
      have : c = .no := by
        have := List.mem_of_getElem? e
        exact (List.mem_replicate.mp this).2
      subst this
      trivial
  dist := fun i j a d d' e _ => by
    exfalso
    have : Cell.ow a d ∈ startD N ds := List.mem_of_getElem? e
    unfold startD at this
    rcases List.mem_append.mp this with h | h
    · obtain ⟨x, _, hx⟩ := List.mem_map.mp h; cases hx
    · cases (List.mem_replicate.mp h).2
section
variable {P : Program} {w : World} {K : PySem.W.Frag} {mg : Str → Option Value} {base : Heap}
/-- a def without errors -/
theorem fn_mk {x qual : Str} {st : Stmt} {f : Addr} {fd : FuncData} {N ps : List Str} {k : Nat} {S : SpD} (F : Fun K x qual st f fd) (sc : FnScope N ps (defScope st)) (len : ∀ ds P PX, S ds P PX → ds.length = ps.length)
    (hbody : ∃ m, (∀ (cdv : Value) (A : Around) (outer : List PySem.Env) (s : Shared) (H : Hp) (E : XK), Room k (A.deeper (envOfC qual (defScope st) s.heap.objs.size f cdv)) → PSsd (cxOf (L2.CX P w) P w K mg base N qual (defScope st) f cdv A outer s H E).nox W0 (defBody st) m) ∧
      ∀ ds P, S ds P X0 → m { nx := fun _ => P .non, rt := P, ex := fun _ => X0 } (startD N ds)) (hx : ∀ ds P PX, S ds P PX → S ds P X0) :
    FnOk P w K mg base (L2.CX P w) (k + 1) f fd ps (spOf K S) := by
  obtain ⟨m, hm, hp⟩ := hbody
  refine F.okX sc (fun vs H Q E ⟨dp, Hs, ds, Pd, PX, bs, hr, h, _⟩ => by rw [← hr.length]; exact len _ _ _ h) (fun cdv A outer s H vs Q E hr h => ?_)
  obtain ⟨dp, Hs, ds, Pd, PX, bs, hreps, h, k1, k2⟩ := h
  refine ⟨_, PSs.nox (hm cdv A outer s H E hr), ?_⟩
  exact ⟨dp, H, Hs, Hs, Hs, startD N ds, _, start_rl bs hreps, Same.refl _, hp ds Pd (hx _ _ _ h),
    ⟨fun ρ σ H' Hs' hn rl _ => k1 _ hn _ H' Hs' rl.stp rep_non, fun _ _ _ _ z => z.elim, fun _ _ _ _ z => z.elim, fun d hd v H' Hs' s q => k1 d hd v H' Hs' s q, fun _ C d z => z.elim⟩⟩
theorem Fd.mk {x qual : Str} {f : Addr} {fd : FuncData} {ps : List Str} {k : Nat} {S : SpD} (h : FnOk P w K mg base (L2.CX P w) k f fd ps (spOf K S)) (hm : mg x = some (.ref f)) (hk : PySem.W.keepIn K (.ref f) = true) (hb : Binds K fd ps []) : Fd P w K mg base x k ps S :=
  ⟨f, fd, h, hm, hk, hb⟩
end

/-! ### instances -/
def attrD (ns : List Str) (ds : List D) (f : Str) : Option D := (ns.zip ds).lookup f
theorem Reps.attr {K : PySem.W.Frag} {dp : Option (Addr × Addr)} {H : Hp} {f : Str} {d : D} : ∀ {ns : List Str} {ds : List D} {gs : List (Str × V)}, gs.map (·.1) = ns → Reps K dp H ds (gs.map (·.2)) → attrD ns ds f = some d → ∃ v, gs.lookup f = some v ∧ Rep K dp H d v
  | ns, ds, [], h1, h2, h3 => by
    subst h1
    unfold attrD at h3
    cases h3
  | ns, ds, (g, x) :: gs, h1, h2, h3 => by
    subst h1
    cases ds with
    | nil => exact absurd h2.unnil (by simp)
    | cons d0 ds =>
      obtain ⟨v, r, e, q1, q2⟩ := h2.uncons
      have e1 : x = v := (List.cons.inj e).1
      have e2 : gs.map (·.2) = r := (List.cons.inj e).2
      subst e1
      rw [← e2] at q2
      unfold attrD at h3
      rw [List.map_cons, List.zip_cons_cons, List.lookup_cons] at h3
      rw [List.lookup_cons]
      split
      · rename_i hf
        simp only [hf] at h3
        cases h3
        exact ⟨x, rfl, q1⟩
      · rename_i hf
        simp only [hf] at h3
        exact Reps.attr rfl q2 h3
/-- e.f, an attribute of an instance of the class at C -/
def fldD (C : Addr) (f : Str) (m : TEd) : TEd := fun ρ P => m ρ fun d => match d with
  | .ins C' ns ds => C' = C ∧ ∃ x, attrD ns ds f = some x ∧ P x
  | _ => False
section
variable {X : Cx} {W : WX} {e : Expr} {es : List Expr} {m me : TEd} {ms : TAd} {C : Addr} {f mn : Str} {pos apos p : Pos} {k : Nat} {ps : List Str} {S : SpD}
theorem d_fld (c : Cls X.K C) (n : NoAttr X.K C f) (he : PEb X e m) (hb : attributeBase e f X.env (eval e X.env) = eval e X.env := by rfl) : PEd X (.Attribute e f pos) (fldD C f m) :=
  PE.mono (pe_fld he hb) fun σ H Q ⟨dp, H0, Hs0, Hs, ρ, P, rl, hm, k⟩ => ⟨dp, H0, Hs0, Hs, ρ, _, rl, hm, fun d hd v H1 Hs1 s q => by
    cases d with
    | ins C' ns ds =>
      obtain ⟨rfl, x, ha, hp⟩ := hd
      obtain ⟨a, dx, gs, rfl, h1, _, h2, h3⟩ := q
      obtain ⟨v, hv, qv⟩ := Reps.attr h2 h3 ha
      exact ⟨a, C', dx, gs, v, rfl, h1, c, n, hv, k _ hp _ H1 Hs1 s qv⟩
    | _ => exact hd.elim⟩
/-- the class (or one above it) has f as a property that keeps S -/
def Pd (P : Program) (w : World) (K : PySem.W.Frag) (mg : Str → Option Value) (base : Heap) (C : Addr) (f : Str) (k : Nat) (S : SpD) : Prop :=
  ∃ (p g : Addr) (fd : FuncData), FnOk P w K mg base (L2.CX P w) k g fd ["self"] (spOf K S) ∧ PropOf K C f p g ∧ Binds K fd ["self"] []
/-- .. as a method -/
def Md (P : Program) (w : World) (K : PySem.W.Frag) (mg : Str → Option Value) (base : Heap) (C : Addr) (f : Str) (k : Nat) (ps : List Str) (S : SpD) : Prop :=
  ∃ (g : Addr) (fd : FuncData), FnOk P w K mg base (L2.CX P w) k g fd ps (spOf K S) ∧ Meth K C f g ∧ Binds K fd ps []
def insOf (C : Addr) (d : D) : Prop := match d with
  | .ins C' _ _ => C' = C
  | _ => False
def prpD (C : Addr) (S : SpD) (m : TEd) : TEd := fun ρ P => m ρ fun d => insOf C d ∧ S [d] P X0
theorem insOf_rep {K : PySem.W.Frag} {dp : Option (Addr × Addr)} {H Hs : Hp} (bs : Bs dp H Hs) {d : D} {v : V} (h : insOf C d) (q : Rep K dp Hs d v) : ∃ a dx gs, v = .ref a ∧ H a = some (.ins C dx gs) := by
  cases d with
  | ins C' ns ds =>
    have : C' = C := h
    subst this
    unfold Rep at q
    obtain ⟨a, dx, gs, rfl, h1, _⟩ := q
    exact ⟨a, dx, gs, rfl, bs.sub _ _ h1⟩
  | _ => exact h.elim
theorem d_prop (c : Cls X.K C) (G : Pd X.prog X.w X.K X.mg X.base C f k S) (hr : Room (k + 1) X.A) (he : PEd X e m) (hb : attributeBase e f X.env (eval e X.env) = eval e X.env := by rfl) : PEd X (.Attribute e f pos) (prpD C S m) := by
  obtain ⟨p, g, fd, F, hp, hbi⟩ := G
  refine PE.mono (pe_prop he c hp F hr hbi .nil passL hb) fun σ H Q ⟨dp, H0, Hs0, Hs, ρ, P, rl, hm, k⟩ => ⟨dp, H0, Hs0, Hs, ρ, _, rl, hm, fun d hd v H1 Hs1 s q => ?_⟩
  obtain ⟨a, dx, gs, rfl, h1⟩ := insOf_rep s.bs hd.1 q
  exact ⟨a, dx, gs, rfl, h1, dp, Hs1, [d], P, X0, s.bs, .cons q .nil, hd.2, fun d2 hd2 v2 H2 Hs2 s2 q2 => k d2 hd2 v2 H2 Hs2 (s.trans s2) q2, fun C d hx => hx.elim⟩
/-- o.m(..) -/
def mthD (C : Addr) (mn : Str) (S : SpD) (m : TEd) (ms : TAd) : TEd := fun ρ P => m ρ fun d => (match d with
  | .ins C' ns _ => C' = C ∧ mn ∉ ns
  | _ => False) ∧ ms ρ fun ds => S (d :: ds) P X0
theorem lookup_none_of {mn : Str} : ∀ {gs : List (Str × V)}, mn ∉ gs.map (·.1) → gs.lookup mn = none
  | [], _ => rfl
  | (g, x) :: gs, h => by
    rw [List.map_cons, List.mem_cons, not_or] at h
    rw [List.lookup_cons]
    have : (mn == g) = false := by simpa using h.1
    rw [this]
    exact lookup_none_of h.2
theorem mth_run {K : PySem.W.Frag} {σ : Sg} {H : Hp} {Q : VK} (h : tD K (mthD C mn S m ms) σ H Q) : tMeth C mn (spOf K S) [] E0 (tD K m) (tA K ms) σ H Q := by
  obtain ⟨dp, H0, Hs0, Hs, ρ, P, rl, hm, k⟩ := h
  refine ⟨dp, H0, Hs0, Hs, ρ, _, rl, hm, fun d hd v H1 Hs1 s q => ?_⟩
  obtain ⟨hd1, hd2⟩ := hd
  cases d with
  | ins C' ns ds =>
    obtain ⟨rfl, hn⟩ := hd1
    have q' := q
    unfold Rep at q'
    obtain ⟨a, dx, gs, rfl, h1, h2, _⟩ := q'
    refine ⟨a, dx, gs, rfl, s.bs.sub _ _ h1, lookup_none_of (by rw [h2]; exact hn), dp, H0, Hs0, Hs1, ρ, _, rl.step s, hd2, fun es hes vs H2 Hs2 s2 q2 => ?_⟩
    show spOf K S (.ref a :: (vs ++ [])) H2 Q E0
    rw [List.append_nil]
    exact ⟨dp, Hs2, _, P, X0, s2.bs, .cons (Rep.mono s2.ext _ _ q) q2, hes, fun d2 hd2 v2 H3 Hs3 s3 q3 => k d2 hd2 v2 H3 Hs3 (s.trans (s2.trans s3)) q3, fun C d hx => hx.elim⟩
  | _ => exact hd1.elim
theorem d_meth {pl : Sem Bool} (c : Cls X.K C) (G : Md X.prog X.w X.K X.mg X.base C mn k ps S) (hr : Room k X.A) (ho : PEd X e m) {a : Expr} (ha : PAd X (a :: es) ms)
    (hst : starEach (a :: es) X.env = (false, eval a X.env) :: starEach es X.env := by rfl) (hpl : (backTo pos (starEach es X.env)).any (·.1) = false := by rfl)
    (ht : eval (.Call (.Attribute e mn apos) (a :: es) [] pos) X.env = (do
      let ov ← eval e X.env
      standAt apos.atName
      let (f, first) ← holding [ov] (getMethod ov mn pl)
      callWith pos f first (backTo pos (starEach (a :: es) X.env)) (backToKw pos (keywordEach [] X.env))) := by rfl) : PEd X (.Call (.Attribute e mn apos) (a :: es) [] pos) (mthD C mn S m ms) := by
  obtain ⟨g, fd, F, hm, hb⟩ := G
  exact PE.mono (pe_meth ho c hm F hr hb .nil passL ha hst hpl ht) fun σ H Q h => mth_run h
theorem mth0_run {K : PySem.W.Frag} {σ : Sg} {H : Hp} {Q : VK} (h : tD K (mthD C mn S m nilA) σ H Q) : tMeth C mn (spOf K S) [] E0 (tD K m) tNil σ H Q := by
  obtain ⟨dp, H0, Hs0, Hs, ρ, P, rl, hm, k⟩ := h
  refine ⟨dp, H0, Hs0, Hs, ρ, _, rl, hm, fun d hd v H1 Hs1 s q => ?_⟩
  obtain ⟨hd1, hd2⟩ := hd
  cases d with
  | ins C' ns ds =>
    obtain ⟨rfl, hn⟩ := hd1
    have q' := q
    unfold Rep at q'
    obtain ⟨a, dx, gs, rfl, h1, h2, _⟩ := q'
    refine ⟨a, dx, gs, rfl, s.bs.sub _ _ h1, lookup_none_of (by rw [h2]; exact hn), ?_⟩
    exact ⟨dp, Hs1, _, P, X0, s.bs, .cons q .nil, hd2, fun d2 hd2 v2 H3 Hs3 s3 q3 => k d2 hd2 v2 H3 Hs3 (s.trans s3) q3, fun C d hx => hx.elim⟩
  | _ => exact hd1.elim
theorem d_meth0 {pl : Sem Bool} (c : Cls X.K C) (G : Md X.prog X.w X.K X.mg X.base C mn k ps S) (hr : Room k X.A) (ho : PEd X e m)
    (ht : eval (.Call (.Attribute e mn apos) [] [] pos) X.env = (do
      let ov ← eval e X.env
      standAt apos.atName
      let (f, first) ← holding [ov] (getMethod ov mn pl)
      callWith pos f first (backTo pos (starEach [] X.env)) (backToKw pos (keywordEach [] X.env))) := by rfl) : PEd X (.Call (.Attribute e mn apos) [] [] pos) (mthD C mn S m nilA) := by
  obtain ⟨g, fd, F, hm, hb⟩ := G
  exact PE.mono (pe_meth0 ho c hm F hr hb .nil passL ht) fun σ H Q h => mth0_run h

end
/-! ### C(..): the promise of __init__ by data: P is what is wanted of the new instance -/
def rm (H : Hp) (x : Addr) : Hp := fun b => if b = x then none else H b
theorem rm_same {H : Hp} {x : Addr} : rm H x x = none := if_pos rfl
theorem rm_ne {H : Hp} {x a : Addr} (h : a ≠ x) : rm H x a = H a := if_neg h
def spInit (K : PySem.W.Frag) (C : Addr) (S : SpD) : Sp := fun vs H Q E => ∃ (x dx : Addr) (ws : List V) (dp : Option (Addr × Addr)) (Hs : Hp) (ds : List D) (P : D → Prop) (PX : XD), vs = .ref x :: ws ∧ H x = some (.ins C dx []) ∧ Hs x = none ∧ Bs dp H Hs ∧ Reps K dp Hs ds ws ∧ S ds P PX ∧
  (∀ d, P d → ∀ H' Hs', Stp dp (rm H x) Hs H' Hs' → OwnRep K dp H' Hs' x d → Hs' x = none → Q .non H') ∧
  (∀ C d, PX C d → ∀ dx v H' Hs', Stp dp (rm H x) Hs H' Hs' → H' dx = some (.xd [("value", v)]) → Rep K dp Hs' d v → E (.ref C) (some dx) H')
/-- the class x at C is made by S -/
def Cd (P : Program) (w : World) (K : PySem.W.Frag) (mg : Str → Option Value) (base : Heap) (x : Str) (C : Addr) (k : Nat) (ps : List Str) (S : SpD) : Prop :=
  ∃ (f : Addr) (fd : FuncData), FnOk P w K mg base (L2.CX P w) k f fd ps (spInit K C S) ∧ Mk K C f ∧ mg x = some (.ref C) ∧ Binds K fd ps []
theorem ndk_of {dp : Option (Addr × Addr)} {H : Hp} (dk : DkOk dp H) {x C dx : Addr} {fs : List (Str × V)} (h : H x = some (.ins C dx fs)) : ¬ isDk dp x := by
  rintro ⟨q, e, z⟩
  obtain ⟨_, gs, c, s, g1, g2, _⟩ := dk q e
  rcases z with z | z <;> subst z
  · rw [g1] at h; cases h
  · rw [g2] at h; cases h
section
variable {X : Cx} {W : WX} {e : Expr} {es : List Expr} {m me : TEd} {ms : TAd} {C : Addr} {x f mn : Str} {pos apos p : Pos} {k : Nat} {ps : List Str} {S : SpD}
def makD (S : SpD) (ms : TAd) : TEd := fun ρ P => ms ρ fun ds => S ds P X0
theorem d_make (G : Cd X.prog X.w X.K X.mg X.base x C k ps S) (hr : Room (k + 1) X.A) (hg : Gl X x) (ha : PAd X (e :: es) ms) (hdb : (x == ("__debug__" : Str)) = false := by decide)
    (he : starEach (e :: es) X.env = (false, eval e X.env) :: starEach es X.env := by rfl) (hpl : (backTo pos (starEach es X.env)).any (·.1) = false := by rfl) : PEf X (.Call (.Name x p) (e :: es) [] pos) (makD S ms) := by
  obtain ⟨g, fd, F, M, hm, hb⟩ := G
  refine PE.mono (pe_make M F hr hg hm hb .nil passL ha hdb he hpl) fun σ H Q ⟨dp, H0, Hs0, Hs, ρ, P, rl, hm, k⟩ => ⟨dp, H0, Hs0, Hs, ρ, _, rl, hm, fun ds hds vs H1 Hs1 s q => ?_⟩
  intro y dx hy hdx hne
  show spInit X.K C S (.ref y :: (vs ++ [])) _ _ E0
  rw [List.append_nil]
  have hsy : Hs1 y = none := s.bs.sub.free hy
  have hsd : Hs1 dx = none := s.bs.sub.free hdx
  have s1 : Stp dp H1 Hs1 (upd H1 dx (.own y)) Hs1 := .laidO s.bs hdx
  have hy1 : (upd H1 dx (HO.own y)) y = none := by rw [upd_ne (Ne.symm hne)]; exact hy
  have s2 : Stp dp (upd H1 dx (.own y)) Hs1 (upd (upd H1 dx (.own y)) y (.ins C dx [])) Hs1 := .laidO s1.bs hy1
  have hrm : rm (upd (upd H1 dx (.own y)) y (.ins C dx [])) y = upd H1 dx (.own y) := by
    funext b
    by_cases hb : b = y
    · subst hb; rw [rm_same, hy1]
    · rw [rm_ne hb, upd_ne hb]
  refine ⟨y, dx, vs, dp, Hs1, ds, P, X0, rfl, upd_same, hsy, s2.bs, q, hds, fun d hd H' Hs' s3 q3 hn3 => ?_, fun C d hx => hx.elim⟩
  rw [hrm] at s3
  have ndk : ¬ isDk dp y := free_ndk s.bs hy
  exact ⟨rfl, k d hd y H' Hs' (s.trans (s1.trans s3)) q3 hn3 (back_none rl.bs s hy ndk) ndk⟩
/-- self.f = e of an owned instance, f new -/
def sfdD (C : Addr) (i : Nat) (f : Str) (m : TEd) : TSd := fun DD ρ => match ρ[i]? with
  | some (.ow a (.ins C' ns ds)) => C' = C ∧ f ∉ ns ∧ ns.length < 1000 ∧ ns.length = ds.length ∧ m ρ fun d => DD.nx (ρ.set i (.ow a (.ins C (ns ++ [f]) (ds ++ [d]))))
  | _ => False
theorem putF_new {f : Str} {v : V} : ∀ {gs : List (Str × V)}, f ∉ gs.map (·.1) → putF f v gs = gs ++ [(f, v)]
  | [], _ => rfl
  | (g, x) :: gs, h => by
    rw [List.map_cons, List.mem_cons, not_or] at h
    show (if g = f then (g, v) :: gs else (g, x) :: putF f v gs) = _
    rw [if_neg (fun z => h.1 z.symm), putF_new h.2]; rfl
theorem ds_sfd {i : Nat} {o : Expr} {pos' : Pos} (c : Cls X.K C) (n : NoAttr X.K C f) (ho : PE X o (tVar i)) (he : PEd X e me) (hs : swapsWith e (some (.Attribute o f pos')) pos.line X.env = pure false := by rfl) :
    PSd X W (.Assign [.Attribute o f pos'] e pos) (sfdD C i f me) := by
  refine PS.mono (ps_fld ho he hs) fun Dn σ H ⟨dp, H0, Hs0, Hb, Hs, ρ, DD, rl, hb, hm, eo⟩ => ?_
  unfold sfdD at hm
  split at hm
  · rename_i a C' ns ds e1
    obtain ⟨rfl, h1, h2, h3, hm⟩ := hm
    refine ⟨dp, H0, Hs0, Hs, ρ, _, rl, hm, fun d hd v H1 Hs1 s q => ?_⟩
    have rl1 := rl.step s
    obtain ⟨ev, ⟨dx, gs, g1, g2, g3⟩, _⟩ := rl1.cells i _ e1
    refine ⟨.ref a, ev, a, C', dx, gs, rfl, g1, c, n, ?_, ?_⟩
    · have : gs.length = ns.length := by rw [← g2, List.length_map]
      omega
    · rw [putF_new (by rw [g2]; exact h1)]
      refine eo.nx _ _ _ Hs1 hd (rl1.put e1 ⟨dx, gs ++ [(f, v)], upd_same, ?_, ?_⟩) (hb.trans s.ext)
      · rw [List.map_append, g2]; rfl
      · rw [List.map_append]
        exact g3.append (.cons q .nil)
  · exact hm.elim
end
section
variable {P : Program} {w : World} {K : PySem.W.Frag} {mg : Str → Option Value} {base : Heap}
def startI (N : List Str) (x : Addr) (C : Addr) (ds : List D) : Env := .ow x (.ins C [] []) :: (ds.map .sh ++ List.replicate (N.length - (ds.length + 1)) .no)
theorem startI_rl {dp : Option (Addr × Addr)} {H Hs : Hp} (bs : Bs dp H Hs) {N : List Str} {ds : List D} {vs : List V} {x C dx : Addr} (hx : H x = some (.ins C dx [])) (hs : Hs x = none) (h : Reps K dp Hs ds vs) :
    Rl K dp (rm H x) Hs (L2.start N (.ref x :: vs)) H Hs (startI N x C ds) where
  stp := ⟨Same.refl _, fun a _ h2 => h2, fun a o h1 h2 h3 => by
    by_cases z : a = x
    · subst z; rw [rm_same] at h1; cases h1
    · rw [rm_ne z] at h1; exact h1, bs⟩
  len := by unfold startI L2.start; simp [h.length]
  cells := fun i c e => by
    cases i with
    | zero =>
      unfold startI at e
      cases e
      refine ⟨rfl, ⟨dx, [], hx, rfl, .nil⟩, hs, rm_same, ndk_of bs.dk hx⟩
    | succ i =>
      unfold startI at e
      rw [List.getElem?_cons_succ] at e
      show CellOk K dp (rm H x) H Hs c (L2.start N (.ref x :: vs))[i + 1]?
      unfold L2.start
      rw [List.map_cons, List.cons_append, List.getElem?_cons_succ]
      by_cases hi : i < ds.length
      · rw [List.getElem?_append_left (by simpa using hi), List.getElem?_map] at e
        obtain ⟨v, hv, q⟩ := h.get (i := i) (d := ds[i]) (by simp [hi])
        rw [List.getElem?_eq_getElem hi] at e
        cases e
        refine ⟨v, ?_, q⟩
        rw [List.getElem?_append_left (by rw [List.length_map, ← h.length]; exact hi), List.getElem?_map, hv]; rfl
      · rw [List.getElem?_append_right (by simpa using Nat.le_of_not_lt hi)] at e
        have : c = .no := by
          have := List.mem_of_getElem? e
          exact (List.mem_replicate.mp this).2
        subst this
        trivial
  dist := fun i j a d d' e1 e2 => by
    have key : ∀ (i : Nat) (d : D), (startI N x C ds)[i]? = some (.ow a d) → i = 0 := fun i d e => by
      cases i with
      | zero => rfl
      | succ i =>
        exfalso
        unfold startI at e
        rw [List.getElem?_cons_succ] at e
        rcases List.mem_append.mp (List.mem_of_getElem? e) with h | h
        · obtain ⟨z, _, hz⟩ := List.mem_map.mp h; cases hz
        · cases (List.mem_replicate.mp h).2
    rw [key i d e1, key j d' e2]
/-- an __init__ without errors -/
theorem init_mk {x qual : Str} {st : Stmt} {f C : Addr} {fd : FuncData} {N ps : List Str} {k : Nat} {S : SpD} (F : Fun K x qual st f fd) (sc : FnScope N ("self" :: ps) (defScope st)) (len : ∀ ds P PX, S ds P PX → ds.length = ps.length)
    (hbody : ∃ m, (∀ (cdv : Value) (A : Around) (outer : List PySem.Env) (s : Shared) (H : Hp) (E : XK), Room k (A.deeper (envOfC qual (defScope st) s.heap.objs.size f cdv)) → PSsd (cxOf (L2.CX P w) P w K mg base N qual (defScope st) f cdv A outer s H E).nox W0 (defBody st) m) ∧
      ∀ ds P, S ds P X0 → ∀ y, m { nx := fun ρ => ∃ d, ρ[0]? = some (.ow y d) ∧ P d, rt := fun _ => False, ex := fun _ => X0 } (startI N y C ds)) (hx : ∀ ds P PX, S ds P PX → S ds P X0) :
    FnOk P w K mg base (L2.CX P w) (k + 1) f fd ("self" :: ps) (spInit K C S) := by
  obtain ⟨m, hm, hp⟩ := hbody
  refine F.okX sc (fun vs H Q E ⟨y, dx, ws, dp, Hs, ds, P, PX, e, h1, h2, bs, hr, h, _⟩ => by rw [e, List.length_cons, List.length_cons, ← hr.length, len _ _ _ h]) (fun cdv A outer s H vs Q E hr h => ?_)
  obtain ⟨y, dx, ws, dp, Hs, ds, P, PX, rfl, h1, h2, bs, hreps, h, k1, k2⟩ := h
  refine ⟨_, PSs.nox (hm cdv A outer s H E hr), ?_⟩
  exact ⟨dp, rm H y, Hs, Hs, Hs, startI N y C ds, _, startI_rl bs h1 h2 hreps, Same.refl _, hp ds P (hx _ _ _ h) y,
    ⟨fun ρ σ H' Hs' ⟨d, e0, hd⟩ rl _ => by
      obtain ⟨_, ow, hs, _, _⟩ := rl.cells 0 _ e0
      exact k1 d hd H' Hs' rl.stp ow hs, fun _ _ _ _ z => z.elim, fun _ _ _ _ z => z.elim, fun d hd => hd.elim, fun _ C d z => z.elim⟩⟩
end
end DL

set_option Elab.async false
set_option linter.all false
set_option autoImplicit false
set_option maxRecDepth 100000
set_option maxHeartbeats 4000000
namespace DL
open PySem PySem.Spec PyProof.Rows L2
theorem bt_len : bootBuiltins "len" = some (.builtin "len") := by decide +kernel
theorem bt_sum : bootBuiltins "sum" = some (.builtin "sum") := by decide +kernel
theorem bt_all : bootBuiltins "all" = some (.builtin "all") := by decide +kernel
theorem bt_any : bootBuiltins "any" = some (.builtin "any") := by decide +kernel
theorem bt_max : bootBuiltins "max" = some (.builtin "max") := by decide +kernel
theorem bt_min : bootBuiltins "min" = some (.builtin "min") := by decide +kernel
theorem bt_sorted : bootBuiltins "sorted" = some (.builtin "sorted") := by decide +kernel
theorem bt_isinstance : bootBuiltins "isinstance" = some (.builtin "isinstance") := by decide +kernel
theorem bt_int : bootBuiltins "int" = some (.type "int") := by decide +kernel
theorem bt_list : bootBuiltins "list" = some (.type "list") := by decide +kernel
theorem bt_tuple : bootBuiltins "tuple" = some (.type "tuple") := by decide +kernel
theorem bt_bool : bootBuiltins "bool" = some (.type "bool") := by decide +kernel
theorem bt_range : bootBuiltins "range" = some (.type "range") := by decide +kernel
theorem bt_str : bootBuiltins "str" = some (.type "str") := by decide +kernel
/-- the built-ins' names that the module leaves alone -/
structure Zs (mg : Str → Option Value) : Prop where
  len : mg "len" = none
  sum : mg "sum" = none
  all : mg "all" = none
  any : mg "any" = none
  max : mg "max" = none
  min : mg "min" = none
  int : mg "int" = none
  list : mg "list" = none
  tuple : mg "tuple" = none
  bool : mg "bool" = none
  str : mg "str" = none
  range : mg "range" = none
  zip : mg "zip" = none
  enumerate : mg "enumerate" = none
  isinstance : mg "isinstance" = none
  sorted : mg "sorted" = none
end DL

set_option Elab.async false
set_option linter.all false
set_option autoImplicit false
set_option maxRecDepth 100000
set_option maxHeartbeats 4000000
namespace DL
open PySem PySem.Spec PyProof.Rows L2
/-! ### comprehensions by what their element is -/
def LcI (ds : List D) (gd : TGd) (mt : TTd) (me : TEd) (ρ : Env) (P : D → Prop) : Prop := ∃ I : Nat → List D → Prop, I 0 [] ∧
  (∀ i d acc, ds[i]? = some d → I i acc → gd d ρ fun ρ2 => mt ρ2 fun b => if b = true then me ρ2 fun y => acc.length < sizeLine ∧ I (i + 1) (acc ++ [y]) else I (i + 1) acc) ∧ ∀ acc, I ds.length acc → P (.lst acc)
theorem lcD_eq (src : TId) (gd : TGd) (mt : TTd) (me : TEd) (vs : List Nat) (ρ : Env) (P : D → Prop) : lcD src gd mt me vs ρ P = src ρ fun ds => LcI ds gd mt me (wipeD ρ vs) P := rfl
/-- each element is f i -/
theorem lc_all {ds : List D} {gd : TGd} {me : TEd} {ρ : Env} {P : D → Prop} (f : Nat → D) (hl : ds.length ≤ 16000000) (h : ∀ i d (Q : D → Prop), ds[i]? = some d → i < ds.length → Q (f i) → gd d ρ fun ρ2 => me ρ2 Q) (hp : P (.lst ((List.range ds.length).map f))) : LcI ds gd yesT me ρ P := by
  refine ⟨fun i acc => acc = (List.range i).map f ∧ i ≤ ds.length, ⟨rfl, Nat.zero_le _⟩, ?_, ?_⟩
  · rintro i d acc hd ⟨rfl, hi⟩
    have hlt := (List.getElem?_eq_some_iff.mp hd).1
    have key := h i d (fun y => ((List.range i).map f).length < sizeLine ∧ ((List.range i).map f ++ [y] = (List.range (i + 1)).map f ∧ i + 1 ≤ ds.length)) hd hlt ⟨by
      rw [List.length_map, List.length_range, sizeLine_eq]; omega, by rw [List.range_succ, List.map_append]; rfl, hlt⟩
    exact key
  · rintro acc ⟨rfl, _⟩
    exact hp
/-- each element is something of which R holds -/
theorem lc_any {ds : List D} {gd : TGd} {me : TEd} {ρ : Env} {P : D → Prop} (R : Nat → D → Prop) (hl : ds.length ≤ 16000000) (h : ∀ i d (Q : D → Prop), ds[i]? = some d → i < ds.length → (∀ y, R i y → Q y) → gd d ρ fun ρ2 => me ρ2 Q) (hp : ∀ ys : List D, ys.length = ds.length → (∀ i y, ys[i]? = some y → R i y) → P (.lst ys)) : LcI ds gd yesT me ρ P := by
  refine ⟨fun i acc => acc.length = i ∧ (∀ j y, acc[j]? = some y → R j y) ∧ i ≤ ds.length, ⟨rfl, fun j y e => by simp at e, Nat.zero_le _⟩, ?_, ?_⟩
  · rintro i d acc hd ⟨hl1, hr, hi⟩
    have hlt := (List.getElem?_eq_some_iff.mp hd).1
    have key := h i d (fun y => acc.length < sizeLine ∧ ((acc ++ [y]).length = i + 1 ∧ (∀ j z, (acc ++ [y])[j]? = some z → R j z) ∧ i + 1 ≤ ds.length)) hd hlt (fun y hy => ⟨by
      rw [sizeLine_eq]; omega, by rw [List.length_append, hl1]; rfl, fun j z e => by
        by_cases hj : j < acc.length
        · rw [List.getElem?_append_left hj] at e; exact hr j z e
        · rw [List.getElem?_append_right (by omega)] at e
          have hj2 : j - acc.length = 0 := by
            have := (List.getElem?_eq_some_iff.mp e).1
            simp at this; omega
          rw [hj2] at e
          have ez : y = z := by simpa using e
          have ej : j = i := by omega
          rw [← ez, ej]; exact hy, hlt⟩)
    exact key
  · rintro acc ⟨hl1, hr, _⟩
    exact hp acc hl1 hr
/-- with a test: each element is f i where t i -/
theorem lc_filter {ds : List D} {gd : TGd} {mt : TTd} {me : TEd} {ρ : Env} {P : D → Prop} (t : Nat → Bool) (f : Nat → D) (hl : ds.length ≤ 16000000) (h : ∀ i d (Q : D → Prop) (R : Prop), ds[i]? = some d → i < ds.length → (t i = true → Q (f i)) → (t i = false → R) → gd d ρ fun ρ2 => mt ρ2 fun b => if b = true then me ρ2 Q else R)
    (hp : P (.lst (((List.range ds.length).filter t).map f))) : LcI ds gd mt me ρ P := by
  refine ⟨fun i acc => acc = ((List.range i).filter t).map f ∧ i ≤ ds.length, ⟨rfl, Nat.zero_le _⟩, ?_, ?_⟩
  · rintro i d acc hd ⟨rfl, hi⟩
    have hlt := (List.getElem?_eq_some_iff.mp hd).1
    refine h i d _ _ hd hlt (fun ht => ⟨?_, ?_, hlt⟩) (fun ht => ⟨?_, hlt⟩)
    · rw [List.length_map, sizeLine_eq]
      have := List.length_filter_le t (List.range i)
      rw [List.length_range] at this
      omega
    · rw [List.range_succ, List.filter_append, List.map_append]
      simp [ht]
    · rw [List.range_succ, List.filter_append, List.map_append]
      simp [ht]
  · rintro acc ⟨rfl, _⟩
    exact hp
/-! ### == of plain data -/
theorem pl_int (n : Nat) (i : Int) : Pl n (.int i) := ⟨by unfold dat; rfl, by unfold dat; exact Nat.zero_le _⟩
theorem pl_bl (n : Nat) (i : Bool) : Pl n (.bl i) := ⟨by unfold dat; rfl, by unfold dat; exact Nat.zero_le _⟩
theorem pl_str (n : Nat) {i : Str} (h : PyData.strOk i = true) : Pl n (.str i) := ⟨by unfold dat; exact h, by unfold dat; exact Nat.zero_le _⟩
theorem pl_non (n : Nat) : Pl n .non := ⟨by unfold dat; rfl, by unfold dat; exact Nat.zero_le _⟩
theorem pls (n : Nat) : ∀ ds : List D, (∀ d ∈ ds, Pl n d) → PyData.canLayAll0 (dats ds) = true ∧ PyData.depthAll (dats ds) ≤ n
  | [], _ => by unfold dats; exact ⟨rfl, Nat.zero_le _⟩
  | d :: ds, h => by
    obtain ⟨h1, h2⟩ := pls n ds fun x hx => h x (List.mem_cons_of_mem _ hx)
    obtain ⟨g1, g2⟩ := h d List.mem_cons_self
    unfold dats
    refine ⟨by simp [PyData.canLayAll0, h1, g1], ?_⟩
    rw [PyData.depthAll]
    exact Nat.max_le.mpr ⟨g2, h2⟩
theorem pl_lst {n : Nat} {ds : List D} (h : ∀ d ∈ ds, Pl n d) : Pl (n + 1) (.lst ds) := by
  obtain ⟨h1, h2⟩ := pls n ds h
  exact ⟨by unfold dat; rw [PyData.canLay0]; exact h1, by unfold dat; rw [PyData.depth]; exact Nat.succ_le_succ h2⟩
theorem pl_tup {n : Nat} {ds : List D} (h : ∀ d ∈ ds, Pl n d) : Pl (n + 1) (.tup ds) := by
  obtain ⟨h1, h2⟩ := pls n ds h
  exact ⟨by unfold dat; rw [PyData.canLay0]; exact h1, by unfold dat; rw [PyData.depth]; exact Nat.succ_le_succ h2⟩
theorem pl_ints (n : Nat) (xs : List Int) : Pl (n + 1) (.lst (xs.map D.int)) := pl_lst fun d h => by
  obtain ⟨i, _, rfl⟩ := List.mem_map.mp h; exact pl_int _ _
theorem pl_bls (n : Nat) (xs : List Bool) : Pl (n + 1) (.lst (xs.map D.bl)) := pl_lst fun d h => by
  obtain ⟨i, _, rfl⟩ := List.mem_map.mp h; exact pl_bl _ _
theorem pl_strs (n : Nat) (xs : List Str) (hx : ∀ x ∈ xs, PyData.strOk x = true) : Pl (n + 1) (.lst (xs.map D.str)) := pl_lst fun d h => by
  obtain ⟨i, hi, rfl⟩ := List.mem_map.mp h; exact pl_str _ (hx i hi)
theorem pl_cons {n : Nat} {d : D} {ds : List D} (h1 : Pl n d) (h2 : ∀ x ∈ ds, Pl n x) : ∀ x ∈ d :: ds, Pl n x := fun x hx => by
  rcases List.mem_cons.mp hx with h | h
  · rw [h]; exact h1
  · exact h2 x h
theorem pl_nil {n : Nat} : ∀ x ∈ ([] : List D), Pl n x := fun x hx => by cases hx
theorem dats_map {α : Type} (f : α → D) : ∀ xs : List α, dats (xs.map f) = xs.map fun x => dat (f x)
  | [] => by unfold dats; rfl
  | x :: xs => by rw [List.map_cons, dats, dats_map f xs]; rfl
def eqvs (a b : List D) : Bool := PyData.eqvAll (dats a) (dats b)
theorem eqv_int (i j : Int) : eqvD (.int i) (.int j) = (i == j) := by unfold eqvD dat; rfl
theorem eqv_str (i j : Str) : eqvD (.str i) (.str j) = (i == j) := by unfold eqvD dat; rfl
theorem eqv_bl (i j : Bool) : eqvD (.bl i) (.bl j) = (i == j) := by unfold eqvD dat; rfl
theorem eqv_lst (a b : List D) : eqvD (.lst a) (.lst b) = eqvs a b := by unfold eqvD dat eqvs; rw [PyData.eqv]
theorem eqv_tup (a b : List D) : eqvD (.tup a) (.tup b) = eqvs a b := by unfold eqvD dat eqvs; rw [PyData.eqv]
theorem eqvs_nil : eqvs [] [] = true := by unfold eqvs dats; rfl
theorem eqvs_cons (x y : D) (a b : List D) : eqvs (x :: a) (y :: b) = (eqvD x y && eqvs a b) := by unfold eqvs eqvD; rw [dats, dats, PyData.eqvAll]
theorem eqvs_cn (x : D) (a : List D) : eqvs (x :: a) [] = false := by unfold eqvs dats; rfl
theorem eqvs_nc (x : D) (a : List D) : eqvs [] (x :: a) = false := by unfold eqvs dats; rfl
theorem eqvs_map {α : Type} [DecidableEq α] (f : α → D) (hf : ∀ x y, eqvD (f x) (f y) = decide (x = y)) : ∀ xs ys : List α, eqvs (xs.map f) (ys.map f) = decide (xs = ys)
  | [], [] => by rw [List.map_nil, eqvs_nil]; simp
  | [], y :: ys => by rw [List.map_nil, List.map_cons, eqvs_nc]; simp
  | x :: xs, [] => by rw [List.map_nil, List.map_cons, eqvs_cn]; simp
  | x :: xs, y :: ys => by
    rw [List.map_cons, List.map_cons, eqvs_cons, hf, eqvs_map f hf xs ys]
    by_cases h1 : x = y
    · by_cases h2 : xs = ys
      · simp [h1, h2]
      · simp [h1, h2]
    · simp [h1]
theorem eqvs_ints (xs ys : List Int) : eqvs (xs.map D.int) (ys.map D.int) = decide (xs = ys) := eqvs_map _ (fun x y => by rw [eqv_int, Bool.beq_eq_decide_eq]) xs ys
theorem eqvs_bls (xs ys : List Bool) : eqvs (xs.map D.bl) (ys.map D.bl) = decide (xs = ys) := eqvs_map _ (fun x y => by rw [eqv_bl, Bool.beq_eq_decide_eq]) xs ys
theorem eqv_ints (xs ys : List Int) : eqvD (.lst (xs.map D.int)) (.lst (ys.map D.int)) = decide (xs = ys) := by rw [eqv_lst, eqvs_ints]
/-! ### lists of ints -/
abbrev L (xs : List Int) : D := .lst (xs.map D.int)
theorem atI_map {α β : Type} (f : α → β) (xs : List α) (i : Int) : atI (xs.map f) i = (atI xs i).map f := by
  unfold L2.atI
  rw [List.length_map]
  cases ixN xs.length i with
  | none => rfl
  | some j => show (xs.map f)[j]? = (xs[j]?).map f; rw [List.getElem?_map]
theorem atI_ofNat {α : Type} (xs : List α) (j : Nat) : atI xs (j : Int) = xs[j]? := by
  unfold L2.atI ixN
  rw [if_pos (by omega)]
  by_cases h : j < xs.length
  · rw [if_pos (by omega)]
    show xs[((j : Int)).toNat]? = _
    rw [Int.toNat_natCast]
  · rw [if_neg (by omega), List.getElem?_eq_none (by omega)]; rfl
theorem ix_map {α : Type} (f : α → D) {xs : List α} {j : Nat} {x : α} (h : xs[j]? = some x) : atI (xs.map f) (j : Int) = some (f x) := by
  rw [atI_map, atI_ofNat, h]; rfl
theorem enum_get {ds : List D} {i : Nat} {d : D} (h : (enumL ds)[i]? = some d) : ∃ x, ds[i]? = some x ∧ d = .tup [.int (i : Nat), x] := by
  unfold enumL at h
  rw [List.getElem?_map] at h
  by_cases hi : i < ds.length
  · rw [List.getElem?_range hi] at h
    refine ⟨ds[i], by simp [hi], ?_⟩
    simp [hi] at h
    exact h.symm
  · rw [List.getElem?_eq_none (by simpa using Nat.le_of_not_lt hi)] at h
    cases h
theorem enum_len (ds : List D) : (enumL ds).length = ds.length := by unfold enumL; simp
theorem zip_get {ds es : List D} {i : Nat} {d : D} (h : (zipL ds es)[i]? = some d) : ∃ x y, ds[i]? = some x ∧ es[i]? = some y ∧ d = .tup [x, y] := by
  unfold zipL at h
  rw [List.getElem?_map] at h
  cases e : (ds.zip es)[i]? with
  | none => rw [e] at h; cases h
  | some p =>
    rw [e] at h
    rw [List.getElem?_zip_eq_some] at e
    refine ⟨p.1, p.2, e.1, e.2, ?_⟩
    have : D.tup [p.1, p.2] = d := by simpa using h
    exact this.symm
theorem zip_len (ds es : List D) : (zipL ds es).length = min ds.length es.length := by unfold zipL; simp
theorem map_get {α : Type} {f : α → D} {xs : List α} {i : Nat} {d : D} (h : (xs.map f)[i]? = some d) : ∃ x, xs[i]? = some x ∧ d = f x := by
  rw [List.getElem?_map] at h
  cases e : xs[i]? with
  | none => rw [e] at h; cases h
  | some x => rw [e] at h; exact ⟨x, rfl, (Option.some.inj h).symm⟩
theorem rng_get {lo : Int} {n i : Nat} {d : D} (h : (rngL lo n)[i]? = some d) : i < n ∧ d = .int (lo + (i : Nat)) := by
  have hi : i < n := by
    have := (List.getElem?_eq_some_iff.mp h).1
    rwa [rngL_len] at this
  rw [rngL_get hi] at h
  exact ⟨hi, (Option.some.inj h).symm⟩
end DL

set_option Elab.async false
set_option linter.all false
set_option autoImplicit false
set_option maxRecDepth 100000
set_option maxHeartbeats 4000000
namespace DL
open PySem PySem.Spec PyProof.Rows L2

/-! ### operators of an own class -/
theorem cmpBack {X : Cx} {pins : List (Addr × Obj)} {σ : Sg} {Q : VK} {u : Value} {s' : Shared} (h : EP X pins σ Q u s') : PySem.W.CmpBack (EP X pins σ Q) u s' := by
  obtain ⟨v, H', I, r, q⟩ := h
  have key : ∀ w : Value, w = u → PySem.W.CmpBack (EP X pins σ Q) w s' := fun w e => by
    have h' : EP X pins σ Q w s' := by rw [e]; exact ⟨v, H', I, r, q⟩
    cases w with
    | notImplemented =>
      obtain ⟨v2, _, _, r2, _⟩ := h'
      cases v2 with
      | non => cases r2
      | bl b => cases r2
      | int i => obtain ⟨t, z⟩ := r2; cases z
      | str i => obtain ⟨t, z⟩ := r2; cases z
      | byt i => obtain ⟨t, z⟩ := r2; cases z
      | flt i => obtain ⟨t, z⟩ := r2; cases z
      | ref a => cases r2
      | ty n => cases r2
    | _ => exact h'
  exact key u rfl
/-- the class at C has the operator as a def of its own that keeps S -/
def Od (P : Program) (w : World) (K : PySem.W.Frag) (mg : Str → Option Value) (base : Heap) (C : Addr) (op : Operator) (k : Nat) (S : SpD) : Prop :=
  ∃ (f : Addr) (fd : FuncData), FnOk P w K mg base (L2.CX P w) k f fd ["self", "other"] (spOf K S) ∧ PySem.W.selfFirst K C = true ∧ PySem.W.findIn K (.ref C) (PySem.dunder op.info.2) = some (some (.ref f)) ∧ PySem.W.isFn K (.ref f) = true ∧ Binds K fd ["self", "other"] []
def oopD (C : Addr) (S : SpD) (ma mb : TEd) : TEd := fun ρ P => ma ρ fun d1 => mb ρ fun d2 => insOf C d1 ∧ insOf C d2 ∧ S [d1, d2] P X0
section
variable {X : Cx} {W : WX} {a b e : Expr} {ma mb m me : TEd} {ms : TAd} {C : Addr} {pos : Pos} {op : Operator} {k : Nat} {S : SpD}
theorem d_ownop (G : Od X.prog X.w X.K X.mg X.base C op k S) (hr : Room k X.A) (ha : PEd X a ma) (hb : PEd X b mb) : PEd X (.BinOp a op b pos) (oopD C S ma mb) := by
  obtain ⟨f, fd, F, sf, hs, hf, hbi⟩ := G
  have ho : OpR X (binaryOp op) (fun x y H Q => ∃ p q dx dy fs gs, x = .ref p ∧ y = .ref q ∧ H p = some (.ins C dx fs) ∧ H q = some (.ins C dy gs) ∧ spOf X.K S [x, y] H Q E0) := by
    intro pins s σ H x y v u Q I rx ry ⟨p, q, dx, dy, fs, gs, ex, ey, hp, hq, hsp⟩
    subst ex; subst ey
    obtain rfl : v = Value.ref p := rx
    obtain rfl : u = Value.ref q := ry
    obtain ⟨m1, O1, _⟩ := ins_get I.hok hp
    obtain ⟨m2, O2, _⟩ := ins_get I.hok hq
    obtain ⟨od1, J1, _⟩ := O1.look
    obtain ⟨od2, J2, _⟩ := O2.look
    obtain ⟨mm, fr⟩ := I.fr
    refine PySem.W.binop_K fr I.ok.mod.kin J1 J2.type sf hs hf ?_
    exact thn (run_fn (us := [.ref p, .ref q]) (vs := [.ref p, .ref q]) F hr hbi .nil passL I (.cons rfl (.cons rfl .nil)) hsp) fun u s' h => cmpBack h
  refine PE.mono (pe_op ho ha hb) fun σ H Q ⟨dp, H0, Hs0, Hs, ρ, P, rl, hm, k⟩ => ⟨dp, H0, Hs0, Hs, ρ, _, rl, hm, fun d1 hd1 v1 H1 Hs1 s1 q1 => ⟨dp, H0, Hs0, Hs1, ρ, _, rl.step s1, hd1, fun d2 hd2 v2 H2 Hs2 s2 q2 => ?_⟩⟩
  obtain ⟨i1, i2, hS⟩ := hd2
  have q1' := Rep.mono s2.ext _ _ q1
  obtain ⟨p, dx, fs, rfl, h1⟩ := insOf_rep s2.bs i1 q1'
  obtain ⟨q, dy, gs, rfl, h2⟩ := insOf_rep s2.bs i2 q2
  exact ⟨p, q, dx, dy, fs, gs, rfl, rfl, h1, h2, dp, Hs2, [d1, d2], P, X0, s2.bs, .cons q1' (.cons q2 .nil), hS, fun d hd v H3 Hs3 s3 q3 => k d hd v H3 Hs3 (s1.trans (s2.trans s3)) q3, fun C d hx => hx.elim⟩
/-- o[i] by an own __getitem__ -/
def Gd (P : Program) (w : World) (K : PySem.W.Frag) (mg : Str → Option Value) (base : Heap) (C : Addr) (k : Nat) (ps : List Str) (S : SpD) : Prop :=
  ∃ (f : Addr) (fd : FuncData), FnOk P w K mg base (L2.CX P w) k f fd ps (spOf K S) ∧ PySem.W.findIn K (.ref C) "__getitem__" = some (some (.ref f)) ∧ PySem.W.fnIn K f = true ∧ PySem.W.isFn K (.ref f) = true ∧ Binds K fd ps []
def tOG (K : PySem.W.Frag) (C : Addr) (S : SpD) (E : Sg → XK) (ta tb : TE) : TE := fun σ H Q => ta σ H fun x H1 => tb σ H1 fun y H2 => ∃ p dx fs, x = .ref p ∧ H2 p = some (.ins C dx fs) ∧ spOf K S [x, y] H2 Q (E σ)
theorem pe_ownget {E : Sg → XK} {ps : List Str} {ta tb : TE} (G : Gd X.prog X.w X.K X.mg X.base C k ps S) (hr : Room (k + 1) X.A) (hx : ∀ σ, PassesAt (L2.CX X.prog X.w) X σ (E σ)) (ha : PE X a ta) (hb : PE X b tb)
    (hsl : ∀ o i, subscripted b true o i = runValue (.builtin "lifetime.subscript" ⟨[o, i], []⟩) := by intro _ _; rfl) : PE X (.Subscript a b pos) (tOG X.K C S E ta tb) := by
  obtain ⟨f, fd, F, hs, hf, hfn, hbi⟩ := G
  refine ⟨fun pins s σ H Q I h => ?_⟩
  refine Subscript_ (binT ha hb I h fun v u s2 x y H2 I2 rx ry hq => ?_)
  obtain ⟨p, dx, fs, ex, hp, hsp⟩ := hq
  subst ex
  obtain rfl : v = Value.ref p := rx
  obtain ⟨m1, O1, _⟩ := ins_get I2.hok hp
  obtain ⟨od1, J1, _⟩ := O1.look
  obtain ⟨mm, fr⟩ := I2.fr
  refine PySem.W.sub_K fr I2.ok.mod.kin J1 hs hf hfn ?_ (hsl _ _)
  have hl : ([Value.ref p, u] : List Value).length = ps.length := by
    have := F.len _ _ _ _ hsp
    exact this
  have hb2 : BindsTo s2 fd ⟨[.ref p, u], []⟩ (ps.zip [.ref p, u]) := by
    have := hbi s2 [.ref p, u] I2.kIn (by rw [List.append_nil]; exact hl)
    rw [List.append_nil] at this
    exact this
  refine wpAny_call (codeAny_mono (F.run X.A.in1 X.stack s2 H2 ⟨[.ref p, u], []⟩ [.ref p, u] [.ref p, y] Q (E σ) hr.in1 I2.env0.in1 hb2 (.cons rfl (.cons ry .nil)) hsp) fun r s' hq => ?_)
  cases r with
  | error er => exact hx σ pins H2 s2 er s' I2 hq
  | ok fl =>
    cases fl with
    | ret u => exact I2.after hq
    | next => exact False.elim hq
    | brk => exact False.elim hq
    | cont => exact False.elim hq
def ogtD (C : Addr) (S : SpD) (ma mb : TEd) : TEd := fun ρ P => ma ρ fun d1 => mb ρ fun d2 => insOf C d1 ∧ S [d1, d2] P X0
theorem passAt0 {X : Cx} (σ : Sg) : PassesAt (L2.CX X.prog X.w) X σ E0 := fun _ _ _ _ _ _ h => by
  obtain ⟨_, _, _, _, _, _, _, _, _, _, _, _, z⟩ := h
  exact z.elim
theorem d_ownget {ps : List Str} (G : Gd X.prog X.w X.K X.mg X.base C k ps S) (hr : Room (k + 1) X.A) (ha : PEd X a ma) (hb : PEd X b mb)
    (hsl : ∀ o i, subscripted b true o i = runValue (.builtin "lifetime.subscript" ⟨[o, i], []⟩) := by intro _ _; rfl) : PEd X (.Subscript a b pos) (ogtD C S ma mb) := by
  refine PE.mono (pe_ownget (E := fun _ => E0) G hr (fun σ => passAt0 σ) ha hb hsl) fun σ H Q ⟨dp, H0, Hs0, Hs, ρ, P, rl, hm, k⟩ => ⟨dp, H0, Hs0, Hs, ρ, _, rl, hm, fun d1 hd1 v1 H1 Hs1 s1 q1 => ⟨dp, H0, Hs0, Hs1, ρ, _, rl.step s1, hd1, fun d2 hd2 v2 H2 Hs2 s2 q2 => ?_⟩⟩
  obtain ⟨i1, hS⟩ := hd2
  have q1' := Rep.mono s2.ext _ _ q1
  obtain ⟨p, dx, fs, rfl, h1⟩ := insOf_rep s2.bs i1 q1'
  exact ⟨p, dx, fs, rfl, h1, dp, Hs2, [d1, d2], P, X0, s2.bs, .cons q1' (.cons q2 .nil), hS, fun d hd v H3 Hs3 s3 q3 => k d hd v H3 Hs3 (s1.trans (s2.trans s3)) q3, fun C d hx => hx.elim⟩
end

/-! ### expressions that may raise -/
abbrev TXd := Env → (D → Prop) → XD → Prop
def tX (K : PySem.W.Frag) (W : WX) (m : TXd) : TE := fun σ H Q => ∃ dp H0 Hs0 Hs ρ P PX, Rl K dp H0 Hs0 σ H Hs ρ ∧ m ρ P PX ∧ (∀ d, P d → ∀ v H' Hs', Stp dp H Hs H' Hs' → Rep K dp Hs' d v → Q v H') ∧
  (∀ C d, PX C d → ∀ dx v H' Hs', Stp dp H Hs H' Hs' → H' dx = some (.xd [("value", v)]) → Rep K dp Hs' d v → W (.ref C) (some dx) σ H')
def PEx (X : Cx) (W : WX) (e : Expr) (m : TXd) : Prop := PE X e (tX X.K W m)
section
variable {X : Cx} {W : WX} {a b e : Expr} {es : List Expr} {ma mb m me : TEd} {mx : TXd} {ms : TAd} {C : Addr} {pos p : Pos} {op : Operator} {k : Nat} {S : SpD} {ps : List Str} {x : Str}
def ogtX (C : Addr) (S : SpD) (ma mb : TEd) : TXd := fun ρ P PX => ma ρ fun d1 => mb ρ fun d2 => insOf C d1 ∧ S [d1, d2] P PX
theorem x_ownget (tk : Takes X W) (G : Gd X.prog X.w X.K X.mg X.base C k ps S) (hr : Room (k + 1) X.A) (ha : PEd X a ma) (hb : PEd X b mb)
    (hsl : ∀ o i, subscripted b true o i = runValue (.builtin "lifetime.subscript" ⟨[o, i], []⟩) := by intro _ _; rfl) : PEx X W (.Subscript a b pos) (ogtX C S ma mb) := by
  refine PE.mono (pe_ownget (E := WE W) G hr (fun σ => passAt tk σ) ha hb hsl) fun σ H Q ⟨dp, H0, Hs0, Hs, ρ, P, PX, rl, hm, k, kx⟩ => ⟨dp, H0, Hs0, Hs, ρ, _, rl, hm, fun d1 hd1 v1 H1 Hs1 s1 q1 => ⟨dp, H0, Hs0, Hs1, ρ, _, rl.step s1, hd1, fun d2 hd2 v2 H2 Hs2 s2 q2 => ?_⟩⟩
  obtain ⟨i1, hS⟩ := hd2
  have q1' := Rep.mono s2.ext _ _ q1
  obtain ⟨p, dx, fs, rfl, h1⟩ := insOf_rep s2.bs i1 q1'
  exact ⟨p, dx, fs, rfl, h1, dp, Hs2, [d1, d2], P, PX, s2.bs, .cons q1' (.cons q2 .nil), hS, fun d hd v H3 Hs3 s3 q3 => k d hd v H3 Hs3 (s1.trans (s2.trans s3)) q3, fun C d hx dx v H3 Hs3 s3 e q3 => kx C d hx dx v H3 Hs3 (s1.trans (s2.trans s3)) e q3⟩
def callX (S : SpD) (ms : TAd) : TXd := fun ρ P PX => ms ρ fun ds => S ds P PX
theorem x_call (tk : Takes X W) (F : Fd X.prog X.w X.K X.mg X.base x k ps S) (hr : Room k X.A) (hg : Gl X x) (ha : PAd X (e :: es) ms) (hdb : (x == ("__debug__" : Str)) = false := by decide)
    (he : starEach (e :: es) X.env = (false, eval e X.env) :: starEach es X.env := by rfl) (hpl : (backTo pos (starEach es X.env)).any (·.1) = false := by rfl) : PEx X W (.Call (.Name x p) (e :: es) [] pos) (callX S ms) := by
  obtain ⟨f, fd, G, hm, hk, hb⟩ := F
  refine PE.mono (pe_callS G hr hg hm hk hb (E := WE W) (fun σ => passAt tk σ) ha hdb he hpl) fun σ H Q ⟨dp, H0, Hs0, Hs, ρ, P, PX, rl, hm, k, kx⟩ => ⟨dp, H0, Hs0, Hs, ρ, _, rl, hm, fun ds hds vs H1 Hs1 s1 q1 => ?_⟩
  exact ⟨dp, Hs1, ds, P, PX, s1.bs, q1, hds, fun d hd v H2 Hs2 s2 q2 => k d hd v H2 Hs2 (s1.trans s2) q2, fun C d hx dx v H3 Hs3 s3 e q3 => kx C d hx dx v H3 Hs3 (s1.trans s3) e q3⟩
def dropX (m : TXd) : TSd := fun DD ρ => m ρ (fun _ => DD.nx ρ) (DD.ex ρ)
theorem ds_exprX (he : PEx X W e mx) (hs : swapsWith e none pos.line X.env = pure false := by rfl) : PSd X W (.Expr e pos) (dropX mx) :=
  PS.mono (ps_expr he hs) fun Dn σ H ⟨dp, H0, Hs0, Hb, Hs, ρ, DD, rl, hb, hm, eo⟩ => ⟨dp, H0, Hs0, Hs, ρ, _, _, rl, hm, fun d hd v H' Hs' s q => eo.nx ρ σ H' Hs' hd (rl.step s) (hb.trans s.ext), fun C d hx dx v H' Hs' s e q => eo.ex ρ C d hx σ dx v H' Hs' (rl.step s) (hb.trans s.ext) e q⟩
def setX (i : Nat) (m : TXd) : TSd := fun DD ρ => m ρ (fun d => DD.nx (ρ.set i (.sh d))) (DD.ex ρ)
theorem ds_setX {i : Nat} {pos' : Pos} (hN : X.N.Nodup) (hi : X.N[i]? = some x) (hx : Loc X.env.scope x) (he : PEx X W e mx) (hs : swapsWith e (some (.Name x pos')) pos.line X.env = pure false := by rfl)
    (hf : X.fn x = true ∨ X.env.scope.names.lookup x = some .local := by first | exact .inl rfl | exact .inr rfl | assumption) : PSd X W (.Assign [.Name x pos'] e pos) (setX i mx) :=
  PS.mono (ps_set hN hi hx he hs hf) fun Dn σ H ⟨dp, H0, Hs0, Hb, Hs, ρ, DD, rl, hb, hm, eo⟩ => ⟨dp, H0, Hs0, Hs, ρ, _, _, rl, hm, fun d hd v H' Hs' s q => eo.nx _ _ H' Hs' hd ((rl.step s).set i q) (hb.trans s.ext), fun C d hx dx v H' Hs' s e q => eo.ex ρ C d hx σ dx v H' Hs' (rl.step s) (hb.trans s.ext) e q⟩
def retX (m : TXd) : TSd := fun DD ρ => m ρ DD.rt (DD.ex ρ)
theorem ds_retX (he : PEx X W e mx) : PSd X W (.Return (some e) pos) (retX mx) :=
  PS.mono (ps_ret he) fun Dn σ H ⟨dp, H0, Hs0, Hb, Hs, ρ, DD, rl, hb, hm, eo⟩ => ⟨dp, H0, Hs0, Hs, ρ, _, _, rl, hm, fun d hd v H' Hs' s q => eo.rt d hd v H' Hs' (rl.stp.trans s) q, fun C d hx dx v H' Hs' s e q => eo.ex ρ C d hx σ dx v H' Hs' (rl.step s) (hb.trans s.ext) e q⟩
end

/-! ### raise C(e): the class C takes one argument and keeps it as value -/
def spExc (K : PySem.W.Frag) (C : Addr) : Sp := fun vs H Q _ => ∃ (a : Addr) (y : V), vs = [.ref a, y] ∧ H a = some (exo a C none) ∧ ∀ dx, H dx = none → dx ≠ a → Q .non (upd (upd H dx (exd dx [("value", y)])) a (exo a C (some dx)))
/-- what is known of an error's class x at C, its __init__ at fI -/
structure XcT (P : Program) (w : World) (K : PySem.W.Frag) (mg : Str → Option Value) (base : Heap) (x : Str) (C : Addr) : Prop where
  ex : OexC K C
  nov : PySem.W.findIn K (.ref C) "value" = some none
  gC : mg x = some (.ref C)
  ini : ∃ (fI : Addr) (fd : FuncData), PySem.W.findIn K (.ref C) "__init__" = some (some (.ref fI)) ∧ PySem.W.typeIn K (.ref fI) = some (.type "function") ∧ FnOk P w K mg base (L2.CX P w) 1 fI fd ["self", "value"] (spExc K C) ∧ Binds K fd ["self", "value"] []
section
variable {X : Cx} {W : WX} {e : Expr} {m me : TEd} {C : Addr} {pos p p2 : Pos} {x : Str}
def rseD (C : Addr) (m : TEd) : TSd := fun DD ρ => m ρ fun d => DD.ex ρ C d
theorem ds_raise (hc : X.calm = true) (tk : Takes X W) (T : XcT X.prog X.w X.K X.mg X.base x C) (hr : Room 2 X.A) (hg : Gl X x) (he : PEd X e me) (hdb : (x == ("__debug__" : Str)) = false := by decide)
    (hse : starEach [e] X.env = (false, eval e X.env) :: starEach [] X.env := by rfl) (hpl : (backTo pos (starEach [] X.env)).any (·.1) = false := by rfl) :
    PSd X W (.Raise (some (.Call (.Name x p) [e] [] pos)) none p2) (rseD C me) := by
  obtain ⟨fI, fd, iC, tI, F, hb⟩ := T.ini
  refine PS.mono (ps_raise hc tk (pmk_oex T.ex iC tI F hr hb .nil passL hg T.gC (da_cons he da_nil hse) hdb hse hpl)) fun Dn σ H ⟨dp, H0, Hs0, Hb, Hs, ρ, DD, rl, hbb, hm, eo⟩ => ?_
  refine arg1 rl hm fun d hd v H1 Hs1 s q => ⟨by show 1 ≤ 1000; decide, fun a ha => ⟨a, v, rfl, upd_same, fun dx hdx hne => ⟨rfl, dx, [("value", v)], upd_same, ?_, ?_, ?_⟩⟩⟩
  · rw [upd_ne hne, upd_same]
  · rw [upd_ne hne] at hdx; exact hdx
  · have hd1 : H1 dx = none := by rw [upd_ne hne] at hdx; exact hdx
    have eH : upd (del (upd (upd (upd H1 a (exo a C none)) dx (exd dx [("value", v)])) a (exo a C (some dx))) a) dx (HO.xd [("value", v)]) = upd H1 dx (HO.xd [("value", v)]) := by
      funext z
      by_cases h1 : z = dx
      · subst h1; rw [upd_same, upd_same]
      · rw [upd_ne h1, upd_ne h1]
        by_cases h2 : z = a
        · subst h2; rw [del_same, ha]
        · rw [del_ne h2, upd_ne h2, upd_ne h1, upd_ne h2]
    rw [eH]
    have s2 : Stp dp H1 Hs1 (upd H1 dx (HO.xd [("value", v)])) Hs1 := .laidO s.bs hd1
    exact eo.ex ρ C d hd σ dx v _ Hs1 (rl.step (s.trans s2)) (hbb.trans (s.trans s2).ext) upd_same q
end
end DL

set_option Elab.async false
set_option linter.all false
set_option autoImplicit false
set_option maxRecDepth 100000
set_option maxHeartbeats 4000000
namespace DL
open PySem PySem.Spec PyProof.Rows L2

/-! ### isinstance -/
structure InsT (K : PySem.W.Frag) (C : Addr) : Prop where
  cl : Cls K C
  ha : PySem.W.findIn K (.ref C) "__class__" = some (some (.builtin "object.__class__"))
  hn : PySem.W.specialIn K (.builtin "object.__class__") "__get__" = some (some (.builtin "getset_descriptor.__get__"))
  htk : PySem.W.takesIn K (.builtin "object.__class__") = some true
  hm : PySem.W.mroIn K C (.type "object") = some true
def tyT : D → Option Value
  | .non => some (.type "NoneType")
  | .bl _ => some (.type "bool")
  | .int _ => some (.type "int")
  | .str _ => some (.type "str")
  | .lst _ => some (.type "list")
  | .tup _ => some (.type "tuple")
  | .ins C _ _ => some (.ref C)
  | .deck => none
  | .scr _ => none
def insKnown (K : PySem.W.Frag) : D → Prop
  | .ins C _ _ => InsT K C
  | _ => True
def isiD (K : PySem.W.Frag) (u : Value) (m : TEd) : TEd := fun ρ P => m ρ fun d => insKnown K d ∧ ∃ t b, tyT d = some t ∧ PySem.W.kitOne K t u = some b ∧ P (.bl b)
theorem tyX_of {K : PySem.W.Frag} {dp : Option (Addr × Addr)} {H Hs : Hp} (bs : Bs dp H Hs) : ∀ {d : D} {v : V} {t : Value}, RepB K dp H Hs d v → insKnown K d → tyT d = some t → TyX K H v t
  | .non, v, t, q, _, e => by rw [q.non]; cases e; exact .base .non
  | .bl _, v, t, q, _, e => by rw [q.bl]; cases e; exact .base (.bl _)
  | .int _, v, t, q, _, e => by rw [q.int]; cases e; exact .base (.int _)
  | .str _, v, t, q, _, e => by rw [q.str]; cases e; exact .base (.str _)
  | .lst _, v, t, q, _, e => by
    obtain ⟨a, vs, rfl, h1, _⟩ := q.lst
    cases e; exact .base (.lst h1)
  | .tup _, v, t, q, _, e => by
    obtain ⟨a, vs, rfl, h1, _⟩ := RepB.tp bs q
    cases e
    rcases h1 with (h1 | ⟨o, h1⟩) | ⟨o, its, n, h1, h2, _⟩
    · exact .base (.tup h1)
    · exact .fTuple h1
    · exact .kTuple h1 h2
  | .ins C _ _, v, t, q, k, e => by
    obtain ⟨a, dx, gs, rfl, h1, _⟩ := q
    cases e
    have k' : InsT K C := k
    exact .base (.ins h1 k'.cl k'.ha k'.hn k'.htk k'.hm)
  | .deck, _, _, _, _, e => by cases e
  | .scr _, _, _, _, _, e => by cases e
section
variable {X : Cx} {W : WX} {e c : Expr} {m me : TEd} {pos p : Pos} {u : Value} {cv : V}
theorem d_isi {K : PySem.W.Frag} (hK : X.K = K) (hg : Gl X "isinstance") (hm : X.mg "isinstance" = none) (hc : PE X c (tC cv)) (hk : ClsV cv u) (he : PEb X e m)
    (hs : starEach [e, c] X.env = (false, eval e X.env) :: starEach [c] X.env := by rfl) (hs2 : starEach [c] X.env = (false, eval c X.env) :: starEach [] X.env := by rfl) (hpl : (backTo pos (starEach [c] X.env)).any (·.1) = false := by rfl) :
    PEd X (.Call (.Name "isinstance" p) [e, c] [] pos) (isiD K u m) := by
  subst hK
  refine PE.mono (pe_callB call_isi hg hm bt_isinstance (pa_cons he (pa_cons hc pa_nil hs2) hs) (by decide) (by decide) hs hpl) fun σ H Q ⟨dp, H0, Hs0, Hs, ρ, P, rl, hm, k⟩ => ?_
  refine ⟨dp, H0, Hs0, Hs, ρ, _, rl, hm, fun d hd v H1 Hs1 s q => ?_⟩
  obtain ⟨hi, t, b, ht, hb, hp⟩ := hd
  exact ⟨v, cv, t, u, b, rfl, hk, tyX_of s.bs q hi ht, hb, k _ hp _ H1 Hs1 s rep_bl⟩
theorem pe_tyN {x : Str} {T : String} (hg : Gl X x) (hm : X.mg x = none) (hv : bootBuiltins x = some (.type T)) (hn : x ≠ "__name__" := by decide) (hd : (x == ("__debug__" : Str)) = false := by decide) : PE X (.Name x pos) (tC (.ty T)) := pe_bltn hg hm hv rfl hn hd
theorem pe_clsN {x : Str} {C : Addr} (hg : Gl X x) (hm : X.mg x = some (.ref C)) (hd : (x == ("__debug__" : Str)) = false := by decide) : PE X (.Name x pos) (tC (.ref C)) := pe_glob hg hm rfl hd
/-- is, is not between bools -/
def isBD : RD2 := fun x y P => match x, y with
  | .bl a, .bl b => P (.bl (decide (a = b)))
  | _, _ => False
def notBD : RD2 := fun x y P => match x, y with
  | .bl a, .bl b => P (.bl (!decide (a = b)))
  | _, _ => False
theorem o_isB : OpD X (compareOp .Is) isBD := ⟨_, op_isBl, fun dp H Hs d1 d2 v1 v2 P Q bs q1 q2 hd k => by
  unfold isBD at hd
  split at hd
  · exact ⟨_, _, q1.bl, q2.bl, k _ hd _ H Hs (.refl bs) rep_bl⟩
  · exact hd.elim⟩
theorem o_notB : OpD X (compareOp .IsNot) notBD := ⟨_, op_notBl, fun dp H Hs d1 d2 v1 v2 P Q bs q1 q2 hd k => by
  unfold notBD at hd
  split at hd
  · exact ⟨_, _, q1.bl, q2.bl, k _ hd _ H Hs (.refl bs) rep_bl⟩
  · exact hd.elim⟩
end

/-! ### a def that may raise -/
section
variable {P : Program} {w : World} {K : PySem.W.Frag} {mg : Str → Option Value} {base : Heap}
theorem fn_mkX {x qual : Str} {st : Stmt} {f : Addr} {fd : FuncData} {N ps : List Str} {k : Nat} {S : SpD} (F : Fun K x qual st f fd) (sc : FnScope N ps (defScope st)) (len : ∀ ds P PX, S ds P PX → ds.length = ps.length)
    (hbody : ∃ m, (∀ (cdv : Value) (A : Around) (outer : List PySem.Env) (s : Shared) (H : Hp) (E : XK), Room k (A.deeper (envOfC qual (defScope st) s.heap.objs.size f cdv)) → PSsd (cxOf (L2.CX P w) P w K mg base N qual (defScope st) f cdv A outer s H E) (fun cls d _ H => E cls d H) (defBody st) m) ∧
      ∀ ds P PX, S ds P PX → m { nx := fun _ => P .non, rt := P, ex := fun _ => PX } (startD N ds)) :
    FnOk P w K mg base (L2.CX P w) (k + 1) f fd ps (spOf K S) := by
  obtain ⟨m, hm, hp⟩ := hbody
  refine F.okX sc (fun vs H Q E ⟨dp, Hs, ds, Pd, PX, bs, hr, h, _⟩ => by rw [← hr.length]; exact len _ _ _ h) (fun cdv A outer s H vs Q E hr h => ?_)
  obtain ⟨dp, Hs, ds, Pd, PX, bs, hreps, h, k1, k2⟩ := h
  refine ⟨_, hm cdv A outer s H E hr, ?_⟩
  exact ⟨dp, H, Hs, Hs, Hs, startD N ds, _, start_rl bs hreps, Same.refl _, hp ds Pd PX h,
    ⟨fun ρ σ H' Hs' hn rl _ => k1 _ hn _ H' Hs' rl.stp rep_non, fun _ _ _ _ z => z.elim, fun _ _ _ _ z => z.elim, fun d hd v H' Hs' s q => k1 d hd v H' Hs' s q, fun ρ C d hx σ dx v H' Hs' rl _ e q => k2 C d hx dx v H' Hs' rl.stp e q⟩⟩
/-- an error's __init__: self.value = value -/
theorem exc_init {x qual : Str} {st : Stmt} {fI C : Addr} {fd : FuncData} {p1 p2 p3 p4 : Pos} (F : Fun K x qual st fI fd) (sc : FnScope ["self", "value"] ["self", "value"] (defScope st)) (T : OexC K C) (nov : PySem.W.findIn K (.ref C) "value" = some none)
    (hb : defBody st = [.Assign [.Attribute (.Name "self" p1) "value" p2] (.Name "value" p3) p4]) (h1 : (defScope st).names.lookup ("self" : Str) = some NameKind.local) (h2 : (defScope st).names.lookup ("value" : Str) = some NameKind.local) : FnOk P w K mg base (L2.CX P w) 1 fI fd ["self", "value"] (spExc K C) := by
  refine F.okX sc (fun vs H Q E ⟨a, y, e, _⟩ => by rw [e]; rfl) (fun cdv A outer s H vs Q E hr h => ?_)
  obtain ⟨a, y, rfl, ea, hq⟩ := h
  rw [hb]
  refine ⟨_, PSs.nox (pss_one (ps_ost (pv 0 rfl (.inl h1)) (pv 1 rfl (.inl h2)))), ?_⟩
  exact ⟨y, rfl, .ref a, rfl, a, C, rfl, T, nov, .inl ⟨ea, fun dx hdx hne => hq dx hdx hne⟩⟩
end

/-! ### try: .. except C as e: x = e.value -/
structure XgT (K : PySem.W.Frag) (C : Addr) : Prop where
  ga : PySem.W.findIn K (.ref C) "__getattribute__" = some (some (.builtin "BaseException.__getattribute__"))
  gg : PySem.W.findIn K (.ref C) "__getattr__" = some none
  exC : PySem.W.subIn K (.ref C) (.type "BaseException") = some true
  hdC : PySem.W.hasDictIn K C = true
  nov : PySem.W.findIn K (.ref C) "value" = some none
  te : PySem.W.exmOne K (.ref C) (.ref C) = some true
def tByV (C : Addr) (a : Addr) (cls : Value) (d : Option Addr) (te : TE) : TE := fun σ H Q => te σ H fun x H1 => x = .ref a ∧ cls = .ref C ∧ ∃ (dd : Addr) (v : V), d = some dd ∧ H1 dd = some (.xd [("value", v)]) ∧ Q v H1
section
variable {X : Cx} {W : WX} {C : Addr}
theorem pe_byV {a : Addr} {oe : Obj} {cls : Value} {d : Option Addr} {pn : List (Addr × Obj)} {e : Expr} {te : TE} {pos : Pos} (T : XgT X.K C) (hz : Zc cls d oe) (hf : ∃ vs, oe.data = .fields vs) (he : PE (X.suite a ((a, oe) :: pn)) e te)
    (hb : attributeBase e "value" X.env (eval e X.env) = eval e X.env := by rfl) :
    PE (X.suite a ((a, oe) :: pn)) (.Attribute e "value" pos) (tByV C a cls d te) := by
  refine ⟨fun pins s σ H Q I h => ?_⟩
  refine attr_of hb (thn (he.run pins s σ H _ I h) fun u s1 hh => ?_)
  obtain ⟨x, H1, I1, rx, ex, ec, dd, v, ed, ea, q⟩ := hh
  subst ex
  obtain rfl : u = Value.ref a := rx
  subst ec
  subst ed
  obtain ⟨ha, _⟩ := I1.pin (a, oe) (List.mem_append_left _ List.mem_cons_self)
  obtain ⟨vs, hd⟩ := hf
  have hx : ObjOk X.prog X.w H1 s1.heap dd (.xd [(("value" : Str), v)]) := I1.hok dd _ ea
  obtain ⟨mA, hns, hr⟩ := hx
  obtain ⟨od, ho, hl⟩ := lookIn_ns hns
  have l : List.lookup ("value" : Str) [(("value" : Str), v)] = some v := by simp [List.lookup]
  obtain ⟨u, hu, ru⟩ := RelO.some_of (v := v) (o := mA "value") (by rw [← l]; exact hr "value")
  have J : PySem.W.InstAt s1.heap a oe C (some od) := ⟨ha, hz.1, by unfold PySem.W.notCls; rw [hd] <;> rfl, by rw [hz.2]; exact ho⟩
  exact PySem.HandSPX.exc_get I1.kIn J T.ga T.gg T.exC (PySem.W.findObj_own T.hdC T.nov rfl (by rw [hl, hu])) (handed_of ru) ⟨v, H1, I1.tok _, ru, q⟩
def tryV (C : Addr) (i j : Nat) (mb : TSd) : TSd := fun DD ρ => mb { DD with ex := fun ρ' C' d => C' = C ∧ i < ρ'.length ∧ DD.nx (((ρ'.set i .no).set j (.sh d)).set i .no) } ρ
theorem ds_tryV {i j : Nat} {x n y : Str} {body : List Stmt} {mb : TSd} {np p1 p2 p3 p4 pos pos' : Pos} (hs : X.stack = X.env :: X.outer) (hf : X.env.frame = some X.env.locals) (hN : X.N.Nodup) (hi : X.N[i]? = some n) (hln : X.env.kindOf n = some .local) (hj : X.N[j]? = some y) (hjl : Loc X.env.scope y)
    (hgl : Gl X x) (hdb : (x == ("__debug__" : Str)) = false) (hm : X.mg x = some (.ref C)) (T : XgT X.K C) (tk : Takes X W)
    (hb : ∀ (W' : WX) (pn : List (Addr × Obj)) (xe : Value → Shared → Prop), Takes (X.tr pn xe) W' → PassesOwn (model X.prog X.w) X.A X.env xe → PSsd (X.tr pn xe) W' body mb)
    (hvn : (n == ("__debug__" : Str)) = false := by decide) (hvn2 : (n == ("__classdict__" : Str)) = false := by decide)
    (hat : attributeBase (.Name n p1) "value" X.env (eval (.Name n p1) X.env) = eval (.Name n p1) X.env := by rfl)
    (hsw : swapsWith (.Attribute (.Name n p1) "value" p2) (some (.Name y p3)) p4.line X.env = pure false := by rfl) (hfn : X.fn y = true ∨ X.env.scope.names.lookup y = some .local := by first | exact .inl rfl | exact .inr rfl | assumption) :
    PSd X W (.Try body [.ExceptHandler (some (.Name x np)) (some n) [.Assign [.Name y p3] (.Attribute (.Name n p1) "value" p2) p4] pos'] [] [] pos) (tryV C i j mb) := by
  have hv : Vis X.env.scope n := .inl hln
  refine PS.mono (ps_try_as (i := i) (tb := fun W' => tS X.K W' mb) (ts := fun a cls d => tAsg (tByV C a cls d (tVar i)) (gName j)) (Wout := W) hs hf hN hi hln ⟨hgl, hdb, .inl hm⟩ tk hb
    (fun a oe cls d pn hz hfl => pss_one (ps_set hN hj hjl (pe_byV T hz hfl (pe_var hi hv hvn hvn2) hat) hsw hfn))) fun Dn σ H ⟨dp, H0, Hs0, Hb, Hs, ρ, DD, rl, hbb, hm, eo⟩ => ?_
  refine ⟨dp, H0, Hs0, Hb, Hs, ρ, _, rl, hbb, hm, ⟨eo.nx, eo.bk, eo.ct, eo.rt, fun ρ' C' d ⟨hc, hlen, hd⟩ σ' dx v H' Hs' rl' sm e q => ?_⟩⟩
  subst hc
  refine ⟨true, T.te, fun _ a ha => ?_, fun z => by cases z⟩
  have hil : i < σ'.length := by rw [← rl'.len]; exact hlen
  refine ⟨.ref a, by rw [List.getElem?_set_self hil], rfl, rfl, dx, v, rfl, e, ?_⟩
  exact eo.nx _ _ _ Hs' hd (((rl'.wipe1 i _).set j q).wipe1 i none) sm
end
theorem kit_self (K : PySem.W.Frag) (t : Value) (h : (t == t) = true) : PySem.W.kitOne K t t = some true := by unfold PySem.W.kitOne; rw [if_pos h]
theorem kit_ii (K : PySem.W.Frag) : PySem.W.kitOne K (.type "int") (.type "int") = some true := kit_self K _ (by decide +kernel)
theorem kit_ll (K : PySem.W.Frag) : PySem.W.kitOne K (.type "list") (.type "list") = some true := kit_self K _ (by decide +kernel)
theorem kit_tt (K : PySem.W.Frag) : PySem.W.kitOne K (.type "tuple") (.type "tuple") = some true := kit_self K _ (by decide +kernel)
theorem kit_ss (K : PySem.W.Frag) : PySem.W.kitOne K (.type "str") (.type "str") = some true := kit_self K _ (by decide +kernel)
theorem kit_bb (K : PySem.W.Frag) : PySem.W.kitOne K (.type "bool") (.type "bool") = some true := kit_self K _ (by decide +kernel)
theorem kit_ib (K : PySem.W.Frag) : PySem.W.kitOne K (.type "int") (.type "bool") = some false := by
  unfold PySem.W.kitOne PySem.W.kitCls PySem.W.subIn
  rfl
theorem kit_cc (K : PySem.W.Frag) (C : Addr) : PySem.W.kitOne K (.ref C) (.ref C) = some true := kit_self K _ (by simp)
end DL

set_option Elab.async false
set_option linter.all false
set_option autoImplicit false
set_option maxRecDepth 100000
set_option maxHeartbeats 4000000
namespace DLE
open PySem PySem.Spec PySem.Calls PyProof.Rows PySem.W
section
variable {prog : Program} {w : World} {A : Around} {E : Value → Shared → Prop} {s : Shared} {K : Frag} {x C f L : Addr} {h₀ : Heap} {m : Str → Option Value} {ox : Obj} {od : Option Obj} {b tb : Value}
theorem ne_bind (self : Value) : bindSpecial (.builtin "object.__ne__") self = pure (.builtin "object.__ne__", [self]) := (PySem.F.cmp_object).ne.bind self
theorem ifBound_B {M : Model} {args : List Value} {Q : Option Value → Shared → Prop} (X : K.In s.heap) (I : InstAt s.heap x ox C od) (hs : findIn K (.ref C) "__ne__" = some (some (.builtin "object.__ne__")))
    (h : wpAny M A (call (.builtin "object.__ne__") (.ref x :: args)) (fun v => Q (some v)) E s) : wpAny M A (callSpecialIfBound? (.ref x) "__ne__" args) Q E s := by
  simp only [callSpecialIfBound?, bindSpecialIfBound?]
  refine wpAny_holding (wpAny_bind (wpAny_bind (wpAny_bind (I.type.here ((looks_findIn X hs).here ?_)))))
  simp only [ne_bind]
  refine wpAny_bind (wpAny_askSetting (wpAny_ite ?_))
  have fin : wpAny M A (call (.builtin "object.__ne__") ([.ref x] ++ args) >>= fun v => pure (some v)) Q E s := wpAny_bind (wpAny_mono h (fun v s' h' => wpAny_pure h') fun _ _ h' => h')
  split
  · exact wpAny_bind (wpAny_pure (wpAny_pure fin))
  · exact wpAny_tryCatch (wpAny_bind (wpAny_pure (wpAny_pure fin)))
theorem objNe_K (hu : A.units < cLine) (X : K.In s.heap) (I : InstAt s.heap x ox C od) (hs : findIn K (.ref C) "__eq__" = some (some (.ref f))) (hf : isFn K (.ref f) = true) {Q : Fin → Shared → Prop}
    (hcall : wpAny (model prog w) A (call (.ref f) [.ref x, b]) (fun v s' => ∃ c, v = .bool c ∧ Q (.done (.ret (.bool (!c)))) s') E s) :
    wpAny (model prog w) A (Builtin.«object.__ne__» ⟨[.ref x, b], []⟩) Q E s := by
  obtain ⟨h, g, d, t, os⟩ := s
  unfold Builtin.«object.__ne__»
  repeat (first
    | with_reducible refine wpAny_cRoomFor hu ?_
    | (refine wpAny_bind (m := callSpecialIfBound? (.ref x) (Str.ofString "__eq__") [b])
        (ifBound_K X I hs hf (wpAny_mono hcall (fun r s' hr => by
          obtain ⟨c, rfl, hq⟩ := hr
          repeat (first | exact hq | exact wpAny_pure hq | exact wpAny_truthy_bool hq | (refine wpAny_bind (m := truthy (.bool _)) (wpAny_truthy_bool ?_)) | wp_step)) fun _ _ e => e)))
    | wp_step)
theorem ne_K {Q : Value → Shared → Prop} (hu : A.units + 1 < cLine) (F : Fr h₀ L s.heap m) (X₀ : K.In h₀) (I : InstAt s.heap x ox C od) (hb : Looks (model prog w) s.heap (typeOf b) tb) (hn : notFirst K C tb = true)
    (hs : findIn K (.ref C) "__eq__" = some (some (.ref f))) (hs2 : findIn K (.ref C) "__ne__" = some (some (.builtin "object.__ne__"))) (hm : mroIn K C (.type "object") = some true) (hf : isFn K (.ref f) = true)
    (h : wpAny (model prog w) A.in1 (call (.ref f) [.ref x, b]) (fun v s' => ∃ c, v = .bool c ∧ Q (.bool (!c)) s') E s) : wpAny (model prog w) A (richCompare .NotEq (.ref x) b) Q E s := by
  have X := X₀.keeps F.keep
  have one : wpAny (model prog w) A (tryCompare (.ref x) "__ne__" b) (fun r s' => ∃ v, r = some v ∧ Q v s') E s := by
    unfold tryCompare
    refine wpAny_bind (ifBound_B X I hs2 (wpAny_call (codeAny_call_builtin (PySem.F.cmp_object).ne.plain PySem.F.cmpEntry_ne
      (check_slot PySem.F.cmpKind_ne PySem.F.cmpSplit_ne ((I.type).andThen (looks_subIn X (t := .ref C) hm)) (PySem.F.cmpArgs_ne _ _)
        (objNe_K (A := A.in1) hu X I hs hf (wpAny_mono h (fun v s' hv => ?_) fun _ _ e => e))))))
    obtain ⟨c, rfl, hq⟩ := hv
    first
      | exact ⟨c, rfl, wpAny_pure ⟨_, rfl, hq⟩⟩
      | exact ⟨c, rfl, wpAny_pure (wpAny_pure ⟨_, rfl, hq⟩)⟩
      | exact ⟨c, rfl, ⟨_, rfl, hq⟩⟩
  unfold richCompare
  simp only [oneThing_ref]
  refine wpAny_holding (wpAny_bind (wpAny_cRoomFor (Nat.lt_of_succ_lt hu) ?_))
  refine wpAny_bind (I.type.here (wpAny_bind (hb.here ?_)))
  split
  · rename_i q
    have e : subIn K tb (.ref C) = some false := by
      rcases Bool.or_eq_true_iff.mp hn with e | e
      · rw [beq_iff_eq.mp e] at q; simp at q
      · exact beq_iff_eq.mp e
    refine wpAny_bind ((looks_subIn X e).here ?_)
    simp only [Bool.false_eq_true, if_false]
    refine wpAny_bind (wpAny_mono one (fun r s' z => ?_) fun _ _ e => e)
    obtain ⟨v, rfl, hq⟩ := z
    exact wpAny_pure hq
  · refine wpAny_bind (wpAny_pure ?_)
    simp only [Bool.false_eq_true, if_false]
    refine wpAny_bind (wpAny_mono one (fun r s' z => ?_) fun _ _ e => e)
    obtain ⟨v, rfl, hq⟩ := z
    exact wpAny_pure hq
end
end DLE

namespace DL
open PySem PySem.Spec PyProof.Rows L2
/-- the class at C has == as a def of its own that keeps S, and no != -/
def Ed (P : Program) (w : World) (K : PySem.W.Frag) (mg : Str → Option Value) (base : Heap) (C : Addr) (k : Nat) (S : SpD) : Prop :=
  ∃ (f : Addr) (fd : FuncData), FnOk P w K mg base (L2.CX P w) k f fd ["self", "other"] (spOf K S) ∧ PySem.W.findIn K (.ref C) "__eq__" = some (some (.ref f)) ∧ PySem.W.isFn K (.ref f) = true ∧
    PySem.W.findIn K (.ref C) "__ne__" = some (some (.builtin "object.__ne__")) ∧ PySem.W.mroIn K C (.type "object") = some true ∧ Binds K fd ["self", "other"] []
def rOeq (K : PySem.W.Frag) (C : Addr) (S : SpD) (g : Bool → Bool) : R2 := fun x y H Q => ∃ p dx fs t, x = .ref p ∧ H p = some (.ins C dx fs) ∧ TyX K H y t ∧ PySem.W.notFirst K C t = true ∧ spOf K S [x, y] H (fun v H' => ∃ c, v = .bl c ∧ Q (.bl (g c)) H') E0
section
variable {X : Cx} {W : WX} {a b e : Expr} {ma mb m me : TEd} {ms : TAd} {C : Addr} {pos : Pos} {k : Nat} {S : SpD}
theorem opr_oeq (G : Ed X.prog X.w X.K X.mg X.base C k S) (hr : Room k X.A) : OpR X (compareOp .Eq) (rOeq X.K C S fun c => c) := by
  obtain ⟨f, fd, F, hs, hf, hne, hmo, hbi⟩ := G
  intro pins s σ H x y v u Q I rx ry ⟨p, dx, fs, t, ex, hp, ht, hn, hsp⟩
  subst ex
  obtain rfl : v = Value.ref p := rx
  obtain ⟨m1, O1, _⟩ := ins_get I.hok hp
  obtain ⟨od1, J1, _⟩ := O1.look
  obtain ⟨mm, fr⟩ := I.fr
  obtain ⟨Pk, kx, hk, _⟩ := kit_of I ry ht
  show wpAny (model X.prog X.w) X.A (richCompare .Eq _ u) (EP X pins σ Q) X.xe s
  refine PySem.W.cmp_K (op := .Eq) hr.units0 fr I.ok.mod.kin J1 (kx.ty _ _ I.kIn hk) hn hs hf ?_
  exact thn (run_fn (us := [.ref p, u]) (vs := [.ref p, y]) F hr hbi .nil passL I (.cons rfl (.cons ry .nil)) hsp) fun u s' ⟨v, H', I', r', c, ev, q⟩ => by
    subst ev
    cases r'
    exact ⟨.bl c, H', I', rfl, q⟩
theorem opr_one (G : Ed X.prog X.w X.K X.mg X.base C k S) (hr : Room (k + 1) X.A) : OpR X (compareOp .NotEq) (rOeq X.K C S fun c => !c) := by
  obtain ⟨f, fd, F, hs, hf, hne, hmo, hbi⟩ := G
  intro pins s σ H x y v u Q I rx ry ⟨p, dx, fs, t, ex, hp, ht, hn, hsp⟩
  subst ex
  obtain rfl : v = Value.ref p := rx
  obtain ⟨m1, O1, _⟩ := ins_get I.hok hp
  obtain ⟨od1, J1, _⟩ := O1.look
  obtain ⟨mm, fr⟩ := I.fr
  obtain ⟨Pk, kx, hk, _⟩ := kit_of I ry ht
  show wpAny (model X.prog X.w) X.A (richCompare .NotEq _ u) (EP X pins σ Q) X.xe s
  refine DLE.ne_K (hu_of hr) fr I.ok.mod.kin J1 (kx.ty _ _ I.kIn hk) hn hs hne hmo hf ?_
  have hb2 : BindsTo s fd ⟨[.ref p, u], []⟩ ((["self", "other"] : List Str).zip [.ref p, u]) := by
    have := hbi s [.ref p, u] I.kIn rfl
    rw [List.append_nil] at this
    exact this
  refine wpAny_call (codeAny_mono (F.run X.A.in1 X.stack s H ⟨[.ref p, u], []⟩ [.ref p, u] [.ref p, y] _ E0 hr.in1 I.env0.in1 hb2 (.cons rfl (.cons ry .nil)) hsp) fun r s' hq => ?_)
  cases r with
  | error er => exact (passL (pins := pins) (σ := σ) H s er s' I hq)
  | ok fl =>
    cases fl with
    | ret u =>
      obtain ⟨v, H', I', r', c, ev, q⟩ := I.after hq
      subst ev
      cases r'
      exact ⟨c, rfl, .bl (!c), H', I', rfl, q⟩
    | next => exact False.elim hq
    | brk => exact False.elim hq
    | cont => exact False.elim hq
def oeqD (K : PySem.W.Frag) (C : Addr) (S : SpD) (g : Bool → Bool) (ma mb : TEd) : TEd := fun ρ P => ma ρ fun d1 => mb ρ fun d2 => insOf C d1 ∧ insKnown K d2 ∧ (∃ t, tyT d2 = some t ∧ PySem.W.notFirst K C t = true) ∧ S [d1, d2] (fun d => match d with
  | .bl c => P (.bl (g c))
  | _ => False) X0
theorem oeq_run {K : PySem.W.Frag} {g : Bool → Bool} {σ : Sg} {H : Hp} {Q : VK} (h : tD K (oeqD K C S g ma mb) σ H Q) : tOp (rOeq K C S g) (tD K ma) (tD K mb) σ H Q := by
  obtain ⟨dp, H0, Hs0, Hs, ρ, P, rl, hm, k⟩ := h
  refine ⟨dp, H0, Hs0, Hs, ρ, _, rl, hm, fun d1 hd1 v1 H1 Hs1 s1 q1 => ⟨dp, H0, Hs0, Hs1, ρ, _, rl.step s1, hd1, fun d2 hd2 v2 H2 Hs2 s2 q2 => ?_⟩⟩
  obtain ⟨i1, i2, ⟨t, ht, hn⟩, hS⟩ := hd2
  have q1' := Rep.mono s2.ext _ _ q1
  obtain ⟨p, dx, fs, rfl, h1⟩ := insOf_rep s2.bs i1 q1'
  refine ⟨p, dx, fs, t, rfl, h1, tyX_of s2.bs (Rep.b s2.bs _ _ q2) i2 ht, hn, dp, Hs2, [d1, d2], _, X0, s2.bs, .cons q1' (.cons q2 .nil), hS, fun d hd v H3 Hs3 s3 q3 => ?_, fun C d hx => hx.elim⟩
  cases d with
  | bl c =>
    have : v = .bl c := by unfold Rep at q3; exact q3
    exact ⟨c, this, k _ hd _ H3 Hs3 (s1.trans (s2.trans s3)) rep_bl⟩
  | _ => exact hd.elim
theorem d_owneq {K : PySem.W.Frag} (hK : X.K = K) (G : Ed X.prog X.w K X.mg X.base C k S) (hr : Room k X.A) (ha : PEd X a ma) (hb : PEd X b mb) (hm : behindInMarks .Eq b = false := by rfl) : PEd X (.Compare a [.Eq] [b] pos) (oeqD K C S (fun c => c) ma mb) := by
  subst hK
  exact PE.mono (pe_cmpR (opr_oeq G hr) ha hb hm) fun σ H Q h => oeq_run h
theorem d_ownne {K : PySem.W.Frag} (hK : X.K = K) (G : Ed X.prog X.w K X.mg X.base C k S) (hr : Room (k + 1) X.A) (ha : PEd X a ma) (hb : PEd X b mb) (hm : behindInMarks .NotEq b = false := by rfl) : PEd X (.Compare a [.NotEq] [b] pos) (oeqD K C S (fun c => !c) ma mb) := by
  subst hK
  exact PE.mono (pe_cmpR (opr_one G hr) ha hb hm) fun σ H Q h => oeq_run h
end
end DL

set_option Elab.async false
set_option linter.all false
set_option autoImplicit false
set_option maxRecDepth 100000
set_option maxHeartbeats 4000000
namespace DL
open PySem PySem.Spec PyProof.Rows L2
/-! ### return [xs.pop(e) for x in ..], xs an owned list -/
theorem Rl.poke {K : PySem.W.Frag} {dp : Option (Addr × Addr)} {H0 Hs0 H Hs : Hp} {σ : Sg} {ρ : Env} (r : Rl K dp H0 Hs0 σ H Hs ρ) {Da : Addr} {o : HO} (hs : Hs Da = none) (h0 : H0 Da = none) (hd : ¬ isDk dp Da) (hn : ∀ (i : Nat) (d : D), ρ[i]? ≠ some (.ow Da d)) : Rl K dp H0 Hs0 σ (upd H Da o) Hs ρ := by
  refine ⟨⟨r.stp.ext, r.stp.new, fun x u h1 h2 h3 => ?_, ⟨fun x u h => ?_, fun p hp => ?_, r.bs.dkn⟩⟩, r.len, fun j c ec => ?_, r.dist⟩
  · have : x ≠ Da := fun z => by subst z; rw [h0] at h1; cases h1
    rw [upd_ne this]; exact r.stp.frm x u h1 h2 h3
  · have : x ≠ Da := fun z => by subst z; rw [hs] at h; cases h
    rw [upd_ne this]; exact r.bs.sub x u h
  · obtain ⟨g0, gs, c, s, g1, g2, g3⟩ := r.bs.dk p hp
    refine ⟨g0, gs, c, s, ?_, ?_, g3⟩
    · rw [upd_ne (fun z => hd ⟨p, hp, .inl z.symm⟩)]; exact g1
    · rw [upd_ne (fun z => hd ⟨p, hp, .inr z.symm⟩)]; exact g2
  · have h := r.cells j c ec
    cases c with
    | no => trivial
    | sh d => exact h
    | ow b d =>
      have hb : b ≠ Da := fun z => by subst z; exact hn j d ec
      obtain ⟨f1, f2, f3⟩ := h
      refine ⟨f1, ?_, f3⟩
      cases d with
      | lst ds =>
        obtain ⟨vs, g1, g2⟩ := f2
        exact ⟨vs, by rw [upd_ne hb]; exact g1, g2⟩
      | ins C ns ds =>
        obtain ⟨dx, gs, g1, g2⟩ := f2
        exact ⟨dx, gs, by rw [upd_ne hb]; exact g1, g2⟩
      | _ => exact f2.elim
theorem Reps.erase {K : PySem.W.Frag} {dp : Option (Addr × Addr)} {H : Hp} : ∀ {ds : List D} {vs : List V} (k : Nat), Reps K dp H ds vs → Reps K dp H (ds.eraseIdx k) (vs.eraseIdx k)
  | [], vs, k, h => by cases h.unnil; exact .nil
  | d :: ds, vs, 0, h => by
    obtain ⟨v, r, rfl, q, t⟩ := h.uncons
    exact t
  | d :: ds, vs, k + 1, h => by
    obtain ⟨v, r, rfl, q, t⟩ := h.uncons
    exact .cons q (Reps.erase k t)
theorem Stp.back0 {dp : Option (Addr × Addr)} {H0 Hs0 H Hs : Hp} (s : Stp dp H0 Hs0 H Hs) {a : Addr} (h : H a = none) (hd : ¬ isDk dp a) : H0 a = none := by
  cases e : H0 a with
  | none => rfl
  | some o =>
    cases e2 : Hs0 a with
    | none => have := s.frm a o e e2 hd; rw [h] at this; cases this
    | some u => have := s.bs.sub _ _ (s.ext _ _ e2); rw [h] at this; cases this
def lcPopD (i : Nat) (src : TId) (gd : TGd) (me : TEd) (vs : List Nat) : TSd := fun DD ρ => match ρ[i]? with
  | some (.ow a (.lst ds0)) => src ρ fun items => ∃ I : Nat → List D → List D → Prop, I 0 ds0 [] ∧
    (∀ j d cur acc, items[j]? = some d → I j cur acc → gd d (wipeD (ρ.set i (.ow a (.lst cur))) vs) fun ρ2 => ρ2[i]? = some (.ow a (.lst cur)) ∧ me ρ2 fun y => ∃ (idx : Int) (k : Nat) (x : D), y = .int idx ∧ -(2 ^ 63) ≤ idx ∧ idx < 2 ^ 63 ∧ seqIndex? idx cur.length = some k ∧ cur[k]? = some x ∧ acc.length < sizeLine ∧ I (j + 1) (cur.eraseIdx k) (acc ++ [x])) ∧
    ∀ cur acc, I items.length cur acc → DD.rt (.lst acc)
  | _ => False
section
variable {X : Cx} {W : WX} {elt tg iter : Expr} {scope : Scope} {own : List (Str × Nat)} {pos pos' : Pos} {src : TId} {g : TG} {gd : TGd} {me : TEd} {i : Nat}
theorem ds_retLcPop (hc : X.calm = true) (hN : X.N.Nodup) (hi : PId X tg iter src) (ok : BlkOk X.N X.env.scope scope own)
    (hg : ∀ (s : Shared) (H : Hp) (C : Addr) (cl : List (Str × Addr)) (fp : List Addr), PG (X.blk s H scope (compEnvC scope cl C X.env) fp) tg g) (hgd : TgB X.K g (own.map (·.2)) gd)
    (he : ∀ (s : Shared) (H : Hp) (C : Addr) (cl : List (Str × Addr)) (fp : List Addr), PE (X.blk s H scope (compEnvC scope cl C X.env) fp) elt (tBM X.K "list" rPopAt (tVar i) (tA X.K (consA me nilA)))) (hs : ∀ x, foldedSetIterable iter X.env x = pure x := by intro _; rfl) :
    PSd X W (.Return (some (.ListComp elt [⟨tg, iter, [], 0⟩] scope pos)) pos') (lcPopD i src gd me (own.map (·.2))) := by
  refine PS.mono (ps_ret (pe_lc (tt := tT X.K yesT) hc hN hi ok hg (fun _ _ _ _ _ => dts_nil) he hs)) fun Dn σ H ⟨dp, H0, Hs0, Hb, Hs, ρ, DD, rl, hb, hm, eo⟩ => ?_
  unfold lcPopD at hm
  split at hm
  case h_2 => exact hm.elim
  rename_i a ds0 e1
  refine ⟨dp, H0, Hs0, Hs, ρ, _, rl, hm, fun items ⟨I, i0, turn, done⟩ J H1 Hs1 s1 it Da hDa => ?_⟩
  have rl1 := rl.step s1
  have ndk : ¬ isDk dp Da := free_ndk s1.bs hDa
  have h0 : H0 Da = none := rl1.stp.back0 hDa ndk
  have hn : ∀ (k : Nat) (d : D), ρ[k]? ≠ some (.ow Da d) := fun k d e => by
    obtain ⟨_, ow⟩ := rl1.cells k _ e
    exact ow.1.there _ hDa
  have hii : i < ρ.length := (List.getElem?_eq_some_iff.mp e1).1
  have hne : a ≠ Da := fun z => by subst z; exact hn i _ e1
  have hset : ∀ cur : List D, (ρ.set i (.ow a (.lst cur)))[i]? = some (.ow a (.lst cur)) := fun cur => List.getElem?_set_self hii
  have hn2 : ∀ (cur : List D) (k : Nat) (d : D), (ρ.set i (.ow a (.lst cur)))[k]? ≠ some (.ow Da d) := fun cur k d e => by
    by_cases hk : i = k
    · subst hk
      rw [hset cur] at e
      cases e
      exact hne rfl
    · rw [List.getElem?_set_ne hk] at e
      exact hn k d e
  have eset : ρ.set i (.ow a (.lst ds0)) = ρ := by
    refine List.ext_getElem? fun k => ?_
    by_cases hk : i = k
    · subst hk; rw [hset, e1]
    · rw [List.getElem?_set_ne hk]
  refine ⟨fun j m H' => m = items.length - j ∧ j ≤ items.length ∧ ∃ Hs' cur acc, Rl X.K dp H0 Hs0 σ H' Hs' (ρ.set i (.ow a (.lst cur))) ∧ Owned X.K dp H0 H' Hs' Da (.lst acc) ∧ I j cur acc ∧ Same Hs1 Hs',
    ⟨items.length, rfl, Nat.zero_le _, Hs1, ds0, [], ?_, ⟨⟨[], upd_same, .nil⟩, s1.bs.sub.free hDa, h0, ndk⟩, i0, Same.refl _⟩, fun j m H' ⟨hmm, hj, Hs', cur, acc, R, O, w, sm⟩ => ?_⟩
  · rw [eset]
    exact rl1.poke (s1.bs.sub.free hDa) h0 ndk hn
  by_cases hlt : j < items.length
  · refine .inr ⟨it.go _ _ sm R.bs j hlt, fun H2 => ∃ Hs2 cur2 acc2, Rl X.K dp H0 Hs0 σ H2 Hs2 (ρ.set i (.ow a (.lst cur2))) ∧ Owned X.K dp H0 H2 Hs2 Da (.lst acc2) ∧ I (j + 1) cur2 acc2 ∧ Same Hs1 Hs2, fun H2 h => ⟨items.length - (j + 1), by omega, rfl, hlt, h⟩, fun x H2 y => ?_⟩
    obtain ⟨Hs2, d, s2, hd, q⟩ := it.yld _ _ sm R.bs j hlt x H2 y
    have R2 := R.step s2
    have O2 := O.step s2
    refine hgd dp H0 Hs0 H2 Hs2 _ _ d x _ _ (R2.wipe _) q (turn j d cur acc hd w) fun ρ2 σ2 hp2 rl3 hw2 => ⟨by rw [hw2]; exact wipe_wipe σ _, ?_⟩
    refine ⟨dp, H0, Hs0, Hs2, ρ2, fun b => b = true, rl3, rfl, fun b hb H3 Hs3 s3 => ?_⟩
    subst hb
    refine iteT ?_
    obtain ⟨e2, hm2⟩ := hp2
    have rl4 := rl3.step s3
    obtain ⟨ev, us1, h1, _⟩ := owned_list rl4 e2
    refine ⟨.ref a, ev, .inl ⟨rfl, us1, .of h1⟩, arg1 rl4 hm2 fun y hy v H4 Hs4 s4 q4 => ?_⟩
    obtain ⟨idx, k, xx, rfl, b1, b2, hk, hx, hsz, hI⟩ := hy
    have rl5 := rl4.step s4
    obtain ⟨_, us, h5, hr5⟩ := owned_list rl5 e2
    have O4 := (O2.step s3).step s4
    obtain ⟨ws, hw, hrw⟩ := O4.1
    obtain ⟨xv, hxv, qx⟩ := hr5.get hx
    have ev2 : v = .int idx := by unfold Rep at q4; exact q4
    subst ev2
    refine ⟨a, us, idx, k, xv, rfl, rfl, h5, b1, b2, by rw [← hr5.length]; exact hk, hxv, ws, by rw [upd_ne (Ne.symm hne)]; exact hw, by rw [← hrw.length]; exact hsz, Hs4, cur.eraseIdx k, acc ++ [xx], ?_, ?_, hI, sm.trans (s2.trans (s3.trans s4)).ext⟩
    · have R5 := ((R2.step s3).step s4).put (hset cur) (o := .lst (us.eraseIdx k)) (d' := .lst (cur.eraseIdx k)) ⟨_, upd_same, Reps.erase k hr5⟩
      rw [List.set_set] at R5
      exact R5.poke O4.2.1 h0 ndk (hn2 _)
    · exact ⟨⟨_, upd_same, hrw.append (.cons qx .nil)⟩, O4.2⟩
  · have hj' : j = items.length := by omega
    subst hj'
    refine .inl ⟨it.stop _ _ sm R.bs _ (Nat.le_refl _), ?_⟩
    obtain ⟨us, hD, hr⟩ := O.1
    have ndc : Hs' Da = none := O.2.1
    have s5 : Stp dp H0 Hs0 H' (upd Hs' Da (.lst us)) := R.stp.share hD ndc h0 ndk
    exact eo.rt _ (done _ _ w) (.ref Da) H' _ s5 (by unfold Rep; exact ⟨Da, us, rfl, upd_same, Reps.mono (same_share ndc) _ _ hr⟩)
end
end DL
namespace DL
open PySem PySem.Spec PyProof.Rows L2
/-! ### list(range(n)) -/
def lrgD (m : TEd) : TEd := fun ρ P => m ρ fun d => match d with
  | .int n => 0 ≤ n ∧ n ≤ 16000000 ∧ P (.lst (rngL 0 n.toNat))
  | _ => False
section
variable {X : Cx} {a : Expr} {me : TEd} {p p2 pos pos2 : Pos}
theorem reps_rg {K : PySem.W.Frag} {dp : Option (Addr × Addr)} {H : Hp} (n : Nat) : ∀ (l : List Nat), Reps K dp H (l.map fun i : Nat => D.int (0 + (i : Int))) (l.map fun i : Nat => V.int (0 + (i : Int)))
  | [] => .nil
  | i :: l => .cons (by unfold Rep; rfl) (reps_rg n l)
theorem f_lstRg (hc : X.calm = true) (hg : Gl X "list") (hm : X.mg "list" = none) (hg2 : Gl X "range") (hm2 : X.mg "range" = none) (ha : PEd X a me)
    (na : starEach [a] X.env = (false, eval a X.env) :: starEach [] X.env := by rfl)
    (na2 : starEach [.Call (.Name "range" p2) [a] [] pos2] X.env = (false, eval (.Call (.Name "range" p2) [a] [] pos2) X.env) :: starEach [] X.env := by rfl) :
    PEf X (.Call (.Name "list" p) [.Call (.Name "range" p2) [a] [] pos2] [] pos) (lrgD me) := by
  refine PE.mono (pe_listRg hc hg hm (prg_1 hg2 hm2 ha na) na2) fun σ H Q ⟨dp, H0, Hs0, Hs, ρ, P, rl, hm, k⟩ => ?_
  refine ⟨dp, H0, Hs0, Hs, ρ, _, rl, hm, fun d hd v H1 Hs1 s q => ?_⟩
  cases d with
  | int n =>
    obtain ⟨h0, h1, hp⟩ := hd
    have ev : v = .int n := by unfold Rep at q; exact q
    refine ⟨n, ev, ⟨by omega, by omega, by omega, by omega, by omega⟩, fun b hb => ?_⟩
    have ndk : ¬ isDk dp b := free_ndk s.bs hb
    refine k _ hp b _ Hs1 (s.trans (.laidO s.bs hb)) ⟨rgV 0 n, upd_same, ?_⟩ (s.bs.sub.free hb) (back_none rl.bs s hb ndk) ndk
    unfold rgV rngL
    rw [Int.sub_zero]
    exact reps_rg 0 _
  | _ => exact hd.elim
end
end DL
namespace DL
open PySem PySem.Spec PyProof.Rows L2
/-! ### a, b, .. = a list -/
def gLD (n : Nat) (gs : TGsd) : TGd := fun d ρ P => match d with
  | .lst ds => ds.length = n ∧ gs ds ρ P
  | _ => False
theorem dg_lst {X : Cx} {es : List Expr} {gs : TGsd} {pos : Pos} {k : Nat} {n : Nat} (hc : X.calm = true) (h : PGsd X es gs) (hn : (assignEach es X.env).length = n := by rfl) (hst : (assignEach es X.env).findIdx? (·.1) = none := by rfl) : PGd X (.Tuple es k pos) (gLD n gs) := PG.mono (pg_lst hc h hn hst) fun v σ H Q ⟨dp, H0, Hs0, Hs, ρ, d, P, rl, q, hm, k⟩ => by
  unfold gLD at hm
  split at hm
  · obtain ⟨a, vs, rfl, h1, hr⟩ := Rep.un q
    exact ⟨a, vs, rfl, .of (rl.bs.sub _ _ h1), by rw [← hr.length]; exact hm.1, dp, H0, Hs0, Hs, ρ, _, P, rl, hr, hm.2, k⟩
  · exact hm.elim
end DL

set_option Elab.async false
set_option linter.all false
set_option autoImplicit false
set_option maxRecDepth 100000
set_option maxHeartbeats 4000000
namespace DLE
open PySem PySem.Spec PySem.Calls PyProof.Rows PySem.W PySem.SeqAt PySem.MeetsSeq
open AutoSeq1 (wpAny_loadPart')
/-! ### any == an instance: the built-in types decline -/
section
variable (C dx l : Addr)
theorem int_eq_ins (b : Int) (u : Tok) : Meets (Builtin.«int.__eq__» ⟨[.int b u, .ref l], []⟩) (fun _ R s => s.heap.get? l = some (instObj C dx) ∧ R (.ok (.ret .notImplemented)) s) :=
  .of_wp fun prog w A R s h => by obtain ⟨hp, g, d, tk, os⟩ := s; obtain ⟨hl, h⟩ := h; unfold instObj at hl; wp_walk using wpAny_loadPart' hl, wpAny_load hl; exact ⟨_, rfl, h⟩
theorem int_ne_ins (b : Int) (u : Tok) : Meets (Builtin.«int.__ne__» ⟨[.int b u, .ref l], []⟩) (fun _ R s => s.heap.get? l = some (instObj C dx) ∧ R (.ok (.ret .notImplemented)) s) :=
  .of_wp fun prog w A R s h => by obtain ⟨hp, g, d, tk, os⟩ := s; obtain ⟨hl, h⟩ := h; unfold instObj at hl; wp_walk using wpAny_loadPart' hl, wpAny_load hl; exact ⟨_, rfl, h⟩
theorem str_eq_ins (b : Str) (u : Tok) : Meets (Builtin.«str.__eq__» ⟨[.str b u, .ref l], []⟩) (fun _ R s => s.heap.get? l = some (instObj C dx) ∧ R (.ok (.ret .notImplemented)) s) :=
  .of_wp fun prog w A R s h => by obtain ⟨hp, g, d, tk, os⟩ := s; obtain ⟨hl, h⟩ := h; unfold instObj at hl; wp_walk using wpAny_loadPart' hl, wpAny_load hl; exact ⟨_, rfl, h⟩
theorem str_ne_ins (b : Str) (u : Tok) : Meets (Builtin.«str.__ne__» ⟨[.str b u, .ref l], []⟩) (fun _ R s => s.heap.get? l = some (instObj C dx) ∧ R (.ok (.ret .notImplemented)) s) :=
  .of_wp fun prog w A R s h => by obtain ⟨hp, g, d, tk, os⟩ := s; obtain ⟨hl, h⟩ := h; unfold instObj at hl; wp_walk using wpAny_loadPart' hl, wpAny_load hl; exact ⟨_, rfl, h⟩
end
section
variable {prog : Program} {w : World} {A : Around} {E : Value → Shared → Prop} {s : Shared} {R : Fin → Shared → Prop}
theorem list_eq_ins {a : Value} {C dx l : Addr} (hl : s.heap.get? l = some (instObj C dx)) (hs : Looks (model prog w) s.heap (isSubtype (.ref C) (.type "list")) false) (h : R (.done (.ret .notImplemented)) s) : wpAny (model prog w) A (Builtin.«list.__eq__» ⟨[a, .ref l], []⟩) R E s := by
  obtain ⟨hp, g, d, tk, os⟩ := s
  unfold instObj at hl
  wp_walk using wpAny_loadPart' hl
  refine hs.here ?_
  simp only [Bool.not_false, if_true]
  wp_walk
  exact h
theorem list_ne_ins {a : Value} {C dx l : Addr} (hl : s.heap.get? l = some (instObj C dx)) (hs : Looks (model prog w) s.heap (isSubtype (.ref C) (.type "list")) false) (h : R (.done (.ret .notImplemented)) s) : wpAny (model prog w) A (Builtin.«list.__ne__» ⟨[a, .ref l], []⟩) R E s := by
  obtain ⟨hp, g, d, tk, os⟩ := s
  unfold instObj at hl
  wp_walk using wpAny_loadPart' hl
  refine hs.here ?_
  simp only [Bool.not_false, if_true]
  wp_walk
  exact h
theorem tuple_eq_ins {a : Value} {C dx l : Addr} (hl : s.heap.get? l = some (instObj C dx)) (hs : Looks (model prog w) s.heap (isSubtype (.ref C) (.type "tuple")) false) (h : R (.done (.ret .notImplemented)) s) : wpAny (model prog w) A (Builtin.«tuple.__eq__» ⟨[a, .ref l], []⟩) R E s := by
  obtain ⟨hp, g, d, tk, os⟩ := s
  unfold instObj at hl
  wp_walk using wpAny_loadPart' hl
  refine hs.here ?_
  simp only [Bool.not_false, if_true]
  wp_walk
  exact h
theorem tuple_ne_ins {a : Value} {C dx l : Addr} (hl : s.heap.get? l = some (instObj C dx)) (hs : Looks (model prog w) s.heap (isSubtype (.ref C) (.type "tuple")) false) (h : R (.done (.ret .notImplemented)) s) : wpAny (model prog w) A (Builtin.«tuple.__ne__» ⟨[a, .ref l], []⟩) R E s := by
  obtain ⟨hp, g, d, tk, os⟩ := s
  unfold instObj at hl
  wp_walk using wpAny_loadPart' hl
  refine hs.here ?_
  simp only [Bool.not_false, if_true]
  wp_walk
  exact h
variable {K : Frag} {x C dx f L : Addr} {h₀ : Heap} {m : Str → Option Value} {ox : Obj} {od : Option Obj} {a : Value} {Ta ida : String}
theorem rc_back {op : CmpOp} {Q : Value → Shared → Prop} (ha : s.TypeIs a Ta) (X : K.In s.heap) (I : InstAt s.heap x ox C od) (hsub : subIn K (.ref C) (.type Ta) = some false) (h1 : Slot Ta (cmpInfo op).2.1 ida)
    (hc1 : ∀ Q' : Value → Shared → Prop, Q' .notImplemented s → wpAny (model prog w) A (call (.builtin ida) [a, .ref x]) Q' E s)
    (back : wpAny (model prog w) A (tryCompare (.ref x) (cmpInfo op).2.2 a) (fun r s' => ∃ v, r = some v ∧ Q v s') E s) (hu : A.units < cLine) : wpAny (model prog w) A (richCompare op a (.ref x)) Q E s := by
  rcases hi : cmpInfo op with ⟨sym, f, r⟩
  rw [hi] at h1 back
  simp only [richCompare, hi, ha.oneThing_none]
  try with_reducible refine wpAny_holding ?_
  refine wpAny_bind (wpAny_cRoomFor_or (.inr hu) ?_)
  refine wpAny_bind (wpAny_typeOf ha (wpAny_bind (I.type.here ?_)))
  have hne : (Value.type Ta != Value.ref C) = true := rfl
  simp only [hne, if_true]
  refine wpAny_bind ((looks_subIn X (t := .ref C) hsub).here ?_)
  simp only [Bool.false_eq_true, if_false, Bool.not_false, if_true]
  refine wpAny_bind (m := tryCompare a _ _) (wpAny_tryCompare_declines ha h1 (hc1 _ ⟨rfl, ?_⟩))
  refine wpAny_bind (m := tryCompare _ _ a) (wpAny_mono back (fun r s' z => ?_) fun _ _ e => e)
  obtain ⟨v, rfl, hq⟩ := z
  first
    | exact wpAny_pure hq
    | exact wpAny_bind (wpAny_rule (wpAny_pure hq))
    | exact wpAny_rule (wpAny_pure hq)
theorem try_eq {Q : Value → Shared → Prop} {b : Value} (X : K.In s.heap) (I : InstAt s.heap x ox C od) (hs : findIn K (.ref C) "__eq__" = some (some (.ref f))) (hf : isFn K (.ref f) = true)
    (h : wpAny (model prog w) A (call (.ref f) [.ref x, b]) (PySem.W.CmpBack Q) E s) : wpAny (model prog w) A (tryCompare (.ref x) "__eq__" b) (fun r s' => ∃ v, r = some v ∧ Q v s') E s := by
  unfold tryCompare
  refine wpAny_bind (ifBound_K X I hs hf (wpAny_mono h (fun v s' hv => ?_) fun _ _ e => e))
  cases v <;> first | exact hv.elim | exact wpAny_pure ⟨_, rfl, hv⟩
theorem try_ne {Q : Value → Shared → Prop} {b : Value} (hu : A.units + 1 < cLine) (X : K.In s.heap) (I : InstAt s.heap x ox C od)
    (hs : findIn K (.ref C) "__eq__" = some (some (.ref f))) (hs2 : findIn K (.ref C) "__ne__" = some (some (.builtin "object.__ne__"))) (hm : mroIn K C (.type "object") = some true) (hf : isFn K (.ref f) = true)
    (h : wpAny (model prog w) A.in1 (call (.ref f) [.ref x, b]) (fun v s' => ∃ c, v = .bool c ∧ Q (.bool (!c)) s') E s) : wpAny (model prog w) A (tryCompare (.ref x) "__ne__" b) (fun r s' => ∃ v, r = some v ∧ Q v s') E s := by
  unfold tryCompare
  refine wpAny_bind (ifBound_B X I hs2 (wpAny_call (codeAny_call_builtin (PySem.F.cmp_object).ne.plain PySem.F.cmpEntry_ne
    (check_slot PySem.F.cmpKind_ne PySem.F.cmpSplit_ne ((I.type).andThen (looks_subIn X (t := .ref C) hm)) (PySem.F.cmpArgs_ne _ _)
      (objNe_K (A := A.in1) hu X I hs hf (wpAny_mono h (fun v s' hv => ?_) fun _ _ e => e))))))
  obtain ⟨c, rfl, hq⟩ := hv
  first
    | exact ⟨c, rfl, wpAny_pure ⟨_, rfl, hq⟩⟩
    | exact ⟨c, rfl, wpAny_pure (wpAny_pure ⟨_, rfl, hq⟩)⟩
    | exact ⟨c, rfl, ⟨_, rfl, hq⟩⟩
/-- the five kinds of plain values decline -/
inductive Plain5 (s : Shared) : Value → String → Prop where
  | none : Plain5 s .none "NoneType"
  | int (i : Int) (t : Tok) : Plain5 s (.int i t) "int"
  | str (i : Str) (t : Tok) : Plain5 s (.str i t) "str"
  | lst {l : Addr} {o : Obj} (h : s.heap.get? l = some o) (c : o.cls = .type "list") : Plain5 s (.ref l) "list"
  | tup {l : Addr} {o : Obj} (h : s.heap.get? l = some o) (c : o.cls = .type "tuple") : Plain5 s (.ref l) "tuple"
theorem plain5_eq {Q : Value → Shared → Prop} (p : Plain5 s a Ta) (X : K.In s.heap) (I : InstAt s.heap x (instObj C dx) C od) (hsub : subIn K (.ref C) (.type Ta) = some false)
    (back : wpAny (model prog w) A (tryCompare (.ref x) "__eq__" a) (fun r s' => ∃ v, r = some v ∧ Q v s') E s) (hu : A.units < cLine) : wpAny (model prog w) A (richCompare .Eq a (.ref x)) Q E s := by
  cases p with
  | none => exact rc_back (op := .Eq) rfl X I hsub F.slot_NoneType_eq (fun _ hq => call_gives F.slot_NoneType_eq rfl F.entry_NoneType_eq (F.args_NoneType_eq_2 _ _) (NoneType___eq___none_ref_0 x) hq) back hu
  | int i t => exact rc_back (op := .Eq) rfl X I hsub F.slot_int_eq (fun _ hq => call_meets F.slot_int_eq rfl F.entry_int_eq (F.args_int_eq_2 _ _) (int_eq_ins C dx x i t) ⟨I.1, hq⟩) back hu
  | str i t => exact rc_back (op := .Eq) rfl X I hsub F.slot_str_eq (fun _ hq => call_meets F.slot_str_eq rfl F.entry_str_eq (F.args_str_eq_2 _ _) (str_eq_ins C dx x i t) ⟨I.1, hq⟩) back hu
  | lst h c => exact rc_back (op := .Eq) ⟨_, h, c⟩ X I hsub F.slot_list_eq (fun _ hq => wpAny_call (codeAny_call_builtin F.slot_list_eq.plain F.entry_list_eq (F.slot_list_eq.check _ _ _ _ _ _ _ _ ⟨_, h, c⟩ (F.args_list_eq_2 _ _) (list_eq_ins I.1 (looks_subIn X (t := .ref C) hsub) hq)))) back hu
  | tup h c => exact rc_back (op := .Eq) ⟨_, h, c⟩ X I hsub F.slot_tuple_eq (fun _ hq => wpAny_call (codeAny_call_builtin F.slot_tuple_eq.plain F.entry_tuple_eq (F.slot_tuple_eq.check _ _ _ _ _ _ _ _ ⟨_, h, c⟩ (F.args_tuple_eq_2 _ _) (tuple_eq_ins I.1 (looks_subIn X (t := .ref C) hsub) hq)))) back hu
theorem plain5_ne {Q : Value → Shared → Prop} (p : Plain5 s a Ta) (X : K.In s.heap) (I : InstAt s.heap x (instObj C dx) C od) (hsub : subIn K (.ref C) (.type Ta) = some false)
    (back : wpAny (model prog w) A (tryCompare (.ref x) "__ne__" a) (fun r s' => ∃ v, r = some v ∧ Q v s') E s) (hu : A.units < cLine) : wpAny (model prog w) A (richCompare .NotEq a (.ref x)) Q E s := by
  cases p with
  | none => exact rc_back (op := .NotEq) rfl X I hsub F.slot_NoneType_ne (fun _ hq => call_gives F.slot_NoneType_ne rfl F.entry_NoneType_ne (F.args_NoneType_ne_2 _ _) (NoneType___ne___none_ref_0 x) hq) back hu
  | int i t => exact rc_back (op := .NotEq) rfl X I hsub F.slot_int_ne (fun _ hq => call_meets F.slot_int_ne rfl F.entry_int_ne (F.args_int_ne_2 _ _) (int_ne_ins C dx x i t) ⟨I.1, hq⟩) back hu
  | str i t => exact rc_back (op := .NotEq) rfl X I hsub F.slot_str_ne (fun _ hq => call_meets F.slot_str_ne rfl F.entry_str_ne (F.args_str_ne_2 _ _) (str_ne_ins C dx x i t) ⟨I.1, hq⟩) back hu
  | lst h c => exact rc_back (op := .NotEq) ⟨_, h, c⟩ X I hsub F.slot_list_ne (fun _ hq => wpAny_call (codeAny_call_builtin F.slot_list_ne.plain F.entry_list_ne (F.slot_list_ne.check _ _ _ _ _ _ _ _ ⟨_, h, c⟩ (F.args_list_ne_2 _ _) (list_ne_ins I.1 (looks_subIn X (t := .ref C) hsub) hq)))) back hu
  | tup h c => exact rc_back (op := .NotEq) ⟨_, h, c⟩ X I hsub F.slot_tuple_ne (fun _ hq => wpAny_call (codeAny_call_builtin F.slot_tuple_ne.plain F.entry_tuple_ne (F.slot_tuple_ne.check _ _ _ _ _ _ _ _ ⟨_, h, c⟩ (F.args_tuple_ne_2 _ _) (tuple_ne_ins I.1 (looks_subIn X (t := .ref C) hsub) hq)))) back hu
end
end DLE
namespace DL
open PySem PySem.Spec PyProof.Rows L2
/-! ### any == an instance of the class at C -/
inductive P5 (K : PySem.W.Frag) (H : Hp) : V → String → Prop where
  | non : P5 K H .non "NoneType"
  | int (i : Int) : P5 K H (.int i) "int"
  | str (i : Str) : P5 K H (.str i) "str"
  | lst {a : Addr} {xs : List V} (h : SqL K H a xs) : P5 K H (.ref a) "list"
  | tup {a : Addr} {xs : List V} (h : SqT K H a xs) : P5 K H (.ref a) "tuple"
def rBack (K : PySem.W.Frag) (C : Addr) (S : SpD) (g : Bool → Bool) : R2 := fun x y H Q => ∃ p dx fs t, y = .ref p ∧ H p = some (.ins C dx fs) ∧ P5 K H x t ∧ PySem.W.subIn K (.ref C) (.type t) = some false ∧ spOf K S [y, x] H (fun v H' => ∃ c, v = .bl c ∧ Q (.bl (g c)) H') E0
def ty5 : D → Option String
  | .non => some "NoneType"
  | .int _ => some "int"
  | .str _ => some "str"
  | .lst _ => some "list"
  | .tup _ => some "tuple"
  | _ => none
section
variable {X : Cx} {W : WX} {a b e : Expr} {ma mb m me : TEd} {C : Addr} {pos : Pos} {k : Nat} {S : SpD}
theorem plain5_of {pins : List (Addr × Obj)} {s : Shared} {σ : Sg} {H : Hp} {x : V} {v : Value} {t : String} (I : Inv X pins σ H s) (r : RelV x v) (p : P5 X.K H x t) : DLE.Plain5 s v t := by
  cases p with
  | non => cases r; exact .none
  | int i => obtain ⟨t, rfl⟩ := r; exact .int i t
  | str i => obtain ⟨t, rfl⟩ := r; exact .str i t
  | lst h =>
    cases r
    obtain ⟨its, rv, pl, hz⟩ := I.list h
    obtain ⟨o, ho, hc, _⟩ := pl.isList
    exact .lst ho hc
  | tup h =>
    cases r
    obtain ⟨its, rv, e, z⟩ := I.tuple h
    obtain ⟨o, ho, hc, _⟩ := e
    exact .tup ho hc
theorem opr_beq (G : Ed X.prog X.w X.K X.mg X.base C k S) (hr : Room k X.A) : OpR X (compareOp .Eq) (rBack X.K C S fun c => c) := by
  obtain ⟨f, fd, F, hs, hf, hne, hmo, hbi⟩ := G
  intro pins s σ H x y v u Q I rx ry ⟨p, dx, fs, t, ey, hp, h5, hsub, hsp⟩
  subst ey
  obtain rfl : u = Value.ref p := ry
  obtain ⟨m1, O1, _⟩ := ins_get I.hok hp
  obtain ⟨od1, J1, _⟩ := O1.look
  show wpAny (model X.prog X.w) X.A (richCompare .Eq v _) (EP X pins σ Q) X.xe s
  refine DLE.plain5_eq (plain5_of I rx h5) I.kIn J1 hsub (DLE.try_eq I.kIn J1 hs hf ?_) hr.units0
  exact thn (run_fn (us := [.ref p, v]) (vs := [.ref p, x]) F hr hbi .nil passL I (.cons rfl (.cons rx .nil)) hsp) fun u s' ⟨v, H', I', r', c, ev, q⟩ => by
    subst ev
    cases r'
    exact ⟨.bl c, H', I', rfl, q⟩
theorem opr_bne (G : Ed X.prog X.w X.K X.mg X.base C k S) (hr : Room (k + 1) X.A) : OpR X (compareOp .NotEq) (rBack X.K C S fun c => !c) := by
  obtain ⟨f, fd, F, hs, hf, hne, hmo, hbi⟩ := G
  intro pins s σ H x y v u Q I rx ry ⟨p, dx, fs, t, ey, hp, h5, hsub, hsp⟩
  subst ey
  obtain rfl : u = Value.ref p := ry
  obtain ⟨m1, O1, _⟩ := ins_get I.hok hp
  obtain ⟨od1, J1, _⟩ := O1.look
  show wpAny (model X.prog X.w) X.A (richCompare .NotEq v _) (EP X pins σ Q) X.xe s
  refine DLE.plain5_ne (plain5_of I rx h5) I.kIn J1 hsub (DLE.try_ne (hu_of hr) I.kIn J1 hs hne hmo hf ?_) (Nat.lt_of_succ_lt (hu_of hr))
  have hb2 : BindsTo s fd ⟨[.ref p, v], []⟩ ((["self", "other"] : List Str).zip [.ref p, v]) := by
    have := hbi s [.ref p, v] I.kIn rfl
    rw [List.append_nil] at this
    exact this
  refine wpAny_call (codeAny_mono (F.run X.A.in1 X.stack s H ⟨[.ref p, v], []⟩ [.ref p, v] [.ref p, x] _ E0 hr.in1 I.env0.in1 hb2 (.cons rfl (.cons rx .nil)) hsp) fun r s' hq => ?_)
  cases r with
  | error er => exact (passL (pins := pins) (σ := σ) H s er s' I hq)
  | ok fl =>
    cases fl with
    | ret u =>
      obtain ⟨v, H', I', r', c, ev, q⟩ := I.after hq
      subst ev
      cases r'
      exact ⟨c, rfl, .bl (!c), H', I', rfl, q⟩
    | next => exact False.elim hq
    | brk => exact False.elim hq
    | cont => exact False.elim hq
theorem opr_or {op : Value → Value → Sem Value} {r r' : R2} (h : OpR X op r) (h' : OpR X op r') : OpR X op (fun x y H Q => r x y H Q ∨ r' x y H Q) := fun pins s σ H x y v u Q I rx ry hq => hq.elim (h pins s σ H x y v u Q I rx ry) (h' pins s σ H x y v u Q I rx ry)
/-- any value == an instance -/
def aeqD (K : PySem.W.Frag) (C : Addr) (S : SpD) (g : Bool → Bool) (ma mb : TEd) : TEd := fun ρ P => ma ρ fun d1 => mb ρ fun d2 => insOf C d2 ∧
  ((insOf C d1 ∧ insKnown K d2 ∧ PySem.W.notFirst K C (.ref C) = true ∧ S [d1, d2] (fun d => match d with
    | .bl c => P (.bl (g c))
    | _ => False) X0) ∨
  (∃ t, ty5 d1 = some t ∧ PySem.W.subIn K (.ref C) (.type t) = some false ∧ S [d2, d1] (fun d => match d with
    | .bl c => P (.bl (g c))
    | _ => False) X0))
theorem p5_of {K : PySem.W.Frag} {dp : Option (Addr × Addr)} {H Hs : Hp} (bs : Bs dp H Hs) {d : D} {v : V} {t : String} (q : Rep K dp Hs d v) (e : ty5 d = some t) : P5 K H v t := by
  cases d with
  | non => cases e; unfold Rep at q; rw [q]; exact .non
  | int i => cases e; unfold Rep at q; rw [q]; exact .int i
  | str i => cases e; unfold Rep at q; rw [q]; exact .str i
  | lst ds =>
    cases e
    obtain ⟨a, vs, rfl, h1, _⟩ := Rep.un q
    exact .lst (.of (bs.sub _ _ h1))
  | tup ds =>
    cases e
    obtain ⟨a, vs, rfl, h1, _⟩ := Rep.unT q
    exact .tup (Same.seqT bs.sub h1)
  | bl _ => cases e
  | ins _ _ _ => cases e
  | deck => cases e
  | scr _ => cases e
theorem aeq_run {K : PySem.W.Frag} {g : Bool → Bool} {σ : Sg} {H : Hp} {Q : VK} (h : tD K (aeqD K C S g ma mb) σ H Q) : tOp (fun x y H Q => rOeq K C S g x y H Q ∨ rBack K C S g x y H Q) (tD K ma) (tD K mb) σ H Q := by
  obtain ⟨dp, H0, Hs0, Hs, ρ, P, rl, hm, k⟩ := h
  refine ⟨dp, H0, Hs0, Hs, ρ, _, rl, hm, fun d1 hd1 v1 H1 Hs1 s1 q1 => ⟨dp, H0, Hs0, Hs1, ρ, _, rl.step s1, hd1, fun d2 hd2 v2 H2 Hs2 s2 q2 => ?_⟩⟩
  obtain ⟨i2, hd2⟩ := hd2
  have q1' := Rep.mono s2.ext _ _ q1
  obtain ⟨p2, dx2, fs2, e2, h2⟩ := insOf_rep s2.bs i2 q2
  subst e2
  have fin : ∀ (d : D), (match d with
    | .bl c => P (.bl (g c))
    | _ => False) → ∀ (v : V) (H' Hs' : Hp), Stp dp H2 Hs2 H' Hs' → Rep K dp Hs' d v → ∃ c, v = .bl c ∧ Q (.bl (g c)) H' := fun d hd v H3 Hs3 s3 q3 => by
    cases d with
    | bl c =>
      have : v = .bl c := by unfold Rep at q3; exact q3
      exact ⟨c, this, k _ hd _ H3 Hs3 (s1.trans (s2.trans s3)) rep_bl⟩
    | _ => exact hd.elim
  rcases hd2 with ⟨i1, kn, hn, hS⟩ | ⟨t, ht, hsub, hS⟩
  · obtain ⟨p, dx, fs, e1, h1⟩ := insOf_rep s2.bs i1 q1'
    subst e1
    refine .inl ⟨p, dx, fs, .ref C, rfl, h1, ?_, hn, dp, Hs2, [d1, d2], _, X0, s2.bs, .cons q1' (.cons q2 .nil), hS, fin, fun C d hx => hx.elim⟩
    have et : tyT d2 = some (.ref C) := by
      cases d2 with
      | ins C' _ _ => have : C' = C := i2; subst this; rfl
      | _ => exact i2.elim
    exact tyX_of s2.bs (Rep.b s2.bs _ _ q2) kn et
  · exact .inr ⟨p2, dx2, fs2, t, rfl, h2, p5_of s2.bs q1' ht, hsub, dp, Hs2, [d2, d1], _, X0, s2.bs, .cons q2 (.cons q1' .nil), hS, fin, fun C d hx => hx.elim⟩
theorem d_anyeq {K : PySem.W.Frag} (hK : X.K = K) (G : Ed X.prog X.w K X.mg X.base C k S) (hr : Room k X.A) (ha : PEd X a ma) (hb : PEd X b mb) (hm : behindInMarks .Eq b = false := by rfl) : PEd X (.Compare a [.Eq] [b] pos) (aeqD K C S (fun c => c) ma mb) := by
  subst hK
  exact PE.mono (pe_cmpR (opr_or (opr_oeq G hr) (opr_beq G hr)) ha hb hm) fun σ H Q h => aeq_run h
theorem d_anyne {K : PySem.W.Frag} (hK : X.K = K) (G : Ed X.prog X.w K X.mg X.base C k S) (hr : Room (k + 1) X.A) (ha : PEd X a ma) (hb : PEd X b mb) (hm : behindInMarks .NotEq b = false := by rfl) : PEd X (.Compare a [.NotEq] [b] pos) (aeqD K C S (fun c => !c) ma mb) := by
  subst hK
  exact PE.mono (pe_cmpR (opr_or (opr_one G hr) (opr_bne G hr)) ha hb hm) fun σ H Q h => aeq_run h
end
end DL

set_option Elab.async false
set_option linter.all false
set_option autoImplicit false
set_option maxRecDepth 100000
set_option maxHeartbeats 4000000
namespace DL
open PySem PySem.Spec PyProof.Rows L2
/-! ### a def whose result is a new object -/
def spOfF (K : PySem.W.Frag) (S : SpD) : Sp := fun vs H Q _ => ∃ (dp : Option (Addr × Addr)) (Hs : Hp) (ds : List D) (P : D → Prop), Bs dp H Hs ∧ Reps K dp Hs ds vs ∧ S ds P X0 ∧
  ∀ d, P d → ∀ a H' Hs', Stp dp H Hs H' Hs' → OwnRep K dp H' Hs' a d → Hs' a = none → H a = none → ¬ isDk dp a → Q (.ref a) H'
section
variable {P : Program} {w : World} {K : PySem.W.Frag} {mg : Str → Option Value} {base : Heap}
theorem fn_mkF {x qual : Str} {st : Stmt} {f : Addr} {fd : FuncData} {N ps : List Str} {k : Nat} {S : SpD} (F : Fun K x qual st f fd) (sc : FnScope N ps (defScope st)) (len : ∀ ds P, S ds P X0 → ds.length = ps.length)
    (hbody : ∃ m, (∀ (cdv : Value) (A : Around) (outer : List PySem.Env) (s : Shared) (H : Hp) (E : XK), Room k (A.deeper (envOfC qual (defScope st) s.heap.objs.size f cdv)) → PSs (cxOf (L2.CX P w) P w K mg base N qual (defScope st) f cdv A outer s H E).nox (defBody st) (tRet (tF K m))) ∧
      ∀ ds P, S ds P X0 → m (startD N ds) P) :
    FnOk P w K mg base (L2.CX P w) (k + 1) f fd ps (spOfF K S) := by
  obtain ⟨m, hm, hp⟩ := hbody
  refine F.okX sc (fun vs H Q E ⟨dp, Hs, ds, Pd, bs, hr, h, _⟩ => by rw [← hr.length]; exact len _ _ h) (fun cdv A outer s H vs Q E hr h => ?_)
  obtain ⟨dp, Hs, ds, Pd, bs, hreps, h, k1⟩ := h
  exact ⟨_, PSs.nox (hm cdv A outer s H E hr), dp, H, Hs, Hs, startD N ds, Pd, start_rl bs hreps, hp ds Pd h, k1⟩
end
def PdF (P : Program) (w : World) (K : PySem.W.Frag) (mg : Str → Option Value) (base : Heap) (C : Addr) (f : Str) (k : Nat) (S : SpD) : Prop :=
  ∃ (p g : Addr) (fd : FuncData), FnOk P w K mg base (L2.CX P w) k g fd ["self"] (spOfF K S) ∧ PropOf K C f p g ∧ Binds K fd ["self"] []
section
variable {X : Cx} {e : Expr} {m : TEd} {C : Addr} {f : Str} {pos : Pos} {k : Nat} {S : SpD}
theorem f_prop (c : Cls X.K C) (G : PdF X.prog X.w X.K X.mg X.base C f k S) (hr : Room (k + 1) X.A) (he : PEd X e m) (hb : attributeBase e f X.env (eval e X.env) = eval e X.env := by rfl) : PEf X (.Attribute e f pos) (prpD C S m) := by
  obtain ⟨p, g, fd, F, hp, hbi⟩ := G
  refine PE.mono (pe_prop he c hp F hr hbi .nil passL hb) fun σ H Q ⟨dp, H0, Hs0, Hs, ρ, P, rl, hm, k⟩ => ⟨dp, H0, Hs0, Hs, ρ, _, rl, hm, fun d hd v H1 Hs1 s q => ?_⟩
  obtain ⟨a, dx, gs, rfl, h1⟩ := insOf_rep s.bs hd.1 q
  exact ⟨a, dx, gs, rfl, h1, dp, Hs1, [d], P, s.bs, .cons q .nil, hd.2, fun d2 hd2 a2 H2 Hs2 s2 q2 n1 n2 n3 => k d2 hd2 a2 H2 Hs2 (s.trans s2) q2 n1 (back_none rl.bs s n2 n3) n3⟩
end
end DL

set_option Elab.async false
set_option linter.all false
set_option autoImplicit false
set_option maxRecDepth 100000
set_option maxHeartbeats 4000000
namespace KP
open PySem PySem.Spec PyProof.Rows L2 DL
/-! ### bounds -/
theorem mulW_of {i j : Int} {a b : Nat} (ha : i.natAbs < 2 ^ a) (hb : j.natAbs < 2 ^ b) (h : a + b ≤ 900000) : CMulW i j :=
  wide_mul (a := a + 1) (b := b + 1) (Nat.lt_of_lt_of_le ha (Nat.pow_le_pow_right (by decide) (Nat.le_succ a))) (Nat.lt_of_lt_of_le hb (Nat.pow_le_pow_right (by decide) (Nat.le_succ b))) (Nat.succ_pos _) (Nat.succ_pos _) (by omega)
theorem natAbs_ediv_le (a : Int) (n : Nat) : (a / ((n : Int) + 1)).natAbs ≤ a.natAbs := by
  have hn : (0 : Int) < (n : Int) + 1 := by omega
  have h1 := Int.emod_nonneg a (Int.ne_of_gt hn)
  have h2 := Int.emod_lt_of_pos a hn
  have h3 := Int.emod_add_mul_ediv a ((n : Int) + 1)
  generalize a / ((n : Int) + 1) = q at *
  generalize a % ((n : Int) + 1) = r at *
  by_cases hq : 0 ≤ q
  · have : q ≤ ((n : Int) + 1) * q := by
      have := Int.mul_le_mul_of_nonneg_right (show (1 : Int) ≤ (n : Int) + 1 by omega) hq
      omega
    omega
  · have : ((n : Int) + 1) * q ≤ q + (n : Int) * (-1) := by
      have e : ((n : Int) + 1) * q = (n : Int) * q + q := by rw [Int.add_mul, Int.one_mul]
      have := Int.mul_le_mul_of_nonneg_left (show q ≤ -1 by omega) (show (0 : Int) ≤ (n : Int) by omega)
      omega
    omega
theorem pow_le2 {a b : Nat} (h : a ≤ b) : 2 ^ a ≤ 2 ^ b := Nat.pow_le_pow_right (by decide) h
theorem lt2 {x a b : Nat} (h : x < 2 ^ a) (hab : a ≤ b) : x < 2 ^ b := Nat.lt_of_lt_of_le h (pow_le2 hab)
theorem bd_add {i j : Int} {a : Nat} (h1 : i.natAbs < 2 ^ a) (h2 : j.natAbs < 2 ^ a) : (i + j).natAbs < 2 ^ (a + 1) := by
  rw [Nat.pow_succ]; omega
theorem bd_sub {i j : Int} {a : Nat} (h1 : i.natAbs < 2 ^ a) (h2 : j.natAbs < 2 ^ a) : (i - j).natAbs < 2 ^ (a + 1) := by
  rw [Nat.pow_succ]; omega
theorem divW_nat (i : Nat) (h : i < 2 ^ 62) : ∀ x : Int, CDivW x ((i : Int) + 1) := fun x => by
  refine wide_div (b := 64) (by omega) ?_ (by decide) (by decide)
  have : ((i : Int) + 1).natAbs = i + 1 := by omega
  rw [this]
  exact Nat.lt_of_le_of_lt h (by decide)
theorem szL {n : Nat} (h : n ≤ 16000000) : n ≤ sizeLine := by rw [sizeLine_eq]; omega
theorem szT {n : Nat} (h : n ≤ 16000000) : n < sizeLine := by rw [sizeLine_eq]; omega
theorem cpow10 {n : Int} (h0 : 0 ≤ n) (h : n ≤ 1000000) : CPow 10 n := ⟨h0, h, by decide⟩
/-- all entries below 2 ^ B -/
def Bd (B : Nat) (xs : List Int) : Prop := ∀ x ∈ xs, x.natAbs < 2 ^ B
theorem Bd.get {B : Nat} {xs : List Int} (h : Bd B xs) {i : Nat} {x : Int} (e : xs[i]? = some x) : x.natAbs < 2 ^ B := h x (List.mem_of_getElem? e)
theorem Bd.getD {B : Nat} {xs : List Int} (h : Bd B xs) (i : Nat) : (xs.getD i 0).natAbs < 2 ^ B := by
  rw [List.getD_eq_getElem?_getD]
  cases e : xs[i]? with
  | none => exact Nat.two_pow_pos B
  | some x => exact h.get e
theorem Bd.take {B : Nat} {xs : List Int} (h : Bd B xs) (n : Nat) : Bd B (xs.take n) := fun x hx => h x (List.mem_of_mem_take hx)
theorem Bd.mono {B C : Nat} {xs : List Int} (h : Bd B xs) (hc : B ≤ C) : Bd C xs := fun x hx => lt2 (h x hx) hc
theorem Bd.app {B : Nat} {xs ys : List Int} (h : Bd B xs) (h' : Bd B ys) : Bd B (xs ++ ys) := fun x hx => (List.mem_append.mp hx).elim (h x) (h' x)
theorem Bd.nil {B : Nat} : Bd B [] := fun x hx => by cases hx
theorem sum_bd {B : Nat} : ∀ {xs : List Int}, Bd B xs → xs.sum.natAbs ≤ xs.length * 2 ^ B
  | [], _ => Nat.zero_le _
  | x :: xs, h => by
    have h1 := h x List.mem_cons_self
    have h2 := sum_bd (xs := xs) fun y hy => h y (List.mem_cons_of_mem _ hy)
    rw [List.sum_cons, List.length_cons, Nat.add_mul, Nat.one_mul]
    omega
theorem sum_lt {B : Nat} {xs : List Int} (h : Bd B xs) : xs.sum.natAbs < 2 ^ (B + xs.length) := by
  have h1 := sum_bd h
  have h2 : xs.length < 2 ^ xs.length := Nat.lt_two_pow_self
  have h3 : xs.length * 2 ^ B < 2 ^ xs.length * 2 ^ B := Nat.mul_lt_mul_of_pos_right h2 (Nat.two_pow_pos B)
  rw [Nat.pow_add, Nat.mul_comm (2 ^ B)]
  omega
theorem L_snoc (xs : List Int) (x : Int) : D.lst (xs.map D.int ++ [D.int x]) = L (xs ++ [x]) := by rw [L, List.map_append]; rfl
theorem L_app (xs ys : List Int) : D.lst (xs.map D.int ++ ys.map D.int) = L (xs ++ ys) := by rw [L, List.map_append]
/-! ### choose, value_at -/
def chooseM (t : Int) : Nat → Int
  | 0 => 1
  | k + 1 => chooseM t k * (t - (k : Nat)) / ((k : Nat) + 1)
theorem chooseM_bd {t : Int} {n : Nat} (h : t.natAbs < 2 ^ n) : ∀ k : Nat, k ≤ 2 ^ n → (chooseM t k).natAbs < 2 ^ ((n + 1) * k + 1)
  | 0, _ => by unfold chooseM; rw [Nat.mul_zero]; decide
  | k + 1, hk => by
    unfold chooseM
    refine Nat.lt_of_le_of_lt (natAbs_ediv_le _ k) ?_
    have ih := chooseM_bd h k (by omega)
    have h2 : (t - (k : Nat)).natAbs < 2 ^ (n + 1) := by rw [Nat.pow_succ]; omega
    have := wide_lt ih h2
    rw [show (n + 1) * k + 1 + (n + 1) = (n + 1) * (k + 1) + 1 by rw [Nat.mul_add, Nat.mul_one]; omega] at this
    exact this
def termsM (ps : List Int) (n : Int) (k : Nat) : List Int := (List.range k).map fun j => ps.getD j 0 * chooseM n j
def valueM (ps : List Int) (n : Int) : Int := (termsM ps n ps.length).sum
theorem term_bd {B N : Nat} {ps : List Int} {n : Int} (hb : Bd B ps) (hn : n.natAbs < 2 ^ N) {j : Nat} (hj : j ≤ 2 ^ N) : (ps.getD j 0 * chooseM n j).natAbs < 2 ^ (B + ((N + 1) * j + 1)) := wide_lt (hb.getD j) (chooseM_bd hn j hj)
theorem terms_bd {B N : Nat} {ps : List Int} {n : Int} (hb : Bd B ps) (hn : n.natAbs < 2 ^ N) {k : Nat} (hk : k ≤ 2 ^ N) : Bd (B + ((N + 1) * k + 1)) (termsM ps n k) := fun x hx => by
  obtain ⟨j, hj, rfl⟩ := List.mem_map.mp hx
  have hj' : j < k := List.mem_range.mp hj
  refine lt2 (term_bd hb hn (by omega)) ?_
  have : (N + 1) * j ≤ (N + 1) * k := Nat.mul_le_mul_left _ (by omega)
  omega
theorem value_bd {B N : Nat} {ps : List Int} {n : Int} (hb : Bd B ps) (hn : n.natAbs < 2 ^ N) (hk : ps.length ≤ 2 ^ N) : (valueM ps n).natAbs < 2 ^ (B + ((N + 2) * ps.length + 1)) := by
  have := sum_lt (terms_bd (k := ps.length) hb hn hk)
  unfold termsM at this
  rw [List.length_map, List.length_range] at this
  refine lt2 this ?_
  rw [show (N + 2) * ps.length = (N + 1) * ps.length + ps.length by rw [show N + 2 = (N + 1) + 1 from rfl, Nat.add_mul, Nat.one_mul]]
  omega
/-! ### how many are left when those at the end that pass a test are dropped -/
def dropN (t : Nat → Bool) : Nat → Nat
  | 0 => 0
  | n + 1 => if t n then dropN t n else n + 1
theorem dropN_le (t : Nat → Bool) : ∀ n, dropN t n ≤ n
  | 0 => Nat.le_refl _
  | n + 1 => by
    unfold dropN
    split
    · exact Nat.le_succ_of_le (dropN_le t n)
    · exact Nat.le_refl _
theorem dropN_step {t : Nat → Bool} {n : Nat} (h : t n = true) : dropN t (n + 1) = dropN t n := by
  rw [dropN, if_pos h]
theorem dropN_stop {t : Nat → Bool} {n : Nat} (h : t n = false) : dropN t (n + 1) = n + 1 := by
  rw [dropN, if_neg (by rw [h]; exact Bool.false_ne_true)]
def trimN (ps : List Int) : Nat := dropN (fun k => ps.getD k 0 == 0) ps.length
def trimM (ps : List Int) : List Int := ps.take (trimN ps)
def needN (fs ps : List Int) : Nat := dropN (fun k => fs.getD k 0 == valueM ps (k : Nat)) fs.length
def needM (fs ps : List Int) : List Int := fs.take (needN fs ps)
theorem cut_take {α : Type} (xs : List α) (k : Nat) : cutG xs none (some (k : Int)) = xs.take k := by
  unfold cutG
  rw [HT.sIx_none, HT.sIx_nat, List.drop_zero, Nat.sub_zero]
  by_cases h : k ≤ xs.length
  · rw [Nat.min_eq_left h]
  · rw [Nat.min_eq_right (by omega), List.take_of_length_le (Nat.le_refl _), List.take_of_length_le (by omega)]
theorem cut_drop {α : Type} (xs : List α) (k : Nat) : cutG xs (some (k : Int)) none = xs.drop k := by
  unfold cutG
  rw [HT.sIx_none, HT.sIx_nat]
  by_cases h : k ≤ xs.length
  · rw [Nat.min_eq_left h, List.take_of_length_le (by rw [List.length_drop]; omega)]
  · rw [Nat.min_eq_right (by omega), List.drop_eq_nil_of_le (Nat.le_refl _), List.drop_eq_nil_of_le (by omega), List.take_nil]
theorem cut_map {α β : Type} (f : α → β) (xs : List α) (lo hi : Option Int) : cutG (xs.map f) lo hi = (cutG xs lo hi).map f := by
  unfold cutG
  rw [List.length_map, List.map_take, List.map_drop]
theorem trimM_bd {B : Nat} {ps : List Int} (h : Bd B ps) : Bd B (trimM ps) := h.take _
theorem needM_bd {B : Nat} {fs ps : List Int} (h : Bd B fs) : Bd B (needM fs ps) := h.take _
theorem trimM_len (ps : List Int) : (trimM ps).length ≤ ps.length := List.length_take_le' ..
theorem needM_len (fs ps : List Int) : (needM fs ps).length ≤ fs.length := List.length_take_le' ..
end KP

set_option Elab.async false
set_option linter.all false
set_option autoImplicit false
set_option maxRecDepth 100000
set_option maxHeartbeats 4000000
namespace KP
open PySem PySem.Spec PyProof.Rows L2 DL
/-! ### Newton series -/
def binN : Nat → Nat → Int
  | _, 0 => 1
  | 0, _ + 1 => 0
  | n + 1, k + 1 => binN n (k + 1) + binN n k
theorem bin0 (n : Nat) : binN n 0 = 1 := by cases n <;> rfl
theorem bin_big : ∀ n k : Nat, n < k → binN n k = 0
  | 0, 0, h => absurd h (by decide)
  | 0, k + 1, _ => rfl
  | n + 1, 0, h => absurd h (by omega)
  | n + 1, k + 1, h => by
    rw [binN, bin_big n (k + 1) (by omega), bin_big n k (by omega)]; rfl
theorem bin_abs : ∀ n k : Nat, ((k : Int) + 1) * binN n (k + 1) = ((n : Int) - k) * binN n k
  | 0, 0 => by decide
  | 0, k + 1 => by
    rw [bin_big 0 (k + 1 + 1) (by omega), bin_big 0 (k + 1) (by omega)]; simp
  | n + 1, 0 => by
    have h := bin_abs n 0
    rw [bin0, Int.mul_one] at h
    show (((0 : Nat) : Int) + 1) * (binN n (0 + 1) + binN n 0) = _
    rw [Int.mul_add, h, bin0, bin0]
    push_cast
    omega
  | n + 1, k + 1 => by
    have h1 := bin_abs n (k + 1)
    have h2 := bin_abs n k
    rw [binN, binN]
    push_cast at *
    generalize binN n (k + 1 + 1) = x at *
    generalize binN n (k + 1) = y at *
    generalize binN n k = z at *
    have e1 : ((k : Int) + 1 + 1) * (x + y) = ((k : Int) + 1 + 1) * x + ((k : Int) + 1 + 1) * y := Int.mul_add ..
    rw [e1, h1]
    have e2 : ((n : Int) - (k + 1)) * y = (n : Int) * y - (k + 1) * y := Int.sub_mul ..
    have e3 : ((k : Int) + 1 + 1) * y = (k + 1) * y + y := by rw [Int.add_mul, Int.one_mul]
    have e4 : ((n : Int) + 1 - (k + 1)) * (y + z) = (n : Int) * y + y - (k + 1) * y + ((n : Int) - k) * z := by
      rw [show (n : Int) + 1 - (k + 1) = (n : Int) - k by omega, Int.mul_add, Int.sub_mul (n : Int) k y, Int.add_mul, Int.one_mul]
      omega
    rw [e2, e3, e4, ← h2]
    omega
theorem choose_nat (n : Nat) : ∀ k : Nat, chooseM (n : Int) k = binN n k
  | 0 => (bin0 n).symm
  | k + 1 => by
    rw [chooseM, choose_nat n k, Int.mul_comm, ← bin_abs]
    exact Int.mul_ediv_cancel_left _ (by omega)
def sumTo (m : Nat) (g : Nat → Int) : Int := match m with
  | 0 => 0
  | m + 1 => sumTo m g + g m
theorem sumTo_add (m : Nat) (f g : Nat → Int) : sumTo m (fun j => f j + g j) = sumTo m f + sumTo m g := by
  induction m with
  | zero => rfl
  | succ m ih => rw [sumTo, sumTo, sumTo, ih]; omega
theorem sumTo_mul (m : Nat) (c : Int) (g : Nat → Int) : sumTo m (fun j => c * g j) = c * sumTo m g := by
  induction m with
  | zero => rw [sumTo, sumTo, Int.mul_zero]
  | succ m ih => rw [sumTo, sumTo, ih, Int.mul_add]
theorem sumTo_congr {m : Nat} {f g : Nat → Int} (h : ∀ j, j < m → f j = g j) : sumTo m f = sumTo m g := by
  induction m with
  | zero => rfl
  | succ m ih => rw [sumTo, sumTo, ih fun j hj => h j (by omega), h m (by omega)]
theorem sumTo_zero (m : Nat) : sumTo m (fun _ => 0) = 0 := by
  induction m with
  | zero => rfl
  | succ m ih => rw [sumTo, ih]; rfl
theorem sumTo_front (m : Nat) (g : Nat → Int) : sumTo (m + 1) g = g 0 + sumTo m (fun j => g (j + 1)) := by
  induction m with
  | zero => simp [sumTo]
  | succ m ih => rw [sumTo, ih, sumTo]; omega
theorem sumTo_more {m n : Nat} {g : Nat → Int} (h : m ≤ n) (hz : ∀ j, m ≤ j → j < n → g j = 0) : sumTo n g = sumTo m g := by
  induction n with
  | zero => have : m = 0 := by omega
            rw [this]
  | succ n ih =>
    by_cases e : m = n + 1
    · rw [e]
    · rw [sumTo, ih (by omega) (fun j h1 h2 => hz j h1 (by omega)), hz n (by omega) (by omega)]; omega
theorem sum_range (m : Nat) (g : Nat → Int) : ((List.range m).map g).sum = sumTo m g := by
  induction m with
  | zero => rfl
  | succ m ih => rw [List.range_succ, List.map_append, List.sum_append, ih, sumTo]; simp
/-- the function whose differences at 0 are c -/
def ev (c : Nat → Int) (n : Nat) : Int := sumTo (n + 1) fun j => c j * binN n j
theorem ev_to (c : Nat → Int) {m n : Nat} (h : n < m) : sumTo m (fun j => c j * binN n j) = ev c n :=
  sumTo_more (by omega) fun j h1 _ => by rw [bin_big n j (by omega), Int.mul_zero]
def cf (p : List Int) : Nat → Int := fun j => p.getD j 0
theorem cf_big {p : List Int} {j : Nat} (h : p.length ≤ j) : cf p j = 0 := by unfold cf; rw [List.getD_eq_getElem?_getD, List.getElem?_eq_none h]; rfl
theorem value_ev (p : List Int) (n : Nat) : valueM p (n : Int) = ev (cf p) n := by
  unfold valueM termsM
  rw [sum_range]
  have h1 : sumTo p.length (fun j => p.getD j 0 * chooseM (n : Int) j) = sumTo (max p.length (n + 1)) (fun j => cf p j * binN n j) := by
    rw [sumTo_more (m := p.length) (n := max p.length (n + 1)) (by omega) fun j hj _ => by rw [cf_big hj, Int.zero_mul]]
    exact sumTo_congr fun j _ => by rw [choose_nat]; rfl
  rw [h1]
  exact ev_to _ (by omega)
def dlt (f : Nat → Int) : Nat → Int := fun n => f (n + 1) - f n
def dltN : Nat → (Nat → Int) → (Nat → Int)
  | 0, f => f
  | m + 1, f => dltN m (dlt f)
theorem dltN_succ : ∀ (m : Nat) (f : Nat → Int), dltN (m + 1) f = dlt (dltN m f)
  | 0, _ => rfl
  | m + 1, f => by
    show dltN (m + 1) (dlt f) = dlt (dltN m (dlt f))
    exact dltN_succ m (dlt f)
theorem ev_zero (c : Nat → Int) : ev c 0 = c 0 := by unfold ev; simp [sumTo, binN]
theorem ev_dlt (c : Nat → Int) : dlt (ev c) = ev (fun j => c (j + 1)) := by
  funext n
  unfold dlt
  have h1 : ev c (n + 1) = c 0 + sumTo (n + 1) (fun j => c (j + 1) * binN (n + 1) (j + 1)) := by
    unfold ev
    rw [sumTo_front, bin0, Int.mul_one]
  have h2 : ev c n = c 0 + sumTo (n + 1) (fun j => c (j + 1) * binN n (j + 1)) := by
    rw [← ev_to c (m := n + 1 + 1) (by omega), sumTo_front, bin0, Int.mul_one]
  rw [h1, h2]
  have h3 : sumTo (n + 1) (fun j => c (j + 1) * binN (n + 1) (j + 1)) = sumTo (n + 1) (fun j => c (j + 1) * binN n (j + 1)) + ev (fun j => c (j + 1)) n := by
    unfold ev
    rw [← sumTo_add]
    exact sumTo_congr fun j _ => by rw [binN, Int.mul_add]
  rw [h3]
  omega
theorem dltN_ev (c : Nat → Int) : ∀ m : Nat, dltN m (ev c) = ev (fun j => c (m + j))
  | 0 => by simp [dltN]
  | m + 1 => by
    rw [dltN_succ, dltN_ev c m, ev_dlt]
    congr 1
    funext j
    rw [show m + (j + 1) = m + 1 + j by omega]
theorem dltN_at0 (c : Nat → Int) (m : Nat) : dltN m (ev c) 0 = c m := by rw [dltN_ev, ev_zero]; rfl
theorem ev_inj {c d : Nat → Int} (h : ev c = ev d) : c = d := by
  funext j
  rw [← dltN_at0 c, h, dltN_at0]
/-- every function is its Newton series -/
theorem newton (f : Nat → Int) : f = ev (fun j => dltN j f 0) := by
  funext n
  induction n generalizing f with
  | zero => rw [ev_zero]; rfl
  | succ n ih =>
    have h1 := ih f
    have h2 := ih (dlt f)
    have h3 : dlt (ev fun j => dltN j f 0) n = ev (fun j => dltN (j + 1) f 0) n := by rw [ev_dlt]
    have h4 : ev (fun j => dltN (j + 1) f 0) n = dlt f n := h2.symm
    rw [h4] at h3
    unfold dlt at h3
    rw [← h1] at h3
    omega
/-- the degree is below m -/
def Dg (m : Nat) (f : Nat → Int) : Prop := dltN m f = fun _ => 0
theorem dltN_zero : ∀ m : Nat, dltN m (fun _ => 0) = fun _ => 0
  | 0 => rfl
  | m + 1 => by
    rw [dltN]
    have : dlt (fun _ => (0 : Int)) = fun _ => 0 := by funext n; rfl
    rw [this, dltN_zero m]
theorem dltN_plus : ∀ (a b : Nat) (f : Nat → Int), dltN (a + b) f = dltN b (dltN a f)
  | 0, b, f => by rw [Nat.zero_add]; rfl
  | a + 1, b, f => by rw [show a + 1 + b = (a + b) + 1 by omega, dltN, dltN, dltN_plus a b]
theorem Dg.mono {m n : Nat} {f : Nat → Int} (h : Dg m f) (hm : m ≤ n) : Dg n f := by
  unfold Dg at *
  rw [show n = m + (n - m) by omega, dltN_plus, h, dltN_zero]
theorem dltN_add : ∀ (m : Nat) (f g : Nat → Int), dltN m (fun n => f n + g n) = fun n => dltN m f n + dltN m g n
  | 0, _, _ => rfl
  | m + 1, f, g => by
    rw [dltN, dltN, dltN]
    have : dlt (fun n => f n + g n) = fun n => dlt f n + dlt g n := by funext n; simp only [dlt]; omega
    rw [this, dltN_add m]
theorem dltN_mul : ∀ (m : Nat) (k : Int) (f : Nat → Int), dltN m (fun n => k * f n) = fun n => k * dltN m f n
  | 0, _, _ => rfl
  | m + 1, k, f => by
    rw [dltN, dltN]
    have : dlt (fun n => k * f n) = fun n => k * dlt f n := by funext n; unfold dlt; rw [Int.mul_sub]
    rw [this, dltN_mul m]
theorem Dg.add {m : Nat} {f g : Nat → Int} (h1 : Dg m f) (h2 : Dg m g) : Dg m (fun n => f n + g n) := by
  unfold Dg at *
  rw [dltN_add, h1, h2]; rfl
theorem Dg.smul {m : Nat} {f : Nat → Int} (k : Int) (h1 : Dg m f) : Dg m (fun n => k * f n) := by
  unfold Dg at *
  rw [dltN_mul, h1]; funext n; exact Int.mul_zero k
theorem dltN_shift : ∀ (m : Nat) (f : Nat → Int), dltN m (fun n => f (n + 1)) = fun n => dltN m f (n + 1)
  | 0, _ => rfl
  | m + 1, f => by
    rw [dltN, dltN]
    have : dlt (fun n => f (n + 1)) = fun n => dlt f (n + 1) := rfl
    rw [this, dltN_shift m]
theorem Dg.shift {m : Nat} {f : Nat → Int} (h : Dg m f) : Dg m (fun n => f (n + 1)) := by
  unfold Dg at *
  rw [dltN_shift, h]
theorem Dg.zero {f : Nat → Int} (h : Dg 0 f) : f = fun _ => 0 := h
theorem Dg.mul : ∀ (s a b : Nat) (f g : Nat → Int), a + b = s → Dg a f → Dg b g → Dg (a + b) (fun n => f n * g n)
  | s, 0, b, f, g, _, h1, _ => by
    rw [h1.zero]
    have : (fun n => (0 : Int) * g n) = fun _ => 0 := by funext n; exact Int.zero_mul _
    unfold Dg
    rw [this, dltN_zero]
  | s, a + 1, 0, f, g, _, _, h2 => by
    rw [h2.zero]
    have : (fun n => f n * (0 : Int)) = fun _ => 0 := by funext n; exact Int.mul_zero _
    unfold Dg
    rw [this, dltN_zero]
  | 0, a + 1, b + 1, f, g, h, _, _ => by omega
  | s + 1, a + 1, b + 1, f, g, h, h1, h2 => by
    have e : dlt (fun n => f n * g n) = fun n => dlt f n * g n + f (n + 1) * dlt g n := by
      funext n; simp only [dlt]; rw [Int.sub_mul, Int.mul_sub]; omega
    have k1 : Dg (a + (b + 1)) (fun n => dlt f n * g n) := Dg.mul s a (b + 1) _ g (by omega) h1 h2
    have k2 : Dg ((a + 1) + b) (fun n => f (n + 1) * dlt g n) := Dg.mul s (a + 1) b _ _ (by omega) h1.shift h2
    unfold Dg
    rw [show a + 1 + (b + 1) = (a + (b + 1)) + 1 by omega, dltN, e]
    exact Dg.add k1 (by rw [show a + (b + 1) = a + 1 + b by omega]; exact k2)
  termination_by s => s
theorem Dg.coef {m : Nat} {f : Nat → Int} (h : Dg m f) {j : Nat} (hj : m ≤ j) : dltN j f 0 = 0 := by
  have := h.mono hj
  unfold Dg at this
  rw [this]
theorem Dg.of_cf {c : Nat → Int} {m : Nat} (h : ∀ j, m ≤ j → c j = 0) : Dg m (ev c) := by
  unfold Dg
  rw [dltN_ev]
  funext n
  unfold ev
  rw [← sumTo_zero (n + 1)]
  exact sumTo_congr fun j _ => by simp only []; rw [h _ (by omega), Int.zero_mul]
theorem dg_value (p : List Int) : Dg p.length (fun n => valueM p (n : Int)) := by
  have : (fun n : Nat => valueM p (n : Int)) = ev (cf p) := by funext n; exact value_ev p n
  rw [this]
  exact Dg.of_cf fun j hj => cf_big hj
/-- a polynomial that is 0 from some place on is 0 -/
theorem Dg.none : ∀ {m : Nat} {f : Nat → Int} {N : Nat}, Dg m f → (∀ n, N ≤ n → f n = 0) → f = fun _ => 0
  | 0, f, N, h, _ => h.zero
  | m + 1, f, N, h, hz => by
    have h1 : dlt f = fun _ => 0 := Dg.none (m := m) (N := N) h fun n hn => by unfold dlt; rw [hz n hn, hz (n + 1) (by omega)]; rfl
    have h2 : ∀ n, f n = f 0 := by
      intro n
      induction n with
      | zero => rfl
      | succ n ih =>
        have := congrFun h1 n
        unfold dlt at this
        omega
    funext n
    rw [h2, ← h2 N, hz N (Nat.le_refl _)]
theorem Dg.eq_of {m : Nat} {f g : Nat → Int} {N : Nat} (h1 : Dg m f) (h2 : Dg m g) (h : ∀ n, N ≤ n → f n = g n) : f = g := by
  have h3 : (fun n => f n + -1 * g n) = fun _ => 0 := (h1.add (h2.smul (-1))).none (N := N) fun n hn => by rw [h n hn]; omega
  funext n
  have h4 := congrFun h3 n
  have h5 : f n + -1 * g n = 0 := h4
  omega
end KP

set_option Elab.async false
set_option linter.all false
set_option autoImplicit false
set_option maxRecDepth 100000
set_option maxHeartbeats 4000000
namespace KP
open PySem PySem.Spec PyProof.Rows L2 DL
def topS (i : Nat) : Stmt := PySem.Challenge.pw_plandays_k74_counted_that_are_equal.main.body.getD i (.Pass ⟨0, 0, 0, 0⟩)
abbrev s_choose : Stmt := topS 1
abbrev s_PlanError_XinitX : Stmt := inClass (topS 3) 0
abbrev s_groupings : Stmt := topS 6
abbrev s_step_rows : Stmt := topS 7
abbrev s_patterns_with : Stmt := topS 8
abbrev s_place_of : Stmt := topS 9
abbrev s_in_order : Stmt := topS 10
abbrev s_keeps_rule : Stmt := topS 11
abbrev s_patterns : Stmt := topS 12
abbrev s_length_of : Stmt := topS 13
abbrev s_freedom_of : Stmt := topS 14
abbrev s_lists_with : Stmt := topS 15
abbrev s_shapes_of : Stmt := topS 17
abbrev s_count_shapes : Stmt := topS 18
abbrev s_trimmed : Stmt := topS 19
abbrev s_add_binomial : Stmt := topS 20
abbrev s_polynomial_of : Stmt := topS 21
abbrev s_polynomial : Stmt := topS 22
abbrev s_value_at : Stmt := topS 23
abbrev s_from_values : Stmt := topS 24
abbrev s_product : Stmt := topS 25
abbrev s_number_at : Stmt := topS 27
abbrev s_needed : Stmt := topS 28
abbrev s_added : Stmt := topS 29
abbrev s_day_later : Stmt := topS 30
abbrev s_steps_of : Stmt := topS 31
abbrev s_excess_steps : Stmt := topS 32
abbrev s_delayed : Stmt := topS 33
abbrev s_chained : Stmt := topS 34
abbrev s_followed : Stmt := topS 35
abbrev s_Counted_XinitX : Stmt := inClass (topS 36) 0
abbrev s_Counted_of : Stmt := inClass (topS 36) 1
abbrev s_Counted_begin : Stmt := inClass (topS 36) 2
abbrev s_Counted_firsts : Stmt := inClass (topS 36) 3
abbrev s_Counted_poly : Stmt := inClass (topS 36) 4
abbrev s_Counted_XgetitemX : Stmt := inClass (topS 36) 5
abbrev s_Counted_XiterX : Stmt := inClass (topS 36) 6
abbrev s_Counted_XaddX : Stmt := inClass (topS 36) 7
abbrev s_Counted_XsubX : Stmt := inClass (topS 36) 8
abbrev s_Counted_XmulX : Stmt := inClass (topS 36) 9
abbrev s_Counted_XrshiftX : Stmt := inClass (topS 36) 10
abbrev s_Counted_XeqX : Stmt := inClass (topS 36) 11
abbrev s__law_deck : Stmt := topS 38
abbrev s__law_draw : Stmt := topS 39
abbrev s__law_great : Stmt := topS 40
abbrev s__law_list : Stmt := topS 41
abbrev s__law_value : Stmt := topS 42
abbrev s__law_lists : Stmt := topS 43
abbrev s__law_order : Stmt := topS 44
abbrev s__law_needed : Stmt := topS 45
abbrev s__law_trimmed : Stmt := topS 46
abbrev s__law_changed : Stmt := topS 47
abbrev s__law_compared : Stmt := topS 48
abbrev s_law : Stmt := topS 49
end KP


set_option Elab.async false
set_option linter.all false
set_option autoImplicit false
set_option maxRecDepth 100000
set_option maxHeartbeats 4000000
namespace KP
open PySem PySem.Spec PyProof.Rows L2 DL


def S_draw : SpD := fun ds P _ => ∃ many : Int, ds = [.deck, .int many] ∧ 0 < many ∧ many.natAbs.log2 < 9000 ∧ ∀ r, 0 ≤ r → r < many → P (.int r)
theorem sc__law_draw : FnScope ["deck", "many", "one"] ["deck", "many"] (defScope s__law_draw) := ⟨rfl, rfl, rfl, by decide +kernel, rfl, by decide +kernel, by decide +kernel⟩
/-- the deck as it stands; all else as in H -/
structure DeckSt (a b : Addr) (H H1 : Hp) (gs : List Int) (c s : Int) : Prop where
  ha : H1 a = some (.lst [.ref b, .int c, .int s])
  hb : H1 b = some (.lst (gs.map V.int))
  s0 : 0 ≤ s
  s1 : s < 2 ^ 31
  gl : gs.length ≤ 64
  ot : ∀ x, x ≠ a → x ≠ b → H1 x = H x
theorem DeckSt.setA {a b : Addr} {H H1 : Hp} {gs : List Int} {c s c' s' : Int} (ne : a ≠ b) (d : DeckSt a b H H1 gs c s) (h0 : 0 ≤ s') (h1 : s' < 2 ^ 31) : DeckSt a b H (upd H1 a (.lst [.ref b, .int c', .int s'])) gs c' s' :=
  ⟨upd_same, by rw [upd_ne ne.symm]; exact d.hb, h0, h1, d.gl, fun x h1 h2 => by rw [upd_ne h1]; exact d.ot x h1 h2⟩
theorem DeckSt.setB {a b : Addr} {H H1 : Hp} {gs gs' : List Int} {c s : Int} (ne : a ≠ b) (d : DeckSt a b H H1 gs c s) (hl : gs'.length ≤ 64) : DeckSt a b H (upd H1 b (.lst (gs'.map V.int))) gs' c s :=
  ⟨by rw [upd_ne ne]; exact d.ha, upd_same, d.s0, d.s1, hl, fun x h1 h2 => by rw [upd_ne h2]; exact d.ot x h1 h2⟩
theorem DeckSt.stp {p : Addr × Addr} {H Hs H1 : Hp} {gs : List Int} {c s : Int} (bs : Bs (some p) H Hs) (ne : p.1 ≠ p.2) (d : DeckSt p.1 p.2 H H1 gs c s) : Stp (some p) H Hs H1 Hs := by
  have hs1 : Hs p.1 = none := bs.dkn _ ⟨p, rfl, .inl rfl⟩
  have hs2 : Hs p.2 = none := bs.dkn _ ⟨p, rfl, .inr rfl⟩
  refine ⟨Same.refl _, fun _ _ h => h, fun x o h1 _ h3 => ?_, ⟨fun x o h => ?_, fun q e => ?_, bs.dkn⟩⟩
  · rw [d.ot x (fun z => h3 ⟨p, rfl, .inl z⟩) (fun z => h3 ⟨p, rfl, .inr z⟩)]; exact h1
  · have n1 : x ≠ p.1 := fun z => by subst z; rw [hs1] at h; cases h
    have n2 : x ≠ p.2 := fun z => by subst z; rw [hs2] at h; cases h
    rw [d.ot x n1 n2]; exact bs.sub _ _ h
  · cases e
    exact ⟨ne, gs, c, s, d.ha, d.hb, d.s0, d.s1, d.gl⟩
theorem pop_last (gs : List Int) (h : gs ≠ []) : (gs.map V.int)[(gs.map V.int).length - 1]? = some (.int (gs.getLast h)) ∧ (gs.map V.int).dropLast = gs.dropLast.map V.int := by
  constructor
  · rw [List.length_map, List.getElem?_map, ← List.getLast?_eq_getElem?, List.getLast?_eq_some_getLast h]; rfl
  · rw [List.map_dropLast]
section
variable {P : Program} {w : World} {K : PySem.W.Frag} {mg : Str → Option Value} {base : Heap}
theorem ok_draw {f : Addr} {fd : FuncData} (F : Fun K "_law_draw" "_law_draw" s__law_draw f fd) (Z : Zs mg) : FnOk P w K mg base (L2.CX P w) 1 f fd ["deck", "many"] (spOf K S_draw) := by
  refine F.okX sc__law_draw (fun vs H Q E ⟨dp, Hs, ds, Pd, PX, bs, hr, ⟨m, e, _⟩, _⟩ => by rw [← hr.length, e]; rfl) (fun cdv A outer s H vs Q E hr h => ?_)
  obtain ⟨dp, Hs, ds, Pd, PX, bs, hreps, ⟨many, e, hpos, hlog, hp⟩, k1, _⟩ := h
  subst e
  obtain ⟨v1, r1, rfl, q1, t1⟩ := hreps.uncons
  obtain ⟨v2, r2, rfl, q2, t2⟩ := t1.uncons
  cases t2.unnil
  cases q2.int'
  obtain ⟨p, rfl, rfl⟩ : ∃ p, dp = some p ∧ v1 = .ref p.1 := by unfold Rep at q1; exact q1
  obtain ⟨ne, gs, c, sd, h1, h2, s0, s1, gl⟩ := bs.dk p rfl
  have d0 : DeckSt p.1 p.2 H H gs c sd := ⟨h1, h2, s0, s1, gl, fun _ _ _ => rfl⟩
  obtain ⟨t2, hps2, rest⟩ : ∃ t, PSs (cxOf (L2.CX P w) P w K mg base ["deck", "many", "one"] "_law_draw" (defScope s__law_draw) f cdv A outer s H E).nox ((defBody s__law_draw).drop 1) t ∧ ∀ (H1 : Hp) (gs : List Int) (c sd : Int), DeckSt p.1 p.2 H H1 gs c sd → t { nx := fun _ H' => Q .non H', rt := Q } [some (.ref p.1), some (.int many), none] H1 := by
    refine ⟨_, (pss_cons (ps_if (pt_cmpR op_gt (pe_ix ix_list (pv 0) pe_int (fun _ _ => rfl)) pe_int (nomark _))
      (pss_cons (ps_set (i := 2) sc__law_draw.nd rfl (.inl rfl) (pe_op op_mod (pe_callTy call_int1 (by rfl) Z.int bt_int (pa_cons (pe_ix ix_list (pv 0) pe_int (fun _ _ => rfl)) pa_nil)) (pv 1)))
        (pss_cons (ps_asg (pe_op op_fdivW (pe_ix ix_list (pv 0) pe_int (fun _ _ => rfl)) (pv 1)) (pg_sub (pv 0) pe_int set_list)) (pss_one (ps_ret (pv 2))))) pss_nil)
    (pss_cons (ps_asg (pe_op op_mod (pe_op op_mulW (pe_ix ix_list (pv 0) pe_int (fun _ _ => rfl)) pe_int) pe_int) (pg_sub (pv 0) pe_int set_list))
    (pss_one (ps_ret (pe_op op_mod (pe_op op_fdivW (pe_op op_add (pe_op op_mod (pe_op op_mulW (pe_ix ix_list (pv 0) pe_int (fun _ _ => rfl)) (pe_ix ix_list (pv 0) pe_int (fun _ _ => rfl))) pe_int) (pe_op op_fdivW (pe_ix ix_list (pv 0) pe_int (fun _ _ => rfl)) pe_int)) pe_int) (pv 1)))))), fun H1 gs c sd d => ?_⟩
    refine ⟨.ref p.1, rfl, p.1, _, 1, .int c, rfl, rfl, .of d.ha, rfl, c, 1, rfl, rfl, _, rfl, ?_⟩
    by_cases hc : 1 < c
    · rw [decide_eq_true hc]
      refine iteT ?_
      refine ⟨.ref p.1, rfl, p.1, _, 1, .int c, rfl, rfl, .of d.ha, rfl, .inl ⟨c, rfl, _, rfl, c, many, rfl, rfl, hpos, ?_⟩⟩
      refine ⟨.ref p.1, rfl, p.1, _, 1, .int c, rfl, rfl, .of d.ha, rfl, _, rfl, c, many, rfl, rfl, ⟨hpos, hlog⟩, ?_⟩
      refine ⟨.ref p.1, rfl, p.1, _, 1, 1, rfl, rfl, d.ha, rfl, ?_⟩
      refine ⟨_, rfl, ?_⟩
      exact k1 _ (hp _ (Int.emod_nonneg _ (by omega)) (Int.emod_lt_of_pos _ hpos)) _ _ Hs ((d.setA ne d.s0 d.s1).stp bs ne) rep_int
    · rw [decide_eq_false hc]
      refine iteF ?_
      have hsd : sd.natAbs < 2 ^ 31 := by have := d.s0; have := d.s1; omega
      have e0 : 0 ≤ sd * 48271 % 2147483647 := Int.emod_nonneg _ (by decide)
      have e1 : sd * 48271 % 2147483647 < 2147483647 := Int.emod_lt_of_pos _ (by decide)
      refine ⟨.ref p.1, rfl, p.1, _, 2, .int sd, rfl, rfl, .of d.ha, rfl, sd, 48271, rfl, rfl, mulW_of (a := 31) (b := 16) hsd (by decide) (by decide), _, 2147483647, rfl, rfl, by show (0 : Int) < 2147483647; decide, ?_⟩
      refine ⟨.ref p.1, rfl, p.1, _, 2, 2, rfl, rfl, d.ha, rfl, ?_⟩
      have d2 := d.setA (c' := c) (s' := sd * 48271 % 2147483647) ne e0 (by omega)
      have hz : (sd * 48271 % 2147483647).natAbs < 2 ^ 31 := by omega
      refine ⟨.ref p.1, rfl, p.1, _, 2, .int (sd * 48271 % 2147483647), rfl, rfl, .of d2.ha, rfl, .ref p.1, rfl, p.1, _, 2, .int (sd * 48271 % 2147483647), rfl, rfl, .of d2.ha, rfl, _, _, rfl, rfl, mulW_of hz hz (by decide), _, 2147483629, rfl, rfl, by show (0 : Int) < 2147483629; decide, ?_⟩
      refine ⟨.ref p.1, rfl, p.1, _, 2, .int (sd * 48271 % 2147483647), rfl, rfl, .of d2.ha, rfl, _, 7, rfl, rfl, ⟨by decide, by decide⟩, _, _, rfl, rfl, _, 3, rfl, rfl, ⟨by decide, by decide⟩, _, rfl, _, many, rfl, rfl, hpos, ?_⟩
      exact k1 _ (hp _ (Int.emod_nonneg _ (by omega)) (Int.emod_lt_of_pos _ hpos)) _ _ Hs (d2.stp bs ne) rep_int
  refine ⟨_, PSs.nox (pss_cons (ps_while PassesOwn.never (pw_and (pt_cmpR op_lt (pe_ix ix_list (pv 0) pe_int (fun _ _ => rfl)) pe_int (nomark _)) (pw_and1 (pt_cmpR op_gt (pe_callB call_len_seq (by rfl) Z.len bt_len (pa_cons (pe_ix ix_list (pv 0) pe_int (fun _ _ => rfl)) pa_nil)) pe_int (nomark _)))).pt
      (pss_one (ps_asg (pe_bm0 PySem.F.plainAttrs_list PySem.F.slot_list_pop PySem.F.type_list_pop mt_pop (pe_ix ix_list (pv 0) pe_int (fun _ _ => rfl))) (pg_sub (pv 0) pe_int set_list)))) hps2), ?_⟩
  refine ⟨fun m σ H1 => ∃ gs c sd, σ = [some (.ref p.1), some (.int many), none] ∧ DeckSt p.1 p.2 H H1 gs c sd ∧ gs.length = m, ⟨gs.length, gs, c, sd, rfl, d0, rfl⟩, ?_⟩
  rintro m σ H1 ⟨gs, c, sd, rfl, d, rfl⟩
  refine ⟨.ref p.1, rfl, p.1, _, 1, .int c, rfl, rfl, .of d.ha, rfl, c, 2, rfl, rfl, _, rfl, ?_⟩
  by_cases hc : c < 2
  · rw [decide_eq_true hc]
    refine iteT ?_
    refine ⟨.ref p.1, rfl, p.1, _, 0, .ref p.2, rfl, rfl, .of d.ha, rfl, p.2, _, rfl, .inl (.of d.hb), _, _, rfl, rfl, _, rfl, ?_⟩
    by_cases hg : (0 : Int) < ((gs.map V.int).length : Nat)
    · rw [decide_eq_true hg]
      refine iteT ?_
      have hne : gs ≠ [] := fun z => by subst z; exact absurd hg (by decide)
      obtain ⟨e1, e2⟩ := pop_last gs hne
      refine ⟨fun σ' H' => ∃ gs' c' sd', σ' = [some (.ref p.1), some (.int many), none] ∧ DeckSt p.1 p.2 H H' gs' c' sd' ∧ gs'.length < gs.length, fun σ' H' ⟨gs', c', sd', e, d', hl⟩ => ⟨_, hl, gs', c', sd', e, d', rfl⟩, ?_⟩
      refine ⟨.ref p.1, rfl, p.1, _, 0, .ref p.2, rfl, rfl, .of d.ha, rfl, .inl ⟨rfl, _, .of d.hb⟩, p.2, _, _, rfl, rfl, d.hb, e1, ?_⟩
      rw [e2]
      have hl : gs.dropLast.length < gs.length := by
        rw [List.length_dropLast]
        have : 0 < gs.length := List.length_pos_iff.mpr hne
        omega
      have d1 := d.setB (gs' := gs.dropLast) ne (by have := d.gl; omega)
      refine ⟨.ref p.1, rfl, p.1, _, 1, 1, rfl, rfl, d1.ha, rfl, ?_⟩
      exact ⟨gs.dropLast, gs.getLast hne, sd, rfl, d1.setA ne d.s0 d.s1, hl⟩
    · rw [decide_eq_false hg]
      exact iteF (rest H1 gs c sd d)
  · rw [decide_eq_false hc]
    exact iteF (iteF (rest H1 gs c sd d))
end

end KP

set_option Elab.async false
set_option linter.all false
set_option autoImplicit false
set_option maxRecDepth 100000
set_option maxHeartbeats 4000000
namespace KP
open PySem PySem.Spec PyProof.Rows L2 DL

section
variable {P : Program} {w : World} {K : PySem.W.Frag} {mg : Str → Option Value} {base : Heap}
/-! ### choose -/
def S_choose : SpD := fun ds P _ => ∃ (t k : Int) (n : Nat), ds = [.int t, .int k] ∧ 0 ≤ k ∧ k.toNat ≤ 2 ^ n ∧ k < 2 ^ 62 ∧ t.natAbs < 2 ^ n ∧ (n + 1) * (k.toNat + 1) ≤ 400000 ∧ P (.int (chooseM t k.toNat))
theorem sc_choose : FnScope ["top", "bottom", "result", "index"] ["top", "bottom"] (defScope s_choose) := ⟨rfl, rfl, rfl, by decide +kernel, rfl, by decide +kernel, by decide +kernel⟩
theorem ok_choose {f : Addr} {fd : FuncData} (F : Fun K "choose" "choose" s_choose f fd) (Z : Zs mg) : FnOk P w K mg base (L2.CX P w) 1 f fd ["top", "bottom"] (spOf K S_choose) := by
  refine fn_mk F sc_choose (fun ds P PX h => by obtain ⟨t, k, n, rfl, _⟩ := h; rfl) ⟨_, fun cdv A outer s H E hr => (dss_cons (ds_set (i := 2) sc_choose.nd rfl (Or.inl rfl) d_int)
      (dss_cons (ds_for PassesOwn.never rfl (di_rng1 (by rfl) Z.range (db_cons (dvb 1) db_nil)) (dg_name (i := 3) sc_choose.nd rfl (Or.inl rfl)) (dss_one (ds_set (i := 2) sc_choose.nd rfl (Or.inl rfl) (d_op o_fdiv (d_op o_mul (dvb 2) (d_op o_sub (dvb 0) (dvb 3)).bo).bo (d_op o_add (dvb 3) d_int.bo).bo))))
      (dss_one (ds_ret (dv 2))))), ?_⟩ (fun ds P PX h => h)
  rintro ds P ⟨t, k, n, rfl, h0, h1, h2, h3, h4, hp⟩
  refine ⟨by omega, h2, fun i ρ => ∃ x, ρ = [.sh (.int t), .sh (.int k), .sh (.int (chooseM t i)), x], ⟨_, rfl⟩, ?_, ?_⟩
  · rintro i d ρ hd ⟨x, rfl⟩
    obtain ⟨hi, rfl⟩ := rng_get hd
    simp only [seqD, setD, ownD, conD, varD, varB, binD, iopD, subD, fdivD, modD, powD, ltD, leD, gtD, geD, addD, mulD, catD, repD, eqD, neD, isND, notND, consA, nilA, lstD, tupD, callB, callD, lenD, toIntD, toListD, toTupD, ixD, slD, slL, slT, noO, someO, revD, tstD, truD, andT, orT, notT, andV, orV, notV, ifeD, negD, chnD, retD, retN, ifD, nextD, shareD, dropD, augD, appD, extD, stiD, gN, gsNil, gsCons, gT, gLD, asgD, breakD, contD, fldD, prpD, mthD, makD, sfdD, insOf, oopD, oeqD, aeqD, lrgD, lcPopD, isBD, notBD, ogtD, rseD, isiD, tryV, dropX, ogtX, callX, setX, retX, yesT, max2D, min2D, zipD, enumD, overD, rng1D, rng2D, sumD, allD, anyD, lcD_eq, startD, startI, wipeD, List.map_cons, List.map_nil, List.length_cons, List.length_nil, List.replicate_succ, List.replicate_zero, List.cons_append, List.nil_append, List.set_cons_succ, List.set_cons_zero, List.getElem?_cons_zero, List.getElem?_cons_succ, Nat.reduceAdd, Nat.reduceSub, Nat.reduceLT, Option.some.injEq, true_and, and_true, Int.zero_add]
    have e : (n + 1) * (k.toNat + 1) = (n + 1) * k.toNat + (n + 1) := by rw [Nat.mul_add, Nat.mul_one]
    have e2 : (n + 1) * i ≤ (n + 1) * k.toNat := Nat.mul_le_mul_left _ (Nat.le_of_lt hi)
    refine ⟨mulW_of (chooseM_bd h3 i (by omega)) (b := n + 1) (by rw [Nat.pow_succ]; omega) (by omega), divW_nat i (by omega) _, _, rfl⟩
  · rintro ρ ⟨x, rfl⟩
    simp only [seqD, setD, ownD, conD, varD, varB, binD, iopD, subD, fdivD, modD, powD, ltD, leD, gtD, geD, addD, mulD, catD, repD, eqD, neD, isND, notND, consA, nilA, lstD, tupD, callB, callD, lenD, toIntD, toListD, toTupD, ixD, slD, slL, slT, noO, someO, revD, tstD, truD, andT, orT, notT, andV, orV, notV, ifeD, negD, chnD, retD, retN, ifD, nextD, shareD, dropD, augD, appD, extD, stiD, gN, gsNil, gsCons, gT, gLD, asgD, breakD, contD, fldD, prpD, mthD, makD, sfdD, insOf, oopD, oeqD, aeqD, lrgD, lcPopD, isBD, notBD, ogtD, rseD, isiD, tryV, dropX, ogtX, callX, setX, retX, yesT, max2D, min2D, zipD, enumD, overD, rng1D, rng2D, sumD, allD, anyD, lcD_eq, startD, startI, wipeD, List.map_cons, List.map_nil, List.length_cons, List.length_nil, List.replicate_succ, List.replicate_zero, List.cons_append, List.nil_append, List.set_cons_succ, List.set_cons_zero, List.getElem?_cons_zero, List.getElem?_cons_succ, Nat.reduceAdd, Nat.reduceSub, Nat.reduceLT, Option.some.injEq, true_and, and_true, Int.zero_add]
    rw [rngL_len]
    exact hp
/-! ### value_at -/
def S_value_at : SpD := fun ds P _ => ∃ (ps : List Int) (n : Int) (B N : Nat), ds = [L ps, .int n] ∧ Bd B ps ∧ n.natAbs < 2 ^ N ∧ ps.length ≤ 2 ^ N ∧ ps.length ≤ 4000 ∧ B + (N + 1) * (ps.length + 1) + 1 ≤ 400000 ∧ P (.int (valueM ps n))
theorem sc_value_at : FnScope ["poly", "n", "index"] ["poly", "n"] (defScope s_value_at) := ⟨rfl, rfl, rfl, by decide +kernel, rfl, by decide +kernel, by decide +kernel⟩
theorem ok_value_at {f : Addr} {fd : FuncData} (F : Fun K "value_at" "value_at" s_value_at f fd) (Z : Zs mg) (h_choose : Fd P w K mg base "choose" 1 ["top", "bottom"] S_choose) : FnOk P w K mg base (L2.CX P w) 2 f fd ["poly", "n"] (spOf K S_value_at) := by
  refine fn_mk F sc_value_at (fun ds P PX h => by obtain ⟨t, k, B, n, rfl, _⟩ := h; rfl) ⟨_, fun cdv A outer s H E hr => (dss_one (ds_ret (d_callB (b_sum rfl) (by rfl) Z.sum bt_sum (db_cons (f_lc rfl sc_value_at.nd (di_rng1 (by rfl) Z.range (db_cons (d_callB b_len (by rfl) Z.len bt_len (db_cons (dvb 0) db_nil)).bo db_nil)) (blkOk_by (own := [("index", 2)]) (N := ["poly", "n", "index"]) (sc := defScope s_value_at) (by decide +kernel)) (fun _ _ _ _ _ => (pg_name (i := 2) sc_value_at.nd rfl (by first | exact Or.inl rfl | exact Or.inr rfl))) (tg_name (i := 2)) (fun _ _ _ _ _ => dts_nil) (fun _ _ _ _ _ => (d_op o_mul (d_ix (dvb 0) (dvb 2)).bo (d_call h_choose (hr.mono (by decide)) (by rfl) (da_cons (dv 1) (da_cons (dv 2) da_nil))).bo))).d.bo db_nil)))), ?_⟩ (fun ds P PX h => h)
  rintro ds P ⟨ps, n, B, N, rfl, hb, hn, hl, h40, hm, hp⟩
  simp only [seqD, setD, ownD, conD, varD, varB, binD, iopD, subD, fdivD, modD, powD, ltD, leD, gtD, geD, addD, mulD, catD, repD, eqD, neD, isND, notND, consA, nilA, lstD, tupD, callB, callD, lenD, toIntD, toListD, toTupD, ixD, slD, slL, slT, noO, someO, revD, tstD, truD, andT, orT, notT, andV, orV, notV, ifeD, negD, chnD, retD, retN, ifD, nextD, shareD, dropD, augD, appD, extD, stiD, gN, gsNil, gsCons, gT, gLD, asgD, breakD, contD, fldD, prpD, mthD, makD, sfdD, insOf, oopD, oeqD, aeqD, lrgD, lcPopD, isBD, notBD, ogtD, rseD, isiD, tryV, dropX, ogtX, callX, setX, retX, yesT, max2D, min2D, zipD, enumD, overD, rng1D, rng2D, sumD, allD, anyD, lcD_eq, startD, startI, wipeD, List.map_cons, List.map_nil, List.length_cons, List.length_nil, List.replicate_succ, List.replicate_zero, List.cons_append, List.nil_append, List.set_cons_succ, List.set_cons_zero, List.getElem?_cons_zero, List.getElem?_cons_succ, Nat.reduceAdd, Nat.reduceSub, Nat.reduceLT, Option.some.injEq, true_and, and_true, Int.zero_add, lcD_eq, rng1D, sumD]
  rw [List.length_map]
  refine ⟨by omega, by omega, ?_⟩
  refine lc_all (fun j => .int (ps.getD j 0 * chooseM n j)) (by rw [rngL_len]; omega) (fun i d Q hd hi hq => ?_) ?_
  · obtain ⟨hi, rfl⟩ := rng_get hd
    have hi' : i < ps.length := by omega
    simp only [seqD, setD, ownD, conD, varD, varB, binD, iopD, subD, fdivD, modD, powD, ltD, leD, gtD, geD, addD, mulD, catD, repD, eqD, neD, isND, notND, consA, nilA, lstD, tupD, callB, callD, lenD, toIntD, toListD, toTupD, ixD, slD, slL, slT, noO, someO, revD, tstD, truD, andT, orT, notT, andV, orV, notV, ifeD, negD, chnD, retD, retN, ifD, nextD, shareD, dropD, augD, appD, extD, stiD, gN, gsNil, gsCons, gT, gLD, asgD, breakD, contD, fldD, prpD, mthD, makD, sfdD, insOf, oopD, oeqD, aeqD, lrgD, lcPopD, isBD, notBD, ogtD, rseD, isiD, tryV, dropX, ogtX, callX, setX, retX, yesT, max2D, min2D, zipD, enumD, overD, rng1D, rng2D, sumD, allD, anyD, lcD_eq, startD, startI, wipeD, List.map_cons, List.map_nil, List.length_cons, List.length_nil, List.replicate_succ, List.replicate_zero, List.cons_append, List.nil_append, List.set_cons_succ, List.set_cons_zero, List.getElem?_cons_zero, List.getElem?_cons_succ, Nat.reduceAdd, Nat.reduceSub, Nat.reduceLT, Option.some.injEq, true_and, and_true, Int.zero_add]
    have e : (N + 1) * (ps.length + 1) = (N + 1) * ps.length + (N + 1) := by rw [Nat.mul_add, Nat.mul_one]
    have e2 : (N + 1) * (i + 1) ≤ (N + 1) * ps.length := Nat.mul_le_mul_left _ hi'
    have e3 : (N + 1) * (i + 1) = (N + 1) * i + (N + 1) := by rw [Nat.mul_add, Nat.mul_one]
    refine ⟨_, ix_map _ (List.getElem?_eq_getElem hi'), n, (i : Int), N, rfl, by omega, by omega, by omega, hn, ?_, ?_⟩
    · rw [Int.toNat_natCast]; omega
    · rw [Int.toNat_natCast]
      have eg : ps[i] = ps.getD i 0 := by rw [List.getD_eq_getElem?_getD, List.getElem?_eq_getElem hi']; rfl
      refine ⟨mulW_of (hb.get (List.getElem?_eq_getElem hi')) (chooseM_bd hn i (by omega)) (by omega), ?_⟩
      rw [eg]
      exact hq
  · refine ⟨termsM ps n ps.length, ?_, hp⟩
    rw [rngL_len]
    unfold termsM
    rw [List.map_map]; rfl
/-! ### trimmed, number_at, needed -/
def S_trimmed : SpD := fun ds P _ => ∃ ps : List Int, ds = [L ps] ∧ P (L (trimM ps))
theorem sc_trimmed : FnScope ["poly", "size"] ["poly"] (defScope s_trimmed) := ⟨rfl, rfl, rfl, by decide +kernel, rfl, by decide +kernel, by decide +kernel⟩
theorem ok_trimmed {f : Addr} {fd : FuncData} (F : Fun K "trimmed" "trimmed" s_trimmed f fd) (Z : Zs mg) : FnOk P w K mg base (L2.CX P w) 1 f fd ["poly"] (spOf K S_trimmed) := by
  refine fn_mk F sc_trimmed (fun ds P PX h => by obtain ⟨ps, rfl, _⟩ := h; rfl) ⟨_, fun cdv A outer s H E hr => (dss_cons (ds_set (i := 1) sc_trimmed.nd rfl (Or.inl rfl) (d_callB b_len (by rfl) Z.len bt_len (db_cons (dvb 0) db_nil)))
      (dss_cons (ds_while PassesOwn.never (dw_and (dt_cmp o_gt (dvb 1) d_int.bo) (dw_and1 (dt_cmp (o_eq hr.units) (d_ix (dvb 0) (d_op o_sub (dvb 1) d_int.bo).bo).bo d_int.bo))).t (dss_one (ds_aug (i := 1) sc_trimmed.nd rfl (Or.inl rfl) d_int.bo p_sub)))
      (dss_one (ds_ret (f_callTy t_list (by rfl) Z.list bt_list (db_cons (f_slice (dvb 0) do_none (do_some (dvb 1))).d.bo db_nil)).d)))), ?_⟩ (fun ds P PX h => h)
  rintro ds P ⟨ps, rfl, hp⟩
  simp only [seqD, setD, ownD, conD, varD, varB, binD, iopD, subD, fdivD, modD, powD, ltD, leD, gtD, geD, addD, mulD, catD, repD, eqD, neD, isND, notND, consA, nilA, lstD, tupD, callB, callD, lenD, toIntD, toListD, toTupD, ixD, slD, slL, slT, noO, someO, revD, tstD, truD, andT, orT, notT, andV, orV, notV, ifeD, negD, chnD, retD, retN, ifD, nextD, shareD, dropD, augD, appD, extD, stiD, gN, gsNil, gsCons, gT, gLD, asgD, breakD, contD, fldD, prpD, mthD, makD, sfdD, insOf, oopD, oeqD, aeqD, lrgD, lcPopD, isBD, notBD, ogtD, rseD, isiD, tryV, dropX, ogtX, callX, setX, retX, yesT, max2D, min2D, zipD, enumD, overD, rng1D, rng2D, sumD, allD, anyD, lcD_eq, startD, startI, wipeD, List.map_cons, List.map_nil, List.length_cons, List.length_nil, List.replicate_succ, List.replicate_zero, List.cons_append, List.nil_append, List.set_cons_succ, List.set_cons_zero, List.getElem?_cons_zero, List.getElem?_cons_succ, Nat.reduceAdd, Nat.reduceSub, Nat.reduceLT, Option.some.injEq, true_and, and_true, Int.zero_add]
  rw [List.length_map]
  refine ⟨fun m ρ => ρ = [.sh (L ps), .sh (.int m)] ∧ m ≤ ps.length ∧ dropN (fun k => ps.getD k 0 == 0) m = trimN ps, ⟨ps.length, rfl, Nat.le_refl _, rfl⟩, ?_⟩
  rintro m ρ ⟨rfl, hm, ht⟩
  simp only [seqD, setD, ownD, conD, varD, varB, binD, iopD, subD, fdivD, modD, powD, ltD, leD, gtD, geD, addD, mulD, catD, repD, eqD, neD, isND, notND, consA, nilA, lstD, tupD, callB, callD, lenD, toIntD, toListD, toTupD, ixD, slD, slL, slT, noO, someO, revD, tstD, truD, andT, orT, notT, andV, orV, notV, ifeD, negD, chnD, retD, retN, ifD, nextD, shareD, dropD, augD, appD, extD, stiD, gN, gsNil, gsCons, gT, gLD, asgD, breakD, contD, fldD, prpD, mthD, makD, sfdD, insOf, oopD, oeqD, aeqD, lrgD, lcPopD, isBD, notBD, ogtD, rseD, isiD, tryV, dropX, ogtX, callX, setX, retX, yesT, max2D, min2D, zipD, enumD, overD, rng1D, rng2D, sumD, allD, anyD, lcD_eq, startD, startI, wipeD, List.map_cons, List.map_nil, List.length_cons, List.length_nil, List.replicate_succ, List.replicate_zero, List.cons_append, List.nil_append, List.set_cons_succ, List.set_cons_zero, List.getElem?_cons_zero, List.getElem?_cons_succ, Nat.reduceAdd, Nat.reduceSub, Nat.reduceLT, Option.some.injEq, true_and, and_true, Int.zero_add]
  cases m with
  | zero =>
    simp only [show ¬ ((0 : Int) < ((0 : Nat) : Int)) by decide, decide_false, Bool.false_eq_true, if_false]
    rw [cut_take, ← List.map_take]
    have : trimM ps = ps.take 0 := by unfold trimM; rw [← ht]; rfl
    rw [← this]; exact hp
  | succ m =>
    have hlt : m < ps.length := by omega
    have eg : ps[m] = ps.getD m 0 := by rw [List.getD_eq_getElem?_getD, List.getElem?_eq_getElem hlt]; rfl
    simp only [show (0 : Int) < ((m + 1 : Nat) : Int) by omega, decide_true, if_true]
    rw [show ((m + 1 : Nat) : Int) - 1 = (m : Int) by omega]
    refine ⟨_, ix_map _ (List.getElem?_eq_getElem hlt), pl_int _ _, pl_int _ _, ?_⟩
    rw [eqv_int, eg]
    cases hz : (ps.getD m 0 == 0) with
    | true =>
      rw [if_pos rfl]
      exact ⟨m, Nat.lt_succ_self _, rfl, by omega, by rw [← ht, dropN_step (by exact hz)]⟩
    | false =>
      rw [if_neg Bool.false_ne_true, cut_take, ← List.map_take]
      have : trimM ps = ps.take (m + 1) := by unfold trimM; rw [← ht, dropN_stop (by exact hz)]
      rw [← this]; exact hp
def S_number_at : SpD := fun ds P _ => ∃ (fs ps : List Int) (n : Int) (B N : Nat), ds = [L fs, L ps, .int n] ∧ 0 ≤ n ∧ Bd B ps ∧ n.natAbs < 2 ^ N ∧ ps.length ≤ 2 ^ N ∧ ps.length ≤ 4000 ∧ B + (N + 1) * (ps.length + 1) + 1 ≤ 400000 ∧ P (.int (if n < fs.length then fs.getD n.toNat 0 else valueM ps n))
theorem sc_number_at : FnScope ["firsts", "poly", "n"] ["firsts", "poly", "n"] (defScope s_number_at) := ⟨rfl, rfl, rfl, by decide +kernel, rfl, by decide +kernel, by decide +kernel⟩
theorem ok_number_at {f : Addr} {fd : FuncData} (F : Fun K "number_at" "number_at" s_number_at f fd) (Z : Zs mg) (h_value_at : Fd P w K mg base "value_at" 2 ["poly", "n"] S_value_at) : FnOk P w K mg base (L2.CX P w) 3 f fd ["firsts", "poly", "n"] (spOf K S_number_at) := by
  refine fn_mk F sc_number_at (fun ds P PX h => by obtain ⟨t, k, B, n, x, rfl, _⟩ := h; rfl) ⟨_, fun cdv A outer s H E hr => (dss_cons (ds_if (dt_cmp o_lt (dvb 2) (d_callB b_len (by rfl) Z.len bt_len (db_cons (dvb 0) db_nil)).bo) (dss_one (ds_ret (d_ix (dvb 0) (dvb 2)))) dss_nil)
      (dss_one (ds_ret (d_call h_value_at (hr.mono (by decide)) (by rfl) (da_cons (dv 1) (da_cons (dv 2) da_nil)))))), ?_⟩ (fun ds P PX h => h)
  rintro ds P ⟨fs, ps, n, B, N, rfl, h0, hb, hn, hl, h40, hm, hp⟩
  simp only [seqD, setD, ownD, conD, varD, varB, binD, iopD, subD, fdivD, modD, powD, ltD, leD, gtD, geD, addD, mulD, catD, repD, eqD, neD, isND, notND, consA, nilA, lstD, tupD, callB, callD, lenD, toIntD, toListD, toTupD, ixD, slD, slL, slT, noO, someO, revD, tstD, truD, andT, orT, notT, andV, orV, notV, ifeD, negD, chnD, retD, retN, ifD, nextD, shareD, dropD, augD, appD, extD, stiD, gN, gsNil, gsCons, gT, gLD, asgD, breakD, contD, fldD, prpD, mthD, makD, sfdD, insOf, oopD, oeqD, aeqD, lrgD, lcPopD, isBD, notBD, ogtD, rseD, isiD, tryV, dropX, ogtX, callX, setX, retX, yesT, max2D, min2D, zipD, enumD, overD, rng1D, rng2D, sumD, allD, anyD, lcD_eq, startD, startI, wipeD, List.map_cons, List.map_nil, List.length_cons, List.length_nil, List.replicate_succ, List.replicate_zero, List.cons_append, List.nil_append, List.set_cons_succ, List.set_cons_zero, List.getElem?_cons_zero, List.getElem?_cons_succ, Nat.reduceAdd, Nat.reduceSub, Nat.reduceLT, Option.some.injEq, true_and, and_true, Int.zero_add]
  rw [List.length_map]
  by_cases c : n < fs.length
  · rw [decide_eq_true c, if_pos rfl]
    rw [if_pos c] at hp
    obtain ⟨k, rfl⟩ := Int.eq_ofNat_of_zero_le h0
    have hk : k < fs.length := by omega
    refine ⟨_, ix_map _ (List.getElem?_eq_getElem hk), ?_⟩
    rw [Int.toNat_natCast, List.getD_eq_getElem?_getD, List.getElem?_eq_getElem hk] at hp
    exact hp
  · rw [decide_eq_false c, if_neg Bool.false_ne_true]
    rw [if_neg c] at hp
    exact ⟨ps, n, B, N, rfl, hb, hn, hl, h40, hm, hp⟩
def S_needed : SpD := fun ds P _ => ∃ (fs ps : List Int) (B N : Nat), ds = [L fs, L ps] ∧ Bd B ps ∧ fs.length < 2 ^ N ∧ ps.length ≤ 2 ^ N ∧ ps.length ≤ 4000 ∧ B + (N + 1) * (ps.length + 1) + 1 ≤ 400000 ∧ P (L (needM fs ps))
theorem sc_needed : FnScope ["firsts", "poly", "size"] ["firsts", "poly"] (defScope s_needed) := ⟨rfl, rfl, rfl, by decide +kernel, rfl, by decide +kernel, by decide +kernel⟩
theorem ok_needed {f : Addr} {fd : FuncData} (F : Fun K "needed" "needed" s_needed f fd) (Z : Zs mg) (h_value_at : Fd P w K mg base "value_at" 2 ["poly", "n"] S_value_at) : FnOk P w K mg base (L2.CX P w) 3 f fd ["firsts", "poly"] (spOf K S_needed) := by
  refine fn_mk F sc_needed (fun ds P PX h => by obtain ⟨t, k, B, n, rfl, _⟩ := h; rfl) ⟨_, fun cdv A outer s H E hr => (dss_cons (ds_set (i := 2) sc_needed.nd rfl (Or.inl rfl) (d_callB b_len (by rfl) Z.len bt_len (db_cons (dvb 0) db_nil)))
      (dss_cons (ds_while PassesOwn.never (dw_and (dt_cmp o_gt (dvb 2) d_int.bo) (dw_and1 (dt_cmp (o_eq hr.units) (d_ix (dvb 0) (d_op o_sub (dvb 2) d_int.bo).bo).bo (d_call h_value_at (hr.mono (by decide)) (by rfl) (da_cons (dv 1) (da_cons (d_op o_sub (dvb 2) d_int.bo) da_nil))).bo))).t (dss_one (ds_aug (i := 2) sc_needed.nd rfl (Or.inl rfl) d_int.bo p_sub)))
      (dss_one (ds_ret (f_callTy t_list (by rfl) Z.list bt_list (db_cons (f_slice (dvb 0) do_none (do_some (dvb 2))).d.bo db_nil)).d)))), ?_⟩ (fun ds P PX h => h)
  rintro ds P ⟨fs, ps, B, N, rfl, hb, hn, hl, h40, hM, hp⟩
  simp only [seqD, setD, ownD, conD, varD, varB, binD, iopD, subD, fdivD, modD, powD, ltD, leD, gtD, geD, addD, mulD, catD, repD, eqD, neD, isND, notND, consA, nilA, lstD, tupD, callB, callD, lenD, toIntD, toListD, toTupD, ixD, slD, slL, slT, noO, someO, revD, tstD, truD, andT, orT, notT, andV, orV, notV, ifeD, negD, chnD, retD, retN, ifD, nextD, shareD, dropD, augD, appD, extD, stiD, gN, gsNil, gsCons, gT, gLD, asgD, breakD, contD, fldD, prpD, mthD, makD, sfdD, insOf, oopD, oeqD, aeqD, lrgD, lcPopD, isBD, notBD, ogtD, rseD, isiD, tryV, dropX, ogtX, callX, setX, retX, yesT, max2D, min2D, zipD, enumD, overD, rng1D, rng2D, sumD, allD, anyD, lcD_eq, startD, startI, wipeD, List.map_cons, List.map_nil, List.length_cons, List.length_nil, List.replicate_succ, List.replicate_zero, List.cons_append, List.nil_append, List.set_cons_succ, List.set_cons_zero, List.getElem?_cons_zero, List.getElem?_cons_succ, Nat.reduceAdd, Nat.reduceSub, Nat.reduceLT, Option.some.injEq, true_and, and_true, Int.zero_add]
  rw [List.length_map]
  refine ⟨fun m ρ => ρ = [.sh (L fs), .sh (L ps), .sh (.int m)] ∧ m ≤ fs.length ∧ dropN (fun k => fs.getD k 0 == valueM ps (k : Nat)) m = needN fs ps, ⟨fs.length, rfl, Nat.le_refl _, rfl⟩, ?_⟩
  rintro m ρ ⟨rfl, hm, ht⟩
  simp only [seqD, setD, ownD, conD, varD, varB, binD, iopD, subD, fdivD, modD, powD, ltD, leD, gtD, geD, addD, mulD, catD, repD, eqD, neD, isND, notND, consA, nilA, lstD, tupD, callB, callD, lenD, toIntD, toListD, toTupD, ixD, slD, slL, slT, noO, someO, revD, tstD, truD, andT, orT, notT, andV, orV, notV, ifeD, negD, chnD, retD, retN, ifD, nextD, shareD, dropD, augD, appD, extD, stiD, gN, gsNil, gsCons, gT, gLD, asgD, breakD, contD, fldD, prpD, mthD, makD, sfdD, insOf, oopD, oeqD, aeqD, lrgD, lcPopD, isBD, notBD, ogtD, rseD, isiD, tryV, dropX, ogtX, callX, setX, retX, yesT, max2D, min2D, zipD, enumD, overD, rng1D, rng2D, sumD, allD, anyD, lcD_eq, startD, startI, wipeD, List.map_cons, List.map_nil, List.length_cons, List.length_nil, List.replicate_succ, List.replicate_zero, List.cons_append, List.nil_append, List.set_cons_succ, List.set_cons_zero, List.getElem?_cons_zero, List.getElem?_cons_succ, Nat.reduceAdd, Nat.reduceSub, Nat.reduceLT, Option.some.injEq, true_and, and_true, Int.zero_add]
  cases m with
  | zero =>
    simp only [show ¬ ((0 : Int) < ((0 : Nat) : Int)) by decide, decide_false, Bool.false_eq_true, if_false]
    rw [cut_take, ← List.map_take]
    have : needM fs ps = fs.take 0 := by unfold needM; rw [← ht]; rfl
    rw [← this]; exact hp
  | succ m =>
    have hlt : m < fs.length := by omega
    have eg : fs[m] = fs.getD m 0 := by rw [List.getD_eq_getElem?_getD, List.getElem?_eq_getElem hlt]; rfl
    simp only [show (0 : Int) < ((m + 1 : Nat) : Int) by omega, decide_true, if_true]
    rw [show ((m + 1 : Nat) : Int) - 1 = (m : Int) by omega]
    refine ⟨_, ix_map _ (List.getElem?_eq_getElem hlt), ps, (m : Int), B, N, rfl, hb, by omega, hl, h40, hM, pl_int _ _, pl_int _ _, ?_⟩
    rw [eqv_int, eg]
    cases hz : (fs.getD m 0 == valueM ps (m : Nat)) with
    | true =>
      rw [if_pos rfl]
      exact ⟨m, Nat.lt_succ_self _, rfl, by omega, by rw [← ht, dropN_step (by exact hz)]⟩
    | false =>
      rw [if_neg Bool.false_ne_true, cut_take, ← List.map_take]
      have : needM fs ps = fs.take (m + 1) := by unfold needM; rw [← ht, dropN_stop (by exact hz)]
      rw [← this]; exact hp
end
end KP

set_option Elab.async false
set_option linter.all false
set_option autoImplicit false
set_option maxRecDepth 100000
set_option maxHeartbeats 4000000
namespace KP
open PySem PySem.Spec PyProof.Rows L2 DL
theorem atI4 {a b c d : D} {r : Int} (R : D → Prop) (h0 : 0 ≤ r) (h1 : r < 4) (ha : R a) (hb : R b) (hc : R c) (hd : R d) : ∃ x, atI [a, b, c, d] r = some x ∧ R x := by
  have : r = 0 ∨ r = 1 ∨ r = 2 ∨ r = 3 := by omega
  rcases this with rfl | rfl | rfl | rfl
  · exact ⟨a, rfl, ha⟩
  · exact ⟨b, rfl, hb⟩
  · exact ⟨c, rfl, hc⟩
  · exact ⟨d, rfl, hd⟩
theorem atI2 {a b : D} {r : Int} (R : D → Prop) (h0 : 0 ≤ r) (h1 : r < 2) (ha : R a) (hb : R b) : ∃ x, atI [a, b] r = some x ∧ R x := by
  have : r = 0 ∨ r = 1 := by omega
  rcases this with rfl | rfl
  · exact ⟨a, rfl, ha⟩
  · exact ⟨b, rfl, hb⟩
theorem b01 (b : Bool) : 0 ≤ (if b = true then (1 : Int) else 0) ∧ (if b = true then (1 : Int) else 0) < 2 := by cases b <;> decide
section
variable {P : Program} {w : World} {K : PySem.W.Frag} {mg : Str → Option Value} {base : Heap}
/-! ### _law_deck -/
def S_deck : SpD := fun ds P _ => ∃ xs : List Int, ds = [.scr xs] ∧ xs.length ≤ 63 ∧ ∀ (gs : List Int) (s : Int), gs.length ≤ 63 → 0 ≤ s → s < 2 ^ 31 → P (.lst [L gs, .int 0, .int s])
theorem sc__law_deck : FnScope ["script", "mixed", "cell", "great"] ["script"] (defScope s__law_deck) := ⟨rfl, rfl, rfl, by decide +kernel, rfl, by decide +kernel, by decide +kernel⟩
theorem ok_deck {f : Addr} {fd : FuncData} (F : Fun K "_law_deck" "_law_deck" s__law_deck f fd) (Z : Zs mg) : FnOk P w K mg base (L2.CX P w) 1 f fd ["script"] (spOf K S_deck) := by
  refine fn_mk F sc__law_deck (fun ds P PX h => by obtain ⟨t, rfl, _⟩ := h; rfl) ⟨_, fun cdv A outer s H E hr => (dss_cons (ds_set (i := 1) sc__law_deck.nd rfl (Or.inl rfl) (d_op o_add d_int.bo (d_op o_mod (d_callB b_len (by rfl) Z.len bt_len (db_cons (dvb 0) db_nil)).bo d_int.bo).bo))
      (dss_cons (ds_for PassesOwn.never rfl (di_over (dv 0)) (dg_name (i := 2) sc__law_deck.nd rfl (Or.inl rfl)) (dss_one (ds_set (i := 1) sc__law_deck.nd rfl (Or.inl rfl) (d_op o_mod (d_op o_add (d_op o_add (d_op o_mul (dvb 1) d_int.bo).bo (d_op o_mod (d_callTy t_int (by rfl) Z.int bt_int (db_cons (dvb 2) db_nil)).bo d_int.bo).bo).bo d_int.bo).bo d_int.bo))))
      (dss_cons (ds_setLc (i := 3) rfl sc__law_deck.nd rfl rfl (sw_true rfl rfl rfl (by decide +kernel)) (di_over (dv 0)) (blkOk_by (own := [("cell", 2)]) (N := ["script", "mixed", "cell", "great"]) (sc := defScope s__law_deck) (by decide +kernel)) (fun _ _ _ _ _ => (pg_name (i := 2) sc__law_deck.nd rfl (by first | exact Or.inl rfl | exact Or.inr rfl))) (tg_name (i := 2)) (fun _ _ _ _ _ => (dts_one (dt_cmp o_ge (dvb 2) (d_op o_pow d_int.bo d_int.bo).bo))) (fun _ _ _ _ _ => (d_op o_sub (d_callTy t_int (by rfl) Z.int bt_int (db_cons (dvb 2) db_nil)).bo (d_op o_pow d_int.bo d_int.bo).bo)))
      (dss_one (ds_ret (f_lst (da_cons (f_rev (dvb 3)).d (da_cons d_int (da_cons (d_op o_add (d_op o_mod (dvb 1) d_int.bo).bo d_int.bo) da_nil)))).d))))), ?_⟩ (fun ds P PX h => h)
  rintro ds P ⟨xs, rfl, hl, hp⟩
  simp only [seqD, setD, ownD, conD, varD, varB, binD, iopD, subD, fdivD, modD, powD, ltD, leD, gtD, geD, addD, mulD, catD, repD, eqD, neD, isND, notND, consA, nilA, lstD, tupD, callB, callD, lenD, toIntD, toListD, toTupD, ixD, slD, slL, slT, noO, someO, revD, tstD, truD, andT, orT, notT, andV, orV, notV, ifeD, negD, chnD, retD, retN, ifD, nextD, shareD, dropD, augD, appD, extD, stiD, gN, gsNil, gsCons, gT, gLD, asgD, breakD, contD, fldD, prpD, mthD, makD, sfdD, insOf, oopD, oeqD, aeqD, lrgD, lcPopD, isBD, notBD, ogtD, rseD, isiD, tryV, dropX, ogtX, callX, setX, retX, yesT, max2D, min2D, zipD, enumD, overD, rng1D, rng2D, sumD, allD, anyD, lcD_eq, startD, startI, wipeD, List.map_cons, List.map_nil, List.length_cons, List.length_nil, List.replicate_succ, List.replicate_zero, List.cons_append, List.nil_append, List.set_cons_succ, List.set_cons_zero, List.getElem?_cons_zero, List.getElem?_cons_succ, Nat.reduceAdd, Nat.reduceSub, Nat.reduceLT, Option.some.injEq, true_and, and_true, Int.zero_add]
  refine ⟨by decide, fun i ρ => ∃ m x, ρ = [.sh (.scr xs), .sh (.int m), x, .no] ∧ 0 ≤ m ∧ m < 2 ^ 31, ⟨_, _, rfl, by omega, by omega⟩, ?_, ?_⟩
  · rintro i d ρ hd ⟨m, x, rfl, m0, m1⟩
    obtain ⟨c, hc, rfl⟩ := map_get hd
    simp only [seqD, setD, ownD, conD, varD, varB, binD, iopD, subD, fdivD, modD, powD, ltD, leD, gtD, geD, addD, mulD, catD, repD, eqD, neD, isND, notND, consA, nilA, lstD, tupD, callB, callD, lenD, toIntD, toListD, toTupD, ixD, slD, slL, slT, noO, someO, revD, tstD, truD, andT, orT, notT, andV, orV, notV, ifeD, negD, chnD, retD, retN, ifD, nextD, shareD, dropD, augD, appD, extD, stiD, gN, gsNil, gsCons, gT, gLD, asgD, breakD, contD, fldD, prpD, mthD, makD, sfdD, insOf, oopD, oeqD, aeqD, lrgD, lcPopD, isBD, notBD, ogtD, rseD, isiD, tryV, dropX, ogtX, callX, setX, retX, yesT, max2D, min2D, zipD, enumD, overD, rng1D, rng2D, sumD, allD, anyD, lcD_eq, startD, startI, wipeD, List.map_cons, List.map_nil, List.length_cons, List.length_nil, List.replicate_succ, List.replicate_zero, List.cons_append, List.nil_append, List.set_cons_succ, List.set_cons_zero, List.getElem?_cons_zero, List.getElem?_cons_succ, Nat.reduceAdd, Nat.reduceSub, Nat.reduceLT, Option.some.injEq, true_and, and_true, Int.zero_add]
    have e0 : 0 ≤ (m * 40014 + c % 2147483563 + 3) % 2147483399 := Int.emod_nonneg _ (by decide)
    have e1 : (m * 40014 + c % 2147483563 + 3) % 2147483399 < 2147483399 := Int.emod_lt_of_pos _ (by decide)
    refine ⟨mulW_of (a := 31) (b := 16) (by omega) (by decide) (by decide), by decide, by decide, _, _, rfl, e0, by omega⟩
  · rintro ρ ⟨m, x, rfl, m0, m1⟩
    simp only [seqD, setD, ownD, conD, varD, varB, binD, iopD, subD, fdivD, modD, powD, ltD, leD, gtD, geD, addD, mulD, catD, repD, eqD, neD, isND, notND, consA, nilA, lstD, tupD, callB, callD, lenD, toIntD, toListD, toTupD, ixD, slD, slL, slT, noO, someO, revD, tstD, truD, andT, orT, notT, andV, orV, notV, ifeD, negD, chnD, retD, retN, ifD, nextD, shareD, dropD, augD, appD, extD, stiD, gN, gsNil, gsCons, gT, gLD, asgD, breakD, contD, fldD, prpD, mthD, makD, sfdD, insOf, oopD, oeqD, aeqD, lrgD, lcPopD, isBD, notBD, ogtD, rseD, isiD, tryV, dropX, ogtX, callX, setX, retX, yesT, max2D, min2D, zipD, enumD, overD, rng1D, rng2D, sumD, allD, anyD, lcD_eq, startD, startI, wipeD, List.map_cons, List.map_nil, List.length_cons, List.length_nil, List.replicate_succ, List.replicate_zero, List.cons_append, List.nil_append, List.set_cons_succ, List.set_cons_zero, List.getElem?_cons_zero, List.getElem?_cons_succ, Nat.reduceAdd, Nat.reduceSub, Nat.reduceLT, Option.some.injEq, true_and, and_true, Int.zero_add, lcD_eq, overD]
    refine ⟨fun i acc => ∃ gs : List Int, acc = gs.map D.int ∧ gs.length ≤ i, ⟨[], rfl, Nat.le_refl _⟩, ?_, ?_⟩
    · rintro i d acc hd ⟨gs, rfl, hg⟩
      obtain ⟨c, hc, rfl⟩ := map_get hd
      have hi : i < xs.length := (List.getElem?_eq_some_iff.mp hc).1
      simp only [seqD, setD, ownD, conD, varD, varB, binD, iopD, subD, fdivD, modD, powD, ltD, leD, gtD, geD, addD, mulD, catD, repD, eqD, neD, isND, notND, consA, nilA, lstD, tupD, callB, callD, lenD, toIntD, toListD, toTupD, ixD, slD, slL, slT, noO, someO, revD, tstD, truD, andT, orT, notT, andV, orV, notV, ifeD, negD, chnD, retD, retN, ifD, nextD, shareD, dropD, augD, appD, extD, stiD, gN, gsNil, gsCons, gT, gLD, asgD, breakD, contD, fldD, prpD, mthD, makD, sfdD, insOf, oopD, oeqD, aeqD, lrgD, lcPopD, isBD, notBD, ogtD, rseD, isiD, tryV, dropX, ogtX, callX, setX, retX, yesT, max2D, min2D, zipD, enumD, overD, rng1D, rng2D, sumD, allD, anyD, lcD_eq, startD, startI, wipeD, List.map_cons, List.map_nil, List.length_cons, List.length_nil, List.replicate_succ, List.replicate_zero, List.cons_append, List.nil_append, List.set_cons_succ, List.set_cons_zero, List.getElem?_cons_zero, List.getElem?_cons_succ, Nat.reduceAdd, Nat.reduceSub, Nat.reduceLT, Option.some.injEq, true_and, and_true, Int.zero_add]
      refine ⟨by refine ⟨by decide, by decide, by decide⟩, ?_⟩
      split
      · refine ⟨by refine ⟨by decide, by decide, by decide⟩, by rw [List.length_map, sizeLine_eq]; omega, gs ++ [c - 10 ^ 18], ?_, ?_⟩
        · rw [List.map_append]; rfl
        · rw [List.length_append]; exact Nat.succ_le_succ hg
      · exact ⟨gs, rfl, by omega⟩
    · rintro acc ⟨gs, rfl, hg⟩
      rw [List.length_map] at hg
      simp only [seqD, setD, ownD, conD, varD, varB, binD, iopD, subD, fdivD, modD, powD, ltD, leD, gtD, geD, addD, mulD, catD, repD, eqD, neD, isND, notND, consA, nilA, lstD, tupD, callB, callD, lenD, toIntD, toListD, toTupD, ixD, slD, slL, slT, noO, someO, revD, tstD, truD, andT, orT, notT, andV, orV, notV, ifeD, negD, chnD, retD, retN, ifD, nextD, shareD, dropD, augD, appD, extD, stiD, gN, gsNil, gsCons, gT, gLD, asgD, breakD, contD, fldD, prpD, mthD, makD, sfdD, insOf, oopD, oeqD, aeqD, lrgD, lcPopD, isBD, notBD, ogtD, rseD, isiD, tryV, dropX, ogtX, callX, setX, retX, yesT, max2D, min2D, zipD, enumD, overD, rng1D, rng2D, sumD, allD, anyD, lcD_eq, startD, startI, wipeD, List.map_cons, List.map_nil, List.length_cons, List.length_nil, List.replicate_succ, List.replicate_zero, List.cons_append, List.nil_append, List.set_cons_succ, List.set_cons_zero, List.getElem?_cons_zero, List.getElem?_cons_succ, Nat.reduceAdd, Nat.reduceSub, Nat.reduceLT, Option.some.injEq, true_and, and_true, Int.zero_add]
      have e0 : 0 ≤ m % 2147483398 := Int.emod_nonneg _ (by decide)
      have e1 : m % 2147483398 < 2147483398 := Int.emod_lt_of_pos _ (by decide)
      refine ⟨by decide, by rw [sizeLine_eq]; decide, ?_⟩
      rw [← List.map_reverse]
      exact hp gs.reverse _ (by rw [List.length_reverse]; omega) (by omega) (by omega)
/-! ### _law_great -/
def S_great : SpD := fun ds P _ => ∃ many : Int, ds = [.deck, .int many] ∧ 0 < many ∧ ∀ r, 0 ≤ r → r < many → P (.int r)
theorem sc__law_great : FnScope ["deck", "many", "one", "k"] ["deck", "many"] (defScope s__law_great) := ⟨rfl, rfl, rfl, by decide +kernel, rfl, by decide +kernel, by decide +kernel⟩
theorem ok_great {f : Addr} {fd : FuncData} (F : Fun K "_law_great" "_law_great" s__law_great f fd) (Z : Zs mg) (h__law_draw : Fd P w K mg base "_law_draw" 1 ["deck", "many"] S_draw) : FnOk P w K mg base (L2.CX P w) 2 f fd ["deck", "many"] (spOf K S_great) := by
  refine fn_mk F sc__law_great (fun ds P PX h => by obtain ⟨t, rfl, _⟩ := h; rfl) ⟨_, fun cdv A outer s H E hr => (dss_cons (ds_set (i := 2) sc__law_great.nd rfl (Or.inl rfl) d_int)
      (dss_cons (ds_for PassesOwn.never rfl (di_rng1 (by rfl) Z.range (db_cons d_int.bo db_nil)) (dg_name (i := 3) sc__law_great.nd rfl (Or.inl rfl)) (dss_one (ds_set (i := 2) sc__law_great.nd rfl (Or.inl rfl) (d_op o_add (d_op o_mul (dvb 2) d_int.bo).bo (d_call h__law_draw (hr.mono (by decide)) (by rfl) (da_cons (dv 0) (da_cons d_int da_nil))).bo))))
      (dss_one (ds_ret (d_op o_mod (dvb 2) (dvb 1)))))), ?_⟩ (fun ds P PX h => h)
  rintro ds P ⟨many, rfl, hpos, hp⟩
  simp only [seqD, setD, ownD, conD, varD, varB, binD, iopD, subD, fdivD, modD, powD, ltD, leD, gtD, geD, addD, mulD, catD, repD, eqD, neD, isND, notND, consA, nilA, lstD, tupD, callB, callD, lenD, toIntD, toListD, toTupD, ixD, slD, slL, slT, noO, someO, revD, tstD, truD, andT, orT, notT, andV, orV, notV, ifeD, negD, chnD, retD, retN, ifD, nextD, shareD, dropD, augD, appD, extD, stiD, gN, gsNil, gsCons, gT, gLD, asgD, breakD, contD, fldD, prpD, mthD, makD, sfdD, insOf, oopD, oeqD, aeqD, lrgD, lcPopD, isBD, notBD, ogtD, rseD, isiD, tryV, dropX, ogtX, callX, setX, retX, yesT, max2D, min2D, zipD, enumD, overD, rng1D, rng2D, sumD, allD, anyD, lcD_eq, startD, startI, wipeD, List.map_cons, List.map_nil, List.length_cons, List.length_nil, List.replicate_succ, List.replicate_zero, List.cons_append, List.nil_append, List.set_cons_succ, List.set_cons_zero, List.getElem?_cons_zero, List.getElem?_cons_succ, Nat.reduceAdd, Nat.reduceSub, Nat.reduceLT, Option.some.injEq, true_and, and_true, Int.zero_add]
  refine ⟨by decide, by decide, fun i ρ => ∃ one x, ρ = [.sh .deck, .sh (.int many), .sh (.int one), x] ∧ one.natAbs < 2 ^ (32 * i), ⟨0, _, rfl, by decide⟩, ?_, ?_⟩
  · rintro i d ρ hd ⟨one, x, rfl, hb⟩
    obtain ⟨hi, rfl⟩ := rng_get hd
    simp only [seqD, setD, ownD, conD, varD, varB, binD, iopD, subD, fdivD, modD, powD, ltD, leD, gtD, geD, addD, mulD, catD, repD, eqD, neD, isND, notND, consA, nilA, lstD, tupD, callB, callD, lenD, toIntD, toListD, toTupD, ixD, slD, slL, slT, noO, someO, revD, tstD, truD, andT, orT, notT, andV, orV, notV, ifeD, negD, chnD, retD, retN, ifD, nextD, shareD, dropD, augD, appD, extD, stiD, gN, gsNil, gsCons, gT, gLD, asgD, breakD, contD, fldD, prpD, mthD, makD, sfdD, insOf, oopD, oeqD, aeqD, lrgD, lcPopD, isBD, notBD, ogtD, rseD, isiD, tryV, dropX, ogtX, callX, setX, retX, yesT, max2D, min2D, zipD, enumD, overD, rng1D, rng2D, sumD, allD, anyD, lcD_eq, startD, startI, wipeD, List.map_cons, List.map_nil, List.length_cons, List.length_nil, List.replicate_succ, List.replicate_zero, List.cons_append, List.nil_append, List.set_cons_succ, List.set_cons_zero, List.getElem?_cons_zero, List.getElem?_cons_succ, Nat.reduceAdd, Nat.reduceSub, Nat.reduceLT, Option.some.injEq, true_and, and_true, Int.zero_add]
    have hi7 : i < 7 := hi
    refine ⟨mulW_of (b := 31) hb (by decide) (by omega), 2147483647, rfl, by decide, ?_, fun r r0 r1 => ⟨_, _, rfl, ?_⟩⟩
    · rw [show (2147483647 : Int).natAbs = 2147483647 from rfl]; exact Nat.lt_of_lt_of_le (Nat.log2_lt (by decide) |>.mpr (show 2147483647 < 2 ^ 31 by decide)) (by decide)
    · have h1 : (one * 2147483647).natAbs < 2 ^ (32 * i + 31) := wide_lt hb (by decide)
      have h2 : 2 ^ 31 ≤ 2 ^ (32 * i + 31) := pow_le2 (by omega)
      have h3 : 2 ^ (32 * (i + 1)) = 2 ^ (32 * i + 31) * 2 := by rw [show 32 * (i + 1) = 32 * i + 31 + 1 by omega, Nat.pow_succ]
      rw [h3]
      omega
  · rintro ρ ⟨one, x, rfl, hb⟩
    simp only [seqD, setD, ownD, conD, varD, varB, binD, iopD, subD, fdivD, modD, powD, ltD, leD, gtD, geD, addD, mulD, catD, repD, eqD, neD, isND, notND, consA, nilA, lstD, tupD, callB, callD, lenD, toIntD, toListD, toTupD, ixD, slD, slL, slT, noO, someO, revD, tstD, truD, andT, orT, notT, andV, orV, notV, ifeD, negD, chnD, retD, retN, ifD, nextD, shareD, dropD, augD, appD, extD, stiD, gN, gsNil, gsCons, gT, gLD, asgD, breakD, contD, fldD, prpD, mthD, makD, sfdD, insOf, oopD, oeqD, aeqD, lrgD, lcPopD, isBD, notBD, ogtD, rseD, isiD, tryV, dropX, ogtX, callX, setX, retX, yesT, max2D, min2D, zipD, enumD, overD, rng1D, rng2D, sumD, allD, anyD, lcD_eq, startD, startI, wipeD, List.map_cons, List.map_nil, List.length_cons, List.length_nil, List.replicate_succ, List.replicate_zero, List.cons_append, List.nil_append, List.set_cons_succ, List.set_cons_zero, List.getElem?_cons_zero, List.getElem?_cons_succ, Nat.reduceAdd, Nat.reduceSub, Nat.reduceLT, Option.some.injEq, true_and, and_true, Int.zero_add]
    exact ⟨hpos, hp _ (Int.emod_nonneg _ (by omega)) (Int.emod_lt_of_pos _ hpos)⟩
/-! ### _law_list -/
def S_list : SpD := fun ds P _ => ∃ most : Int, ds = [.deck, .int most] ∧ 0 ≤ most ∧ most ≤ 1000 ∧ ∀ xs : List Int, xs.length ≤ most.toNat → Bd 600 xs → P (L xs)
theorem sc__law_list : FnScope ["deck", "most", "top", "times", "found", "k"] ["deck", "most"] (defScope s__law_list) := ⟨rfl, rfl, rfl, by decide +kernel, rfl, by decide +kernel, by decide +kernel⟩
theorem small_log {m : Int} (h0 : 0 ≤ m) (h : m < 2 ^ 62) : m.natAbs.log2 < 9000 := by
  refine Nat.lt_of_lt_of_le (PySem.Flt.log2_lt_of (k := 62) (by decide) ?_) (by decide)
  omega
theorem ok_list {f : Addr} {fd : FuncData} (F : Fun K "_law_list" "_law_list" s__law_list f fd) (Z : Zs mg) (h__law_draw : Fd P w K mg base "_law_draw" 1 ["deck", "many"] S_draw) (h__law_great : Fd P w K mg base "_law_great" 2 ["deck", "many"] S_great) : FnOk P w K mg base (L2.CX P w) 3 f fd ["deck", "most"] (spOf K S_list) := by
  refine fn_mk F sc__law_list (fun ds P PX h => by obtain ⟨t, rfl, _⟩ := h; rfl) ⟨_, fun cdv A outer s H E hr => (dss_cons (ds_set (i := 2) sc__law_list.nd rfl (Or.inl rfl) (d_ix (f_lst (da_cons d_int (da_cons d_int (da_cons d_int (da_cons (d_op o_pow d_int.bo d_int.bo) da_nil))))).d.bo (d_call h__law_draw (hr.mono (by decide)) (by rfl) (da_cons (dv 0) (da_cons d_int da_nil))).bo))
      (dss_cons (ds_set (i := 3) sc__law_list.nd rfl (Or.inl rfl) (d_ix (f_lst (da_cons d_int (da_cons (d_op o_mul (d_op o_pow d_int.bo d_int.bo).bo (d_op o_pow d_int.bo d_int.bo).bo) da_nil))).d.bo (d_callTy t_int (by rfl) Z.int bt_int (db_cons (d_cmp (o_eq hr.units) (d_call h__law_draw (hr.mono (by decide)) (by rfl) (da_cons (dv 0) (da_cons d_int da_nil))).bo d_int.bo).bo db_nil)).bo))
      (dss_cons (ds_own (i := 4) sc__law_list.nd rfl (Or.inl rfl) (f_lst da_nil))
      (dss_cons (ds_for PassesOwn.never rfl (di_rng1 (by rfl) Z.range (db_cons (d_call h__law_draw (hr.mono (by decide)) (by rfl) (da_cons (dv 0) (da_cons (d_op o_add (dvb 1) d_int.bo) da_nil))).bo db_nil)) (dg_name (i := 5) sc__law_list.nd rfl (Or.inl rfl)) (dss_one (ds_app (i := 4) (pe_bm PySem.F.plainAttrs_list PySem.F.slot_list_append PySem.F.type_list_append mt_append (pv 4) (da_cons (d_op o_mul (d_call h__law_great (hr.mono (by decide)) (by rfl) (da_cons (dv 0) (da_cons (dv 2) da_nil))).bo (d_ix (f_lst (da_cons d_int (da_cons d_int (da_cons (d_neg d_int.bo) (da_cons (dv 3) da_nil))))).d.bo (d_call h__law_draw (hr.mono (by decide)) (by rfl) (da_cons (dv 0) (da_cons d_int da_nil))).bo).bo) da_nil)))))
      (dss_one (ds_share 4 (ds_ret (dv 4)))))))), ?_⟩ (fun ds P PX h => h)
  rintro ds P ⟨most, rfl, m0, m1, hp⟩
  simp only [seqD, setD, ownD, conD, varD, varB, binD, iopD, subD, fdivD, modD, powD, ltD, leD, gtD, geD, addD, mulD, catD, repD, eqD, neD, isND, notND, consA, nilA, lstD, tupD, callB, callD, lenD, toIntD, toListD, toTupD, ixD, slD, slL, slT, noO, someO, revD, tstD, truD, andT, orT, notT, andV, orV, notV, ifeD, negD, chnD, retD, retN, ifD, nextD, shareD, dropD, augD, appD, extD, stiD, gN, gsNil, gsCons, gT, gLD, asgD, breakD, contD, fldD, prpD, mthD, makD, sfdD, insOf, oopD, oeqD, aeqD, lrgD, lcPopD, isBD, notBD, ogtD, rseD, isiD, tryV, dropX, ogtX, callX, setX, retX, yesT, max2D, min2D, zipD, enumD, overD, rng1D, rng2D, sumD, allD, anyD, lcD_eq, startD, startI, wipeD, List.map_cons, List.map_nil, List.length_cons, List.length_nil, List.replicate_succ, List.replicate_zero, List.cons_append, List.nil_append, List.set_cons_succ, List.set_cons_zero, List.getElem?_cons_zero, List.getElem?_cons_succ, Nat.reduceAdd, Nat.reduceSub, Nat.reduceLT, Option.some.injEq, true_and, and_true, Int.zero_add]
  refine ⟨cpow10 (by decide) (by decide), szL (by decide), 4, rfl, by decide, small_log (by decide) (by decide), fun r r0 r1 => ?_⟩
  obtain ⟨x, ex, top, rfl, t0, t1⟩ := atI4 (a := .int 2) (b := .int 5) (c := .int 1000) (d := .int (10 ^ 60)) (fun d => ∃ top : Int, d = .int top ∧ 0 < top ∧ top ≤ 10 ^ 60) r0 r1 ⟨_, rfl, by decide, by decide⟩ ⟨_, rfl, by decide, by decide⟩ ⟨_, rfl, by decide, by decide⟩ ⟨_, rfl, by decide, by decide⟩
  refine ⟨_, ex, ?_⟩
  have h60 : ((10 : Int) ^ Int.toNat 60).natAbs < 2 ^ 200 := by decide
  refine ⟨cpow10 (by decide) (by decide), cpow10 (by decide) (by decide), mulW_of h60 h60 (by decide), szL (by decide), 8, rfl, by decide, small_log (by decide) (by decide), fun r2 q0 q1 => ⟨pl_int _ _, pl_int _ _, ?_⟩⟩
  obtain ⟨y, ey, times, rfl, v1⟩ := atI2 (a := .int 1) (b := .int (10 ^ Int.toNat 60 * 10 ^ Int.toNat 60)) (fun d => ∃ t : Int, d = .int t ∧ t.natAbs < 2 ^ 400) (b01 _).1 (b01 _).2 ⟨_, rfl, by decide⟩ ⟨_, rfl, by decide⟩
  refine ⟨_, ey, szL (by decide), fun a => ?_⟩
  refine ⟨most + 1, rfl, by omega, small_log (by omega) (by omega), fun n n0 n1 => ?_⟩
  refine ⟨by omega, by omega, fun i ρ => ∃ xs x, ρ = [.sh .deck, .sh (.int most), .sh (.int top), .sh (.int times), .ow a (L xs), x] ∧ xs.length = i ∧ Bd 600 xs, ⟨[], _, rfl, rfl, Bd.nil⟩, ?_, ?_⟩
  · rintro i d ρ hd ⟨xs, x, rfl, hl, hb⟩
    obtain ⟨hi, rfl⟩ := rng_get hd
    simp only [seqD, setD, ownD, conD, varD, varB, binD, iopD, subD, fdivD, modD, powD, ltD, leD, gtD, geD, addD, mulD, catD, repD, eqD, neD, isND, notND, consA, nilA, lstD, tupD, callB, callD, lenD, toIntD, toListD, toTupD, ixD, slD, slL, slT, noO, someO, revD, tstD, truD, andT, orT, notT, andV, orV, notV, ifeD, negD, chnD, retD, retN, ifD, nextD, shareD, dropD, augD, appD, extD, stiD, gN, gsNil, gsCons, gT, gLD, asgD, breakD, contD, fldD, prpD, mthD, makD, sfdD, insOf, oopD, oeqD, aeqD, lrgD, lcPopD, isBD, notBD, ogtD, rseD, isiD, tryV, dropX, ogtX, callX, setX, retX, yesT, max2D, min2D, zipD, enumD, overD, rng1D, rng2D, sumD, allD, anyD, lcD_eq, startD, startI, wipeD, List.map_cons, List.map_nil, List.length_cons, List.length_nil, List.replicate_succ, List.replicate_zero, List.cons_append, List.nil_append, List.set_cons_succ, List.set_cons_zero, List.getElem?_cons_zero, List.getElem?_cons_succ, Nat.reduceAdd, Nat.reduceSub, Nat.reduceLT, Option.some.injEq, true_and, and_true, Int.zero_add, L_snoc]
    refine ⟨top, rfl, t0, fun g g0 g1 => ⟨szL (by decide), 4, rfl, by decide, small_log (by decide) (by decide), fun r3 r30 r31 => ?_⟩⟩
    obtain ⟨z, ez, f, rfl, f1⟩ := atI4 (a := .int 0) (b := .int 1) (c := .int (-1)) (d := .int times) (fun d => ∃ t : Int, d = .int t ∧ t.natAbs < 2 ^ 400) r30 r31 ⟨_, rfl, by decide⟩ ⟨_, rfl, by decide⟩ ⟨_, rfl, by decide⟩ ⟨_, rfl, v1⟩
    have hg : g.natAbs < 2 ^ 200 := by
      have : ((10 : Int) ^ 60) < 2 ^ 200 := by decide
      omega
    refine ⟨_, ez, mulW_of hg f1 (by decide), by rw [List.length_map]; exact szT (by omega), xs ++ [g * f], _, rfl, ?_, ?_⟩
    · rw [List.length_append, hl]; rfl
    · exact hb.app fun x hx => by
        rcases List.mem_cons.mp hx with rfl | hx
        · exact wide_lt hg f1
        · cases hx
  · rintro ρ ⟨xs, x, rfl, hl, hb⟩
    rw [rngL_len] at hl
    simp only [seqD, setD, ownD, conD, varD, varB, binD, iopD, subD, fdivD, modD, powD, ltD, leD, gtD, geD, addD, mulD, catD, repD, eqD, neD, isND, notND, consA, nilA, lstD, tupD, callB, callD, lenD, toIntD, toListD, toTupD, ixD, slD, slL, slT, noO, someO, revD, tstD, truD, andT, orT, notT, andV, orV, notV, ifeD, negD, chnD, retD, retN, ifD, nextD, shareD, dropD, augD, appD, extD, stiD, gN, gsNil, gsCons, gT, gLD, asgD, breakD, contD, fldD, prpD, mthD, makD, sfdD, insOf, oopD, oeqD, aeqD, lrgD, lcPopD, isBD, notBD, ogtD, rseD, isiD, tryV, dropX, ogtX, callX, setX, retX, yesT, max2D, min2D, zipD, enumD, overD, rng1D, rng2D, sumD, allD, anyD, lcD_eq, startD, startI, wipeD, List.map_cons, List.map_nil, List.length_cons, List.length_nil, List.replicate_succ, List.replicate_zero, List.cons_append, List.nil_append, List.set_cons_succ, List.set_cons_zero, List.getElem?_cons_zero, List.getElem?_cons_succ, Nat.reduceAdd, Nat.reduceSub, Nat.reduceLT, Option.some.injEq, true_and, and_true, Int.zero_add]
    exact hp xs (by omega) hb
/-! ### _law_value -/
def S_value : SpD := fun ds P _ => ∃ (ps : List Int) (n : Int) (B N : Nat), ds = [L ps, .int n] ∧ Bd B ps ∧ n.natAbs < 2 ^ N ∧ ps.length ≤ 2 ^ N ∧ ps.length ≤ 4000 ∧ B + (N + 1) * (ps.length + 1) + 1 ≤ 400000 ∧ P (.int (valueM ps n))
theorem sc__law_value : FnScope ["row", "at", "total", "ways", "k", "entry"] ["row", "at"] (defScope s__law_value) := ⟨rfl, rfl, rfl, by decide +kernel, rfl, by decide +kernel, by decide +kernel⟩
theorem termsM_succ (ps : List Int) (n : Int) (k : Nat) : (termsM ps n (k + 1)).sum = (termsM ps n k).sum + ps.getD k 0 * chooseM n k := by
  unfold termsM
  rw [List.range_succ, List.map_append, List.sum_append]
  simp
theorem ok_value {f : Addr} {fd : FuncData} (F : Fun K "_law_value" "_law_value" s__law_value f fd) (Z : Zs mg) : FnOk P w K mg base (L2.CX P w) 1 f fd ["row", "at"] (spOf K S_value) := by
  refine fn_mk F sc__law_value (fun ds P PX h => by obtain ⟨t, k, B, n, rfl, _⟩ := h; rfl) ⟨_, fun cdv A outer s H E hr => (dss_cons (ds_set (i := 2) sc__law_value.nd rfl (Or.inl rfl) d_int)
      (dss_cons (ds_set (i := 3) sc__law_value.nd rfl (Or.inl rfl) d_int)
      (dss_cons (ds_for PassesOwn.never rfl (di_enum (by rfl) Z.enumerate (da_cons (dv 0) da_nil)) (dg_tup (n := 2) rfl (dgs_cons (dg_name (i := 4) sc__law_value.nd rfl (Or.inl rfl)) (dgs_cons (dg_name (i := 5) sc__law_value.nd rfl (Or.inl rfl)) dgs_nil))) (dss_cons (ds_set (i := 2) sc__law_value.nd rfl (Or.inl rfl) (d_op o_add (dvb 2) (d_op o_mul (dvb 5) (dvb 3)).bo))
      (dss_one (ds_set (i := 3) sc__law_value.nd rfl (Or.inl rfl) (d_op o_fdiv (d_op o_mul (dvb 3) (d_op o_sub (dvb 1) (dvb 4)).bo).bo (d_op o_add (dvb 4) d_int.bo).bo)))))
      (dss_one (ds_ret (dv 2)))))), ?_⟩ (fun ds P PX h => h)
  rintro ds P ⟨ps, n, B, N, rfl, hb, hn, hl, h40, hm, hp⟩
  refine ⟨fun i ρ => ∃ x y, ρ = [.sh (L ps), .sh (.int n), .sh (.int (termsM ps n i).sum), .sh (.int (chooseM n i)), x, y], ⟨_, _, rfl⟩, ?_, ?_⟩
  · rintro i d ρ hd ⟨x, y, rfl⟩
    obtain ⟨z, hz, rfl⟩ := enum_get hd
    obtain ⟨c, hc, rfl⟩ := map_get hz
    have hi : i < ps.length := (List.getElem?_eq_some_iff.mp hc).1
    simp only [seqD, setD, ownD, conD, varD, varB, binD, iopD, subD, fdivD, modD, powD, ltD, leD, gtD, geD, addD, mulD, catD, repD, eqD, neD, isND, notND, consA, nilA, lstD, tupD, callB, callD, lenD, toIntD, toListD, toTupD, ixD, slD, slL, slT, noO, someO, revD, tstD, truD, andT, orT, notT, andV, orV, notV, ifeD, negD, chnD, retD, retN, ifD, nextD, shareD, dropD, augD, appD, extD, stiD, gN, gsNil, gsCons, gT, gLD, asgD, breakD, contD, fldD, prpD, mthD, makD, sfdD, insOf, oopD, oeqD, aeqD, lrgD, lcPopD, isBD, notBD, ogtD, rseD, isiD, tryV, dropX, ogtX, callX, setX, retX, yesT, max2D, min2D, zipD, enumD, overD, rng1D, rng2D, sumD, allD, anyD, lcD_eq, startD, startI, wipeD, List.map_cons, List.map_nil, List.length_cons, List.length_nil, List.replicate_succ, List.replicate_zero, List.cons_append, List.nil_append, List.set_cons_succ, List.set_cons_zero, List.getElem?_cons_zero, List.getElem?_cons_succ, Nat.reduceAdd, Nat.reduceSub, Nat.reduceLT, Option.some.injEq, true_and, and_true, Int.zero_add]
    have e : (N + 1) * (ps.length + 1) = (N + 1) * ps.length + (N + 1) := by rw [Nat.mul_add, Nat.mul_one]
    have e2 : (N + 1) * (i + 1) ≤ (N + 1) * ps.length := Nat.mul_le_mul_left _ hi
    have e3 : (N + 1) * (i + 1) = (N + 1) * i + (N + 1) := by rw [Nat.mul_add, Nat.mul_one]
    have eg : c = ps.getD i 0 := by rw [List.getD_eq_getElem?_getD, hc]; rfl
    refine ⟨mulW_of (hb.get hc) (chooseM_bd hn i (by omega)) (by omega), mulW_of (chooseM_bd hn i (by omega)) (b := N + 1) (by rw [Nat.pow_succ]; omega) (by omega), divW_nat i (by omega) _, .sh (.int (i : Int)), .sh (.int c), ?_⟩
    have e4 : (termsM ps n i).sum + c * chooseM n i = (termsM ps n (i + 1)).sum := by rw [termsM_succ, ← eg]
    rw [e4]; rfl
  · rintro ρ ⟨x, y, rfl⟩
    simp only [seqD, setD, ownD, conD, varD, varB, binD, iopD, subD, fdivD, modD, powD, ltD, leD, gtD, geD, addD, mulD, catD, repD, eqD, neD, isND, notND, consA, nilA, lstD, tupD, callB, callD, lenD, toIntD, toListD, toTupD, ixD, slD, slL, slT, noO, someO, revD, tstD, truD, andT, orT, notT, andV, orV, notV, ifeD, negD, chnD, retD, retN, ifD, nextD, shareD, dropD, augD, appD, extD, stiD, gN, gsNil, gsCons, gT, gLD, asgD, breakD, contD, fldD, prpD, mthD, makD, sfdD, insOf, oopD, oeqD, aeqD, lrgD, lcPopD, isBD, notBD, ogtD, rseD, isiD, tryV, dropX, ogtX, callX, setX, retX, yesT, max2D, min2D, zipD, enumD, overD, rng1D, rng2D, sumD, allD, anyD, lcD_eq, startD, startI, wipeD, List.map_cons, List.map_nil, List.length_cons, List.length_nil, List.replicate_succ, List.replicate_zero, List.cons_append, List.nil_append, List.set_cons_succ, List.set_cons_zero, List.getElem?_cons_zero, List.getElem?_cons_succ, Nat.reduceAdd, Nat.reduceSub, Nat.reduceLT, Option.some.injEq, true_and, and_true, Int.zero_add]
    rw [enum_len, List.length_map]
    exact hp
theorem rep_int (n : Nat) (c : Int) : (List.replicate n [D.int c]).flatten = (List.replicate n c).map D.int := by
  induction n with
  | zero => rfl
  | succ n ih => rw [List.replicate_succ, List.flatten_cons, ih]; rfl
/-! ### _law_lists -/
def S_lists : SpD := fun ds P _ => ∃ most : Int, ds = [.deck, .int most] ∧ 2 ≤ most ∧ most ≤ 100 ∧ ∀ hs rs : List Int, hs.length ≤ most.toNat → rs.length ≤ max 3 most.toNat → Bd 2000 hs → Bd 600 rs → P (.tup [L hs, L rs])
theorem sc__law_lists : FnScope ["deck", "most", "heads", "row", "low", "at"] ["deck", "most"] (defScope s__law_lists) := ⟨rfl, rfl, rfl, by decide +kernel, rfl, by decide +kernel, by decide +kernel⟩
theorem ok_lists {f : Addr} {fd : FuncData} (F : Fun K "_law_lists" "_law_lists" s__law_lists f fd) (Z : Zs mg) (h__law_draw : Fd P w K mg base "_law_draw" 1 ["deck", "many"] S_draw) (h__law_list : Fd P w K mg base "_law_list" 3 ["deck", "most"] S_list) (h__law_value : Fd P w K mg base "_law_value" 1 ["row", "at"] S_value) : FnOk P w K mg base (L2.CX P w) 4 f fd ["deck", "most"] (spOf K S_lists) := by
  refine fn_mk F sc__law_lists (fun ds P PX h => by obtain ⟨t, rfl, _⟩ := h; rfl) ⟨_, fun cdv A outer s H E hr => (dss_cons (ds_set (i := 2) sc__law_lists.nd rfl (Or.inl rfl) (d_call h__law_list (hr.mono (by decide)) (by rfl) (da_cons (dv 0) (da_cons (d_ix (f_lst (da_cons d_int (da_cons (dv 1) da_nil))).d.bo (d_call h__law_draw (hr.mono (by decide)) (by rfl) (da_cons (dv 0) (da_cons d_int da_nil))).bo) da_nil))))
      (dss_cons (ds_set (i := 3) sc__law_lists.nd rfl (Or.inr rfl) (d_call h__law_list (hr.mono (by decide)) (by rfl) (da_cons (dv 0) (da_cons (d_ix (f_lst (da_cons d_int (da_cons (dv 1) da_nil))).d.bo (d_callTy t_int (by rfl) Z.int bt_int (db_cons (d_cmp (o_eq hr.units) (d_call h__law_draw (hr.mono (by decide)) (by rfl) (da_cons (dv 0) (da_cons d_int da_nil))).bo d_int.bo).bo db_nil)).bo) da_nil))))
      (dss_consJ (ds_if (dt_cmp (o_eq hr.units) (d_call h__law_draw (hr.mono (by decide)) (by rfl) (da_cons (dv 0) (da_cons d_int da_nil))).bo d_int.bo) (dss_cons (ds_set (i := 4) sc__law_lists.nd rfl (Or.inl rfl) (d_call h__law_draw (hr.mono (by decide)) (by rfl) (da_cons (dv 0) (da_cons (d_op o_add (d_callB b_len (by rfl) Z.len bt_len (db_cons (dvb 2) db_nil)).bo d_int.bo) da_nil))))
      (dss_one (ds_set (i := 2) sc__law_lists.nd rfl (Or.inl rfl) (d_opF f_cat (f_slice (dvb 2) do_none (do_some (dvb 4))).d.bo (f_lc rfl sc__law_lists.nd (di_rng2 (by rfl) Z.range (db_cons (dvb 4) (db_cons (d_callB b_len (by rfl) Z.len bt_len (db_cons (dvb 2) db_nil)).bo db_nil))) (blkOk_by (own := [("at", 5)]) (N := ["deck", "most", "heads", "row", "low", "at"]) (sc := defScope s__law_lists) (by decide +kernel)) (fun _ _ _ _ _ => (pg_name (i := 5) sc__law_lists.nd rfl (by first | exact Or.inl rfl | exact Or.inr rfl))) (tg_name (i := 5)) (fun _ _ _ _ _ => dts_nil) (fun _ _ _ _ _ => (d_call h__law_value (hr.mono (by decide)) (by rfl) (da_cons (dv 3) (da_cons (dv 5) da_nil))))).d.bo).d))) dss_nil)
      (dss_consJ (ds_if (dw_and (dt_cmp o_lt (d_callB b_len (by rfl) Z.len bt_len (db_cons (dvb 3) db_nil)).bo (dvb 1)) (dw_and1 (dt_cmp (o_eq hr.units) (d_call h__law_draw (hr.mono (by decide)) (by rfl) (da_cons (dv 0) (da_cons d_int da_nil))).bo d_int.bo))).t (dss_one (ds_set (i := 3) sc__law_lists.nd rfl (Or.inr rfl) (d_opF f_cat (dvb 3) (d_opF f_rep (f_lst (da_cons d_int da_nil)).d.bo (d_op o_add d_int.bo (d_call h__law_draw (hr.mono (by decide)) (by rfl) (da_cons (dv 0) (da_cons (d_op o_sub (dvb 1) (d_callB b_len (by rfl) Z.len bt_len (db_cons (dvb 3) db_nil)).bo) da_nil))).bo).bo).d.bo).d)) dss_nil)
      (dss_one (ds_ret (d_tup (da_cons (dv 2) (da_cons (dv 3) da_nil))))))))), ?_⟩ (fun ds P PX h => h)
  rintro ds P ⟨most, rfl, m0, m1, hp⟩
  simp only [seqD, setD, ownD, conD, varD, varB, binD, iopD, subD, fdivD, modD, powD, ltD, leD, gtD, geD, addD, mulD, catD, repD, eqD, neD, isND, notND, consA, nilA, lstD, tupD, callB, callD, lenD, toIntD, toListD, toTupD, ixD, slD, slL, slT, noO, someO, revD, tstD, truD, andT, orT, notT, andV, orV, notV, ifeD, negD, chnD, retD, retN, ifD, nextD, shareD, dropD, augD, appD, extD, stiD, gN, gsNil, gsCons, gT, gLD, asgD, breakD, contD, fldD, prpD, mthD, makD, sfdD, insOf, oopD, oeqD, aeqD, lrgD, lcPopD, isBD, notBD, ogtD, rseD, isiD, tryV, dropX, ogtX, callX, setX, retX, yesT, max2D, min2D, zipD, enumD, overD, rng1D, rng2D, sumD, allD, anyD, lcD_eq, startD, startI, wipeD, List.map_cons, List.map_nil, List.length_cons, List.length_nil, List.replicate_succ, List.replicate_zero, List.cons_append, List.nil_append, List.set_cons_succ, List.set_cons_zero, List.getElem?_cons_zero, List.getElem?_cons_succ, Nat.reduceAdd, Nat.reduceSub, Nat.reduceLT, Option.some.injEq, true_and, and_true, Int.zero_add]
  refine ⟨szL (by decide), 2, rfl, by decide, small_log (by decide) (by decide), fun r r0 r1 => ?_⟩
  obtain ⟨x, ex, h1, rfl, h10, h11⟩ := atI2 (a := .int 2) (b := .int most) (fun d => ∃ t : Int, d = .int t ∧ 0 ≤ t ∧ t ≤ most) r0 r1 ⟨_, rfl, by decide, by omega⟩ ⟨_, rfl, by omega, by omega⟩
  refine ⟨_, ex, h1, rfl, h10, by omega, fun hs hsl hsb => ⟨szL (by decide), 3, rfl, by decide, small_log (by decide) (by decide), fun r2 r20 r21 => ⟨pl_int _ _, pl_int _ _, ?_⟩⟩⟩
  obtain ⟨y, ey, h2, rfl, h20, h21⟩ := atI2 (a := .int 3) (b := .int most) (fun d => ∃ t : Int, d = .int t ∧ 0 ≤ t ∧ t ≤ max 3 most) (b01 (eqvD (.int r2) (.int 0))).1 (b01 _).2 ⟨_, rfl, by decide, by omega⟩ ⟨_, rfl, by omega, by omega⟩
  refine ⟨_, ey, h2, rfl, h20, by omega, fun rs rsl rsb => ?_⟩
  refine ⟨fun ρ => ∃ hs x, ρ = [.sh .deck, .sh (.int most), .sh (L hs), .sh (L rs), x, .no] ∧ hs.length ≤ most.toNat ∧ Bd 2000 hs, ?_, ?_⟩
  · simp only [seqD, setD, ownD, conD, varD, varB, binD, iopD, subD, fdivD, modD, powD, ltD, leD, gtD, geD, addD, mulD, catD, repD, eqD, neD, isND, notND, consA, nilA, lstD, tupD, callB, callD, lenD, toIntD, toListD, toTupD, ixD, slD, slL, slT, noO, someO, revD, tstD, truD, andT, orT, notT, andV, orV, notV, ifeD, negD, chnD, retD, retN, ifD, nextD, shareD, dropD, augD, appD, extD, stiD, gN, gsNil, gsCons, gT, gLD, asgD, breakD, contD, fldD, prpD, mthD, makD, sfdD, insOf, oopD, oeqD, aeqD, lrgD, lcPopD, isBD, notBD, ogtD, rseD, isiD, tryV, dropX, ogtX, callX, setX, retX, yesT, max2D, min2D, zipD, enumD, overD, rng1D, rng2D, sumD, allD, anyD, lcD_eq, startD, startI, wipeD, List.map_cons, List.map_nil, List.length_cons, List.length_nil, List.replicate_succ, List.replicate_zero, List.cons_append, List.nil_append, List.set_cons_succ, List.set_cons_zero, List.getElem?_cons_zero, List.getElem?_cons_succ, Nat.reduceAdd, Nat.reduceSub, Nat.reduceLT, Option.some.injEq, true_and, and_true, Int.zero_add]
    refine ⟨2, rfl, by decide, small_log (by decide) (by decide), fun r3 r30 r31 => ⟨pl_int _ _, pl_int _ _, ?_⟩⟩
    split
    · rw [List.length_map]
      refine ⟨_, rfl, by omega, small_log (by omega) (by omega), fun low l0 l1 => ?_⟩
      obtain ⟨low, rfl⟩ := Int.eq_ofNat_of_zero_le l0
      refine ⟨⟨by omega, by omega, by omega, by omega⟩, ?_⟩
      refine lc_all (fun i => .int (valueM rs ((low : Int) + (i : Nat)))) (by rw [rngL_len]; omega) (fun i d Q hd hi hq => ?_) ?_
      · obtain ⟨hi, rfl⟩ := rng_get hd
        simp only [seqD, setD, ownD, conD, varD, varB, binD, iopD, subD, fdivD, modD, powD, ltD, leD, gtD, geD, addD, mulD, catD, repD, eqD, neD, isND, notND, consA, nilA, lstD, tupD, callB, callD, lenD, toIntD, toListD, toTupD, ixD, slD, slL, slT, noO, someO, revD, tstD, truD, andT, orT, notT, andV, orV, notV, ifeD, negD, chnD, retD, retN, ifD, nextD, shareD, dropD, augD, appD, extD, stiD, gN, gsNil, gsCons, gT, gLD, asgD, breakD, contD, fldD, prpD, mthD, makD, sfdD, insOf, oopD, oeqD, aeqD, lrgD, lcPopD, isBD, notBD, ogtD, rseD, isiD, tryV, dropX, ogtX, callX, setX, retX, yesT, max2D, min2D, zipD, enumD, overD, rng1D, rng2D, sumD, allD, anyD, lcD_eq, startD, startI, wipeD, List.map_cons, List.map_nil, List.length_cons, List.length_nil, List.replicate_succ, List.replicate_zero, List.cons_append, List.nil_append, List.set_cons_succ, List.set_cons_zero, List.getElem?_cons_zero, List.getElem?_cons_succ, Nat.reduceAdd, Nat.reduceSub, Nat.reduceLT, Option.some.injEq, true_and, and_true, Int.zero_add]
        exact ⟨rs, _, 600, 10, rfl, rsb, by omega, by omega, by omega, by
          have : (10 + 1) * (rs.length + 1) ≤ 11 * 102 := Nat.mul_le_mul_left _ (by omega)
          omega, hq⟩
      · rw [rngL_len, cut_take, ← List.map_take]
        have e : (List.range ((hs.length : Int) - (low : Int)).toNat).map (fun i => D.int (valueM rs ((low : Int) + (i : Nat)))) = ((List.range ((hs.length : Int) - (low : Int)).toNat).map (fun i : Nat => valueM rs ((low : Int) + (i : Nat)))).map D.int := by rw [List.map_map]; rfl
        rw [e]
        refine ⟨szL ?_, hs.take low ++ (List.range ((hs.length : Int) - (low : Int)).toNat).map (fun i : Nat => valueM rs ((low : Int) + (i : Nat))), _, by rw [L_app], ?_, ?_⟩
        · simp only [List.length_map, List.length_take, List.length_range]; omega
        · simp only [List.length_append, List.length_map, List.length_take, List.length_range]; omega
        · refine Bd.app ((hsb.mono (by omega)).take _) fun z hz => ?_
          obtain ⟨i, hi, rfl⟩ := List.mem_map.mp hz
          have hi := List.mem_range.mp hi
          refine lt2 (value_bd (N := 10) rsb (by omega) (by omega)) ?_
          have : (10 + 2) * rs.length ≤ 12 * 101 := Nat.mul_le_mul_left _ (by omega)
          omega
    · exact ⟨hs, _, rfl, by omega, hsb.mono (by omega)⟩
  · rintro ρ ⟨hs, x, rfl, hl, hb⟩
    refine ⟨fun ρ => ∃ rs x, ρ = [.sh .deck, .sh (.int most), .sh (L hs), .sh (L rs), x, .no] ∧ rs.length ≤ max 3 most.toNat ∧ Bd 600 rs, ?_, ?_⟩
    · simp only [seqD, setD, ownD, conD, varD, varB, binD, iopD, subD, fdivD, modD, powD, ltD, leD, gtD, geD, addD, mulD, catD, repD, eqD, neD, isND, notND, consA, nilA, lstD, tupD, callB, callD, lenD, toIntD, toListD, toTupD, ixD, slD, slL, slT, noO, someO, revD, tstD, truD, andT, orT, notT, andV, orV, notV, ifeD, negD, chnD, retD, retN, ifD, nextD, shareD, dropD, augD, appD, extD, stiD, gN, gsNil, gsCons, gT, gLD, asgD, breakD, contD, fldD, prpD, mthD, makD, sfdD, insOf, oopD, oeqD, aeqD, lrgD, lcPopD, isBD, notBD, ogtD, rseD, isiD, tryV, dropX, ogtX, callX, setX, retX, yesT, max2D, min2D, zipD, enumD, overD, rng1D, rng2D, sumD, allD, anyD, lcD_eq, startD, startI, wipeD, List.map_cons, List.map_nil, List.length_cons, List.length_nil, List.replicate_succ, List.replicate_zero, List.cons_append, List.nil_append, List.set_cons_succ, List.set_cons_zero, List.getElem?_cons_zero, List.getElem?_cons_succ, Nat.reduceAdd, Nat.reduceSub, Nat.reduceLT, Option.some.injEq, true_and, and_true, Int.zero_add]
      rw [List.length_map]
      have fin : ∀ x : Cell, ∃ rs' y, [Cell.sh D.deck, .sh (.int most), .sh (L hs), .sh (L rs), x, .no] = [.sh .deck, .sh (.int most), .sh (L hs), .sh (L rs'), y, .no] ∧ rs'.length ≤ max 3 most.toNat ∧ Bd 600 rs' := fun x => ⟨rs, x, rfl, by omega, rsb⟩
      by_cases c : (rs.length : Int) < most
      · rw [decide_eq_true c, if_pos rfl]
        refine ⟨3, rfl, by decide, small_log (by decide) (by decide), fun r3 r30 r31 => ⟨pl_int _ _, pl_int _ _, ?_⟩⟩
        split
        · refine ⟨szL (by decide), _, rfl, by omega, small_log (by omega) (by omega), fun n n0 n1 => ⟨by omega, by omega, ?_, ?_, ?_⟩⟩
          · exact szL (by omega)
          · rw [rep_int, List.length_map, List.length_replicate]
            exact szL (by omega)
          · rw [rep_int, ← List.map_append]
            refine ⟨rs ++ List.replicate (1 + n).toNat 0, _, rfl, ?_, ?_⟩
            · rw [List.length_append, List.length_replicate]; omega
            · refine rsb.app fun z hz => ?_
              rw [List.eq_of_mem_replicate hz]; decide
        · exact fin _
      · rw [decide_eq_false c, if_neg Bool.false_ne_true]
        exact fin _
    · rintro ρ ⟨rs, x, rfl, hl2, hb2⟩
      simp only [seqD, setD, ownD, conD, varD, varB, binD, iopD, subD, fdivD, modD, powD, ltD, leD, gtD, geD, addD, mulD, catD, repD, eqD, neD, isND, notND, consA, nilA, lstD, tupD, callB, callD, lenD, toIntD, toListD, toTupD, ixD, slD, slL, slT, noO, someO, revD, tstD, truD, andT, orT, notT, andV, orV, notV, ifeD, negD, chnD, retD, retN, ifD, nextD, shareD, dropD, augD, appD, extD, stiD, gN, gsNil, gsCons, gT, gLD, asgD, breakD, contD, fldD, prpD, mthD, makD, sfdD, insOf, oopD, oeqD, aeqD, lrgD, lcPopD, isBD, notBD, ogtD, rseD, isiD, tryV, dropX, ogtX, callX, setX, retX, yesT, max2D, min2D, zipD, enumD, overD, rng1D, rng2D, sumD, allD, anyD, lcD_eq, startD, startI, wipeD, List.map_cons, List.map_nil, List.length_cons, List.length_nil, List.replicate_succ, List.replicate_zero, List.cons_append, List.nil_append, List.set_cons_succ, List.set_cons_zero, List.getElem?_cons_zero, List.getElem?_cons_succ, Nat.reduceAdd, Nat.reduceSub, Nat.reduceLT, Option.some.injEq, true_and, and_true, Int.zero_add]
      exact ⟨szL (by decide), hp hs rs hl hl2 hb hb2⟩
end
end KP

set_option Elab.async false
set_option linter.all false
set_option autoImplicit false
set_option maxRecDepth 100000
set_option maxHeartbeats 4000000
namespace KP
open PySem PySem.Spec PyProof.Rows L2 DL
/-! ### added, from_values, product: what they compute -/
def addM (a b : List Int) (f : Int) : List Int := (List.range (max a.length b.length)).map fun i => a.getD i 0 + f * b.getD i 0
def diffM : List Int → List Int
  | [] => []
  | [_] => []
  | x :: y :: r => (y - x) :: diffM (y :: r)
theorem diffM_len : ∀ r : List Int, (diffM r).length = r.length - 1
  | [] => rfl
  | [_] => rfl
  | x :: y :: r => by rw [diffM, List.length_cons, diffM_len (y :: r)]; rfl
def diffI (r : List Int) : Nat → List Int
  | 0 => r
  | n + 1 => diffM (diffI r n)
theorem diffI_len (r : List Int) : ∀ n, (diffI r n).length = r.length - n
  | 0 => rfl
  | n + 1 => by rw [diffI, diffM_len, diffI_len r n]; omega
def newtonM (r : List Int) : List Int := (List.range r.length).map fun i => (diffI r i).getD 0 0
theorem diffM_bd {B : Nat} : ∀ {r : List Int}, Bd B r → Bd (B + 1) (diffM r)
  | [], _ => Bd.nil
  | [_], _ => Bd.nil
  | x :: y :: r, h => fun z hz => by
    rw [diffM] at hz
    rcases List.mem_cons.mp hz with rfl | hz
    · exact bd_sub (h y (List.mem_cons_of_mem _ List.mem_cons_self)) (h x List.mem_cons_self)
    · exact diffM_bd (r := y :: r) (fun w hw => h w (List.mem_cons_of_mem _ hw)) z hz
theorem diffI_bd {B : Nat} {r : List Int} (h : Bd B r) : ∀ n, Bd (B + n) (diffI r n)
  | 0 => h
  | n + 1 => diffM_bd (diffI_bd h n)
theorem newtonM_bd {B : Nat} {r : List Int} (h : Bd B r) : Bd (B + r.length) (newtonM r) := fun x hx => by
  obtain ⟨i, hi, rfl⟩ := List.mem_map.mp hx
  have hi := List.mem_range.mp hi
  exact lt2 ((diffI_bd h i).getD 0) (by omega)
theorem diffM_get : ∀ (r : List Int) (i : Nat), i < (diffM r).length → (diffM r)[i]? = some (r.getD (i + 1) 0 - r.getD i 0)
  | [], i, h => by cases h
  | [_], i, h => by cases h
  | x :: y :: r, 0, h => rfl
  | x :: y :: r, i + 1, h => by
    rw [diffM, List.getElem?_cons_succ, diffM_get (y :: r) i (by rw [diffM, List.length_cons] at h; omega)]
    rfl
def numM (h t : List Int) (n : Int) : Int := if n < h.length then h.getD n.toNat 0 else valueM t n
def ct (C : Addr) (h t : List Int) : D := .ins C ["tail", "head"] [L t, L h]
theorem at_h (h t : List Int) : attrD ["tail", "head"] [L t, L h] "head" = some (L h) := rfl
theorem at_t (h t : List Int) : attrD ["tail", "head"] [L t, L h] "tail" = some (L t) := rfl
structure CtT (K : PySem.W.Frag) (mg : Str → Option Value) (C : Addr) : Prop where
  cls : Cls K C
  gC : mg "Counted" = some (.ref C)
  n_head : NoAttr K C "head"
  n_tail : NoAttr K C "tail"
  ins : InsT K C
theorem addM_bd {B F : Nat} {a b : List Int} {f : Int} (ha : Bd B a) (hb : Bd B b) (hf : f.natAbs < 2 ^ F) : Bd (B + F + 1) (addM a b f) := fun x hx => by
  obtain ⟨i, hi, rfl⟩ := List.mem_map.mp hx
  have h1 := wide_lt hf (hb.getD i)
  rw [Nat.add_comm F B] at h1
  exact bd_add (lt2 (ha.getD i) (by omega)) h1
theorem addM_len (a b : List Int) (f : Int) : (addM a b f).length = max a.length b.length := by unfold addM; rw [List.length_map, List.length_range]
def prodM (a b : List Int) : List Int := trimM (newtonM ((List.range (a.length + b.length)).map fun n : Nat => valueM a (n : Int) * valueM b (n : Int)))
theorem pad_get (a : List Int) (k i : Nat) : (a ++ List.replicate k 0).getD i 0 = a.getD i 0 := by
  rw [List.getD_eq_getElem?_getD, List.getD_eq_getElem?_getD]
  by_cases h : i < a.length
  · rw [List.getElem?_append_left h]
  · rw [List.getElem?_append_right (by omega), List.getElem?_eq_none (by omega : a.length ≤ i)]
    by_cases h2 : i - a.length < k
    · rw [List.getElem?_replicate, if_pos h2]; rfl
    · rw [List.getElem?_replicate, if_neg h2]
theorem rep0 (n : Nat) : (List.replicate n [D.int 0]).flatten = (List.replicate n 0).map D.int := by
  induction n with
  | zero => rfl
  | succ n ih => rw [List.replicate_succ, List.flatten_cons, ih]; rfl
/-- each element is the int f i -/
theorem lc_int {ds : List D} {gd : TGd} {me : TEd} {ρ : DL.Env} {P : D → Prop} (f : Nat → Int) (hl : ds.length ≤ 16000000) (h : ∀ i d (Q : D → Prop), ds[i]? = some d → i < ds.length → Q (.int (f i)) → gd d ρ fun ρ2 => me ρ2 Q) (hp : P (L ((List.range ds.length).map f))) : LcI ds gd yesT me ρ P := by
  refine lc_all (fun i => .int (f i)) hl h ?_
  unfold L at hp
  rw [List.map_map] at hp
  exact hp
theorem getI {xs : List Int} {i : Nat} {x : Int} (h : xs[i]? = some x) : xs.getD i 0 = x := by rw [List.getD_eq_getElem?_getD, h]; rfl
theorem range_getD (xs : List Int) : (List.range xs.length).map (fun j => xs.getD j 0) = xs := by
  refine List.ext_getElem (by simp) fun i h1 h2 => ?_
  simp [List.getD_eq_getElem?_getD, List.getElem?_eq_getElem h2]
theorem lastD (xs : List Int) (h : xs ≠ []) : xs[xs.length - 1]? = some (xs.getD (xs.length - 1) 0) := by
  have : xs.length - 1 < xs.length := by
    have := List.length_pos_iff.mpr h; omega
  rw [List.getD_eq_getElem?_getD, List.getElem?_eq_getElem this]; rfl
theorem numM_bd {B N : Nat} {h t : List Int} {n : Int} (hh : Bd B h) (ht : Bd B t) (hn : n.natAbs < 2 ^ N) (hl : t.length ≤ 2 ^ N) : (numM h t n).natAbs < 2 ^ (B + ((N + 2) * t.length + 1)) := by
  unfold numM
  split
  · exact lt2 (hh.getD _) (by omega)
  · exact value_bd ht hn hl
section
variable {P : Program} {w : World} {K : PySem.W.Frag} {mg : Str → Option Value} {base : Heap}
/-! ### added -/
def S_added : SpD := fun ds P _ => ∃ (a b : List Int) (f : Int) (B F : Nat), ds = [L a, L b, .int f] ∧ Bd B a ∧ Bd B b ∧ f.natAbs < 2 ^ F ∧ a.length ≤ 4000 ∧ b.length ≤ 4000 ∧ F + B ≤ 800000 ∧ P (L (addM a b f))
theorem sc_added : FnScope ["one", "other", "factor", "size", "padded", "entry", "more"] ["one", "other", "factor"] (defScope s_added) := ⟨rfl, rfl, rfl, by decide +kernel, rfl, by decide +kernel, by decide +kernel⟩
theorem ok_added {f : Addr} {fd : FuncData} (F : Fun K "added" "added" s_added f fd) (Z : Zs mg) : FnOk P w K mg base (L2.CX P w) 1 f fd ["one", "other", "factor"] (spOf K S_added) := by
  refine fn_mk F sc_added (fun ds P PX h => by obtain ⟨t, k, B, n, m, rfl, _⟩ := h; rfl) ⟨_, fun cdv A outer s H E hr => (dss_cons (ds_set (i := 3) sc_added.nd rfl (Or.inl rfl) (d_callB (b_max2 rfl) (by rfl) Z.max bt_max (db_cons (d_callB b_len (by rfl) Z.len bt_len (db_cons (dvb 0) db_nil)).bo (db_cons (d_callB b_len (by rfl) Z.len bt_len (db_cons (dvb 1) db_nil)).bo db_nil))))
      (dss_cons (ds_set (i := 4) sc_added.nd rfl (Or.inl rfl) (d_opF f_cat (dvb 1) (d_opF f_rep (f_lst (da_cons d_int da_nil)).d.bo (d_op o_sub (dvb 3) (d_callB b_len (by rfl) Z.len bt_len (db_cons (dvb 1) db_nil)).bo).bo).d.bo).d)
      (dss_one (ds_ret (f_lc rfl sc_added.nd (di_zip (by rfl) Z.zip (da_cons (d_opF f_cat (dvb 0) (d_opF f_rep (f_lst (da_cons d_int da_nil)).d.bo (d_op o_sub (dvb 3) (d_callB b_len (by rfl) Z.len bt_len (db_cons (dvb 0) db_nil)).bo).bo).d.bo).d (da_cons (dv 4) da_nil))) (blkOk_by (own := [("entry", 5), ("more", 6)]) (N := ["one", "other", "factor", "size", "padded", "entry", "more"]) (sc := defScope s_added) (by decide +kernel)) (fun _ _ _ _ _ => (pg_tup (n := 2) rfl (pgs_cons (pg_name (i := 5) sc_added.nd rfl (by first | exact Or.inl rfl | exact Or.inr rfl)) (pgs_cons (pg_name (i := 6) sc_added.nd rfl (by first | exact Or.inl rfl | exact Or.inr rfl)) pgs_nil)))) (tg_tup (n := 2) (tgs_cons (tg_name (i := 5)) (tgs_cons (tg_name (i := 6)) tgs_nil))) (fun _ _ _ _ _ => dts_nil) (fun _ _ _ _ _ => (d_op o_add (dvb 5) (d_op o_mul (dvb 2) (dvb 6)).bo))).d)))), ?_⟩ (fun ds P PX h => h)
  rintro ds P ⟨a, b, f, B, F, rfl, ha, hb, hf, la, lb, hm, hp⟩
  simp only [seqD, setD, ownD, conD, varD, varB, binD, iopD, subD, fdivD, modD, powD, ltD, leD, gtD, geD, addD, mulD, catD, repD, eqD, neD, isND, notND, consA, nilA, lstD, tupD, callB, callD, lenD, toIntD, toListD, toTupD, ixD, slD, slL, slT, noO, someO, revD, tstD, truD, andT, orT, notT, andV, orV, notV, ifeD, negD, chnD, retD, retN, ifD, nextD, shareD, dropD, augD, appD, extD, stiD, gN, gsNil, gsCons, gT, gLD, asgD, breakD, contD, fldD, prpD, mthD, makD, sfdD, insOf, oopD, oeqD, aeqD, lrgD, lcPopD, isBD, notBD, ogtD, rseD, isiD, tryV, dropX, ogtX, callX, setX, retX, yesT, max2D, min2D, zipD, enumD, overD, rng1D, rng2D, sumD, allD, anyD, lcD_eq, startD, startI, wipeD, List.map_cons, List.map_nil, List.length_cons, List.length_nil, List.replicate_succ, List.replicate_zero, List.cons_append, List.nil_append, List.set_cons_succ, List.set_cons_zero, List.getElem?_cons_zero, List.getElem?_cons_succ, Nat.reduceAdd, Nat.reduceSub, Nat.reduceLT, Option.some.injEq, true_and, and_true, Int.zero_add, List.length_map]
  intro m h1 h2 h3
  have em : m = ((max a.length b.length : Nat) : Int) := by omega
  subst em
  rw [rep0, rep0, ← List.map_append, ← List.map_append, List.length_map, List.length_map, List.length_replicate, List.length_replicate]
  refine ⟨szL (by decide), by omega, by omega, szL (by omega), szL (by omega), szL (by decide), by omega, by omega, szL (by omega), szL (by omega), ?_⟩
  have zl : (zipL ((a ++ List.replicate (((max a.length b.length : Nat) : Int) - (a.length : Int)).toNat 0).map D.int) ((b ++ List.replicate (((max a.length b.length : Nat) : Int) - (b.length : Int)).toNat 0).map D.int)).length = max a.length b.length := by
    rw [DL.zip_len]; simp only [List.length_map, List.length_append, List.length_replicate]; omega
  refine lc_int (fun i => a.getD i 0 + f * b.getD i 0) (by rw [zl]; omega) (fun i d Q hd hi hq => ?_) ?_
  · obtain ⟨x, y, hx, hy, rfl⟩ := DL.zip_get hd
    obtain ⟨x, hx1, rfl⟩ := map_get hx
    obtain ⟨y, hy1, rfl⟩ := map_get hy
    have ex : a.getD i 0 = x := by rw [← pad_get a _ i]; exact getI hx1
    have ey : b.getD i 0 = y := by rw [← pad_get b _ i]; exact getI hy1
    simp only [seqD, setD, ownD, conD, varD, varB, binD, iopD, subD, fdivD, modD, powD, ltD, leD, gtD, geD, addD, mulD, catD, repD, eqD, neD, isND, notND, consA, nilA, lstD, tupD, callB, callD, lenD, toIntD, toListD, toTupD, ixD, slD, slL, slT, noO, someO, revD, tstD, truD, andT, orT, notT, andV, orV, notV, ifeD, negD, chnD, retD, retN, ifD, nextD, shareD, dropD, augD, appD, extD, stiD, gN, gsNil, gsCons, gT, gLD, asgD, breakD, contD, fldD, prpD, mthD, makD, sfdD, insOf, oopD, oeqD, aeqD, lrgD, lcPopD, isBD, notBD, ogtD, rseD, isiD, tryV, dropX, ogtX, callX, setX, retX, yesT, max2D, min2D, zipD, enumD, overD, rng1D, rng2D, sumD, allD, anyD, lcD_eq, startD, startI, wipeD, List.map_cons, List.map_nil, List.length_cons, List.length_nil, List.replicate_succ, List.replicate_zero, List.cons_append, List.nil_append, List.set_cons_succ, List.set_cons_zero, List.getElem?_cons_zero, List.getElem?_cons_succ, Nat.reduceAdd, Nat.reduceSub, Nat.reduceLT, Option.some.injEq, true_and, and_true, Int.zero_add]
    rw [← ex, ← ey]
    exact ⟨mulW_of hf (hb.getD i) (by omega), hq⟩
  · rw [zl]; exact hp
/-! ### from_values, product -/
def S_from_values : SpD := fun ds P _ => ∃ (vs : List Int) (B : Nat), ds = [L vs] ∧ vs.length ≤ 4000 ∧ P (L (trimM (newtonM vs)))
theorem sc_from_values : FnScope ["values", "poly", "row", "value", "later"] ["values"] (defScope s_from_values) := ⟨rfl, rfl, rfl, by decide +kernel, rfl, by decide +kernel, by decide +kernel⟩
theorem ok_from_values {f : Addr} {fd : FuncData} (F : Fun K "from_values" "from_values" s_from_values f fd) (Z : Zs mg) (h_trimmed : Fd P w K mg base "trimmed" 1 ["poly"] S_trimmed) : FnOk P w K mg base (L2.CX P w) 2 f fd ["values"] (spOf K S_from_values) := by
  refine fn_mk F sc_from_values (fun ds P PX h => by obtain ⟨t, k, rfl, _⟩ := h; rfl) ⟨_, fun cdv A outer s H E hr => (dss_cons (ds_own (i := 1) sc_from_values.nd rfl (Or.inl rfl) (f_lst da_nil))
      (dss_cons (ds_set (i := 2) sc_from_values.nd rfl (Or.inl rfl) (f_callTy t_list (by rfl) Z.list bt_list (db_cons (dvb 0) db_nil)).d)
      (dss_cons (ds_while PassesOwn.never (dt_truth (dvb 2)) (dss_cons (ds_app (i := 1) (pe_bm PySem.F.plainAttrs_list PySem.F.slot_list_append PySem.F.type_list_append mt_append (pv 1) (da_cons (d_ix (dvb 2) d_int.bo) da_nil)))
      (dss_one (ds_setLc (i := 2) rfl sc_from_values.nd rfl rfl (sw_true rfl rfl rfl (by decide +kernel)) (di_zip (by rfl) Z.zip (da_cons (dv 2) (da_cons (f_slice (dvb 2) (do_some d_int.bo) do_none).d da_nil))) (blkOk_by (own := [("value", 3), ("later", 4)]) (N := ["values", "poly", "row", "value", "later"]) (sc := defScope s_from_values) (by decide +kernel)) (fun _ _ _ _ _ => (pg_tup (n := 2) rfl (pgs_cons (pg_name (i := 3) sc_from_values.nd rfl (by first | exact Or.inl rfl | exact Or.inr rfl)) (pgs_cons (pg_name (i := 4) sc_from_values.nd rfl (by first | exact Or.inl rfl | exact Or.inr rfl)) pgs_nil)))) (tg_tup (n := 2) (tgs_cons (tg_name (i := 3)) (tgs_cons (tg_name (i := 4)) tgs_nil))) (fun _ _ _ _ _ => dts_nil) (fun _ _ _ _ _ => (d_op o_sub (dvb 4) (dvb 3)))))))
      (dss_one (ds_share 1 (ds_ret (d_call h_trimmed (hr.mono (by decide)) (by rfl) (da_cons (dv 1) da_nil)))))))), ?_⟩ (fun ds P PX h => h)
  rintro ds P ⟨vs, B, rfl, hl, hp⟩
  simp only [seqD, setD, ownD, conD, varD, varB, binD, iopD, subD, fdivD, modD, powD, ltD, leD, gtD, geD, addD, mulD, catD, repD, eqD, neD, isND, notND, consA, nilA, lstD, tupD, callB, callD, lenD, toIntD, toListD, toTupD, ixD, slD, slL, slT, noO, someO, revD, tstD, truD, andT, orT, notT, andV, orV, notV, ifeD, negD, chnD, retD, retN, ifD, nextD, shareD, dropD, augD, appD, extD, stiD, gN, gsNil, gsCons, gT, gLD, asgD, breakD, contD, fldD, prpD, mthD, makD, sfdD, insOf, oopD, oeqD, aeqD, lrgD, lcPopD, isBD, notBD, ogtD, rseD, isiD, tryV, dropX, ogtX, callX, setX, retX, yesT, max2D, min2D, zipD, enumD, overD, rng1D, rng2D, sumD, allD, anyD, lcD_eq, startD, startI, wipeD, List.map_cons, List.map_nil, List.length_cons, List.length_nil, List.replicate_succ, List.replicate_zero, List.cons_append, List.nil_append, List.set_cons_succ, List.set_cons_zero, List.getElem?_cons_zero, List.getElem?_cons_succ, Nat.reduceAdd, Nat.reduceSub, Nat.reduceLT, Option.some.injEq, true_and, and_true, Int.zero_add, List.length_map]
  refine ⟨szL (by decide), fun ad => ⟨fun m ρ => ∃ i x y, ρ = [.sh (L vs), .ow ad (L ((List.range i).map fun j => (diffI vs j).getD 0 0)), .sh (L (diffI vs i)), x, y] ∧ i + m = vs.length, ⟨vs.length, 0, _, _, rfl, by omega⟩, ?_⟩⟩
  rintro m ρ ⟨i, x, y, rfl, hm⟩
  simp only [seqD, setD, ownD, conD, varD, varB, binD, iopD, subD, fdivD, modD, powD, ltD, leD, gtD, geD, addD, mulD, catD, repD, eqD, neD, isND, notND, consA, nilA, lstD, tupD, callB, callD, lenD, toIntD, toListD, toTupD, ixD, slD, slL, slT, noO, someO, revD, tstD, truD, andT, orT, notT, andV, orV, notV, ifeD, negD, chnD, retD, retN, ifD, nextD, shareD, dropD, augD, appD, extD, stiD, gN, gsNil, gsCons, gT, gLD, asgD, breakD, contD, fldD, prpD, mthD, makD, sfdD, insOf, oopD, oeqD, aeqD, lrgD, lcPopD, isBD, notBD, ogtD, rseD, isiD, tryV, dropX, ogtX, callX, setX, retX, yesT, max2D, min2D, zipD, enumD, overD, rng1D, rng2D, sumD, allD, anyD, lcD_eq, startD, startI, wipeD, List.map_cons, List.map_nil, List.length_cons, List.length_nil, List.replicate_succ, List.replicate_zero, List.cons_append, List.nil_append, List.set_cons_succ, List.set_cons_zero, List.getElem?_cons_zero, List.getElem?_cons_succ, Nat.reduceAdd, Nat.reduceSub, Nat.reduceLT, Option.some.injEq, true_and, and_true, Int.zero_add, List.length_map]
  have hlen := diffI_len vs i
  cases hr : diffI vs i with
  | nil =>
    rw [hr] at hlen
    simp only [List.map_nil, List.isEmpty_nil, Bool.not_true, Bool.false_eq_true, if_false]
    have : i = vs.length := by simp at hlen; omega
    subst this
    exact ⟨_, rfl, hp⟩
  | cons z r =>
    rw [hr] at hlen
    simp only [List.map_cons, List.isEmpty_cons, Bool.not_false, if_true]
    rw [List.length_cons] at hlen
    have hi : i < vs.length := by omega
    refine ⟨.int z, by rw [show (0 : Int) = ((0 : Nat) : Int) from rfl, atI_ofNat]; rfl, by rw [List.length_range]; exact szT (by omega), ?_⟩
    rw [show (1 : Int) = ((1 : Nat) : Int) from rfl, cut_drop, List.drop_one, List.tail_cons]
    have hd1 := diffM_len (z :: r)
    have zl : (zipL (D.int z :: r.map D.int) (r.map D.int)).length = r.length := by
      rw [DL.zip_len]; simp
    refine lc_int (fun j => (diffM (z :: r)).getD j 0) (by rw [zl]; omega) (fun j d Q hd hj hq => ?_) ?_
    · obtain ⟨x, y, hx, hy, rfl⟩ := DL.zip_get hd
      rw [← List.map_cons] at hx
      obtain ⟨x, hx1, rfl⟩ := map_get hx
      obtain ⟨y, hy1, rfl⟩ := map_get hy
      simp only [seqD, setD, ownD, conD, varD, varB, binD, iopD, subD, fdivD, modD, powD, ltD, leD, gtD, geD, addD, mulD, catD, repD, eqD, neD, isND, notND, consA, nilA, lstD, tupD, callB, callD, lenD, toIntD, toListD, toTupD, ixD, slD, slL, slT, noO, someO, revD, tstD, truD, andT, orT, notT, andV, orV, notV, ifeD, negD, chnD, retD, retN, ifD, nextD, shareD, dropD, augD, appD, extD, stiD, gN, gsNil, gsCons, gT, gLD, asgD, breakD, contD, fldD, prpD, mthD, makD, sfdD, insOf, oopD, oeqD, aeqD, lrgD, lcPopD, isBD, notBD, ogtD, rseD, isiD, tryV, dropX, ogtX, callX, setX, retX, yesT, max2D, min2D, zipD, enumD, overD, rng1D, rng2D, sumD, allD, anyD, lcD_eq, startD, startI, wipeD, List.map_cons, List.map_nil, List.length_cons, List.length_nil, List.replicate_succ, List.replicate_zero, List.cons_append, List.nil_append, List.set_cons_succ, List.set_cons_zero, List.getElem?_cons_zero, List.getElem?_cons_succ, Nat.reduceAdd, Nat.reduceSub, Nat.reduceLT, Option.some.injEq, true_and, and_true, Int.zero_add]
      rw [zl] at hj
      have := getI (diffM_get (z :: r) j (by rw [hd1]; exact hj))
      rw [this, List.getD_cons_succ, getI hy1, getI hx1] at hq
      exact hq
    · rw [zl]
      refine ⟨m - 1, by omega, i + 1, x, y, ?_, by omega⟩
      have e1 : D.lst (List.map D.int (List.map (fun j => (diffI vs j).getD 0 0) (List.range i)) ++ [D.int z]) = L (List.map (fun j => (diffI vs j).getD 0 0) (List.range (i + 1))) := by
        rw [List.range_succ, List.map_append, L, List.map_append]
        simp [hr]
      have e2 : (List.range r.length).map (fun j => (diffM (z :: r)).getD j 0) = diffI vs (i + 1) := by
        rw [diffI, hr]
        have hl2 : (diffM (z :: r)).length = r.length := by rw [hd1]; rfl
        rw [← hl2, range_getD]
      rw [e1, e2]
/-! ### product -/
def S_product : SpD := fun ds P _ => ∃ (a b : List Int) (B : Nat), ds = [L a, L b] ∧ Bd B a ∧ Bd B b ∧ a.length ≤ 2000 ∧ b.length ≤ 2000 ∧ B + 15 * (max a.length b.length + 1) ≤ 400000 ∧ P (L (prodM a b))
theorem sc_product : FnScope ["one", "other", "values", "n"] ["one", "other"] (defScope s_product) := ⟨rfl, rfl, rfl, by decide +kernel, rfl, by decide +kernel, by decide +kernel⟩
theorem ok_product {f : Addr} {fd : FuncData} (F : Fun K "product" "product" s_product f fd) (Z : Zs mg) (h_value_at : Fd P w K mg base "value_at" 2 ["poly", "n"] S_value_at) (h_from_values : Fd P w K mg base "from_values" 2 ["values"] S_from_values) : FnOk P w K mg base (L2.CX P w) 3 f fd ["one", "other"] (spOf K S_product) := by
  refine fn_mk F sc_product (fun ds P PX h => by obtain ⟨t, k, B, rfl, _⟩ := h; rfl) ⟨_, fun cdv A outer s H E hr => (dss_cons (ds_setLc (i := 2) rfl sc_product.nd rfl rfl (sw_true rfl rfl rfl (by decide +kernel)) (di_rng1 (by rfl) Z.range (db_cons (d_op o_add (d_callB b_len (by rfl) Z.len bt_len (db_cons (dvb 0) db_nil)).bo (d_callB b_len (by rfl) Z.len bt_len (db_cons (dvb 1) db_nil)).bo).bo db_nil)) (blkOk_by (own := [("n", 3)]) (N := ["one", "other", "values", "n"]) (sc := defScope s_product) (by decide +kernel)) (fun _ _ _ _ _ => (pg_name (i := 3) sc_product.nd rfl (by first | exact Or.inl rfl | exact Or.inr rfl))) (tg_name (i := 3)) (fun _ _ _ _ _ => dts_nil) (fun _ _ _ _ _ => (d_op o_mul (d_call h_value_at (hr.mono (by decide)) (by rfl) (da_cons (dv 0) (da_cons (dv 3) da_nil))).bo (d_call h_value_at (hr.mono (by decide)) (by rfl) (da_cons (dv 1) (da_cons (dv 3) da_nil))).bo)))
      (dss_one (ds_ret (d_call h_from_values (hr.mono (by decide)) (by rfl) (da_cons (dv 2) da_nil))))), ?_⟩ (fun ds P PX h => h)
  rintro ds P ⟨a, b, B, rfl, ha, hb, la, lb, hm, hp⟩
  simp only [seqD, setD, ownD, conD, varD, varB, binD, iopD, subD, fdivD, modD, powD, ltD, leD, gtD, geD, addD, mulD, catD, repD, eqD, neD, isND, notND, consA, nilA, lstD, tupD, callB, callD, lenD, toIntD, toListD, toTupD, ixD, slD, slL, slT, noO, someO, revD, tstD, truD, andT, orT, notT, andV, orV, notV, ifeD, negD, chnD, retD, retN, ifD, nextD, shareD, dropD, augD, appD, extD, stiD, gN, gsNil, gsCons, gT, gLD, asgD, breakD, contD, fldD, prpD, mthD, makD, sfdD, insOf, oopD, oeqD, aeqD, lrgD, lcPopD, isBD, notBD, ogtD, rseD, isiD, tryV, dropX, ogtX, callX, setX, retX, yesT, max2D, min2D, zipD, enumD, overD, rng1D, rng2D, sumD, allD, anyD, lcD_eq, startD, startI, wipeD, List.map_cons, List.map_nil, List.length_cons, List.length_nil, List.replicate_succ, List.replicate_zero, List.cons_append, List.nil_append, List.set_cons_succ, List.set_cons_zero, List.getElem?_cons_zero, List.getElem?_cons_succ, Nat.reduceAdd, Nat.reduceSub, Nat.reduceLT, Option.some.injEq, true_and, and_true, Int.zero_add, List.length_map]
  have m1 : 15 * (a.length + 1) ≤ 15 * (max a.length b.length + 1) := Nat.mul_le_mul_left _ (by omega)
  have m2 : 15 * (b.length + 1) ≤ 15 * (max a.length b.length + 1) := Nat.mul_le_mul_left _ (by omega)
  refine ⟨by omega, by omega, ?_⟩
  have rl : (rngL 0 ((a.length : Int) + (b.length : Int)).toNat).length = a.length + b.length := by rw [rngL_len]; omega
  refine lc_int (fun n => valueM a (n : Int) * valueM b (n : Int)) (by rw [rl]; omega) (fun i d Q hd hi hq => ?_) ?_
  · obtain ⟨_, rfl⟩ := rng_get hd
    rw [rl] at hi
    simp only [seqD, setD, ownD, conD, varD, varB, binD, iopD, subD, fdivD, modD, powD, ltD, leD, gtD, geD, addD, mulD, catD, repD, eqD, neD, isND, notND, consA, nilA, lstD, tupD, callB, callD, lenD, toIntD, toListD, toTupD, ixD, slD, slL, slT, noO, someO, revD, tstD, truD, andT, orT, notT, andV, orV, notV, ifeD, negD, chnD, retD, retN, ifD, nextD, shareD, dropD, augD, appD, extD, stiD, gN, gsNil, gsCons, gT, gLD, asgD, breakD, contD, fldD, prpD, mthD, makD, sfdD, insOf, oopD, oeqD, aeqD, lrgD, lcPopD, isBD, notBD, ogtD, rseD, isiD, tryV, dropX, ogtX, callX, setX, retX, yesT, max2D, min2D, zipD, enumD, overD, rng1D, rng2D, sumD, allD, anyD, lcD_eq, startD, startI, wipeD, List.map_cons, List.map_nil, List.length_cons, List.length_nil, List.replicate_succ, List.replicate_zero, List.cons_append, List.nil_append, List.set_cons_succ, List.set_cons_zero, List.getElem?_cons_zero, List.getElem?_cons_succ, Nat.reduceAdd, Nat.reduceSub, Nat.reduceLT, Option.some.injEq, true_and, and_true, Int.zero_add]
    have hN : (i : Int).natAbs < 2 ^ 12 := by omega
    have va : (valueM a (i : Int)).natAbs < _ := value_bd ha hN (by omega)
    have vb : (valueM b (i : Int)).natAbs < _ := value_bd hb hN (by omega)
    exact ⟨a, _, B, 12, rfl, ha, hN, by omega, by omega, by omega, b, _, B, 12, rfl, hb, hN, by omega, by omega, by omega, mulW_of va vb (by omega), hq⟩
  · rw [rl]
    exact ⟨_, B, rfl, by rw [List.length_map, List.length_range]; omega, hp⟩
/-! ### class Counted -/
variable {C : Addr}
def S_init (C : Addr) : SpD := fun ds P _ => ∃ (fs ps : List Int) (B N : Nat), ds = [L fs, L ps] ∧ Bd B ps ∧ fs.length < 2 ^ N ∧ ps.length ≤ 2 ^ N ∧ ps.length ≤ 4000 ∧ B + (N + 1) * (ps.length + 1) + 1 ≤ 400000 ∧ P (ct C (needM fs (trimM ps)) (trimM ps))
theorem sc_Counted_XinitX : FnScope ["self", "firsts", "poly"] ["self", "firsts", "poly"] (defScope s_Counted_XinitX) := ⟨rfl, rfl, rfl, by decide +kernel, rfl, by decide +kernel, by decide +kernel⟩
theorem ok_init {f : Addr} {fd : FuncData} (F : Fun K "__init__" "Counted.__init__" s_Counted_XinitX f fd) (Z : Zs mg) (T_Counted : CtT K mg C) (h_trimmed : Fd P w K mg base "trimmed" 1 ["poly"] S_trimmed) (h_needed : Fd P w K mg base "needed" 3 ["firsts", "poly"] S_needed) : FnOk P w K mg base (L2.CX P w) 4 f fd ["self", "firsts", "poly"] (spInit K C (S_init C)) := by
  refine init_mk F sc_Counted_XinitX (fun ds P PX h => by obtain ⟨t, k, B, n, rfl, _⟩ := h; rfl) ⟨_, fun cdv A outer s H E hr => (dss_cons (ds_sfd (i := 0) T_Counted.cls T_Counted.n_tail (pv 0) (d_call h_trimmed (hr.mono (by decide)) (by rfl) (da_cons (dv 2) da_nil)))
      (dss_one (ds_sfd (i := 0) T_Counted.cls T_Counted.n_head (pv 0) (d_call h_needed (hr.mono (by decide)) (by rfl) (da_cons (dv 1) (da_cons (d_fld T_Counted.cls T_Counted.n_tail (dvb 0)) da_nil)))))), ?_⟩ (fun ds P PX h => h)
  rintro ds P ⟨fs, ps, B, N, rfl, hb, hf, hl, hl2, hm, hp⟩ y
  simp only [seqD, setD, ownD, conD, varD, varB, binD, iopD, subD, fdivD, modD, powD, ltD, leD, gtD, geD, addD, mulD, catD, repD, eqD, neD, isND, notND, consA, nilA, lstD, tupD, callB, callD, lenD, toIntD, toListD, toTupD, ixD, slD, slL, slT, noO, someO, revD, tstD, truD, andT, orT, notT, andV, orV, notV, ifeD, negD, chnD, retD, retN, ifD, nextD, shareD, dropD, augD, appD, extD, stiD, gN, gsNil, gsCons, gT, gLD, asgD, breakD, contD, fldD, prpD, mthD, makD, sfdD, insOf, oopD, oeqD, aeqD, lrgD, lcPopD, isBD, notBD, ogtD, rseD, isiD, tryV, dropX, ogtX, callX, setX, retX, yesT, max2D, min2D, zipD, enumD, overD, rng1D, rng2D, sumD, allD, anyD, lcD_eq, startD, startI, wipeD, List.map_cons, List.map_nil, List.length_cons, List.length_nil, List.replicate_succ, List.replicate_zero, List.cons_append, List.nil_append, List.set_cons_succ, List.set_cons_zero, List.getElem?_cons_zero, List.getElem?_cons_succ, Nat.reduceAdd, Nat.reduceSub, Nat.reduceLT, Option.some.injEq, true_and, and_true, Int.zero_add, List.length_map]
  have hlt : (trimM ps).length ≤ ps.length := trimM_len ps
  have hmu : (N + 1) * ((trimM ps).length + 1) ≤ (N + 1) * (ps.length + 1) := Nat.mul_le_mul_left _ (by omega)
  exact ⟨by simp, ps, rfl, by decide, _, rfl, fs, trimM ps, B, N, rfl, trimM_bd hb, hf, by omega, by omega, by omega, _, rfl, hp⟩
def S_begin (C : Addr) : SpD := fun ds P _ => ∃ h t : List Int, ds = [ct C h t] ∧ P (.int h.length)
theorem sc_Counted_begin : FnScope ["self"] ["self"] (defScope s_Counted_begin) := ⟨rfl, rfl, rfl, by decide +kernel, rfl, by decide +kernel, by decide +kernel⟩
theorem ok_begin {f : Addr} {fd : FuncData} (F : Fun K "begin" "Counted.begin" s_Counted_begin f fd) (Z : Zs mg) (T_Counted : CtT K mg C) : FnOk P w K mg base (L2.CX P w) 1 f fd ["self"] (spOf K (S_begin C)) := by
  refine fn_mk F sc_Counted_begin (fun ds P PX h => by obtain ⟨t, k, rfl, _⟩ := h; rfl) ⟨_, fun cdv A outer s H E hr => (dss_one (ds_ret (d_callB b_len (by rfl) Z.len bt_len (db_cons (d_fld T_Counted.cls T_Counted.n_head (dvb 0)).bo db_nil)))), ?_⟩ (fun ds P PX h => h)
  rintro ds P ⟨h, t, rfl, hp⟩
  simp only [seqD, setD, ownD, conD, varD, varB, binD, iopD, subD, fdivD, modD, powD, ltD, leD, gtD, geD, addD, mulD, catD, repD, eqD, neD, isND, notND, consA, nilA, lstD, tupD, callB, callD, lenD, toIntD, toListD, toTupD, ixD, slD, slL, slT, noO, someO, revD, tstD, truD, andT, orT, notT, andV, orV, notV, ifeD, negD, chnD, retD, retN, ifD, nextD, shareD, dropD, augD, appD, extD, stiD, gN, gsNil, gsCons, gT, gLD, asgD, breakD, contD, fldD, prpD, mthD, makD, sfdD, insOf, oopD, oeqD, aeqD, lrgD, lcPopD, isBD, notBD, ogtD, rseD, isiD, tryV, dropX, ogtX, callX, setX, retX, yesT, max2D, min2D, zipD, enumD, overD, rng1D, rng2D, sumD, allD, anyD, lcD_eq, startD, startI, wipeD, List.map_cons, List.map_nil, List.length_cons, List.length_nil, List.replicate_succ, List.replicate_zero, List.cons_append, List.nil_append, List.set_cons_succ, List.set_cons_zero, List.getElem?_cons_zero, List.getElem?_cons_succ, Nat.reduceAdd, Nat.reduceSub, Nat.reduceLT, Option.some.injEq, true_and, and_true, Int.zero_add, List.length_map, ct, at_h, at_t, exists_eq_left']
  exact hp
def S_firsts (C : Addr) : SpD := fun ds P _ => ∃ h t : List Int, ds = [ct C h t] ∧ P (L h)
theorem sc_Counted_firsts : FnScope ["self"] ["self"] (defScope s_Counted_firsts) := ⟨rfl, rfl, rfl, by decide +kernel, rfl, by decide +kernel, by decide +kernel⟩
theorem ok_firsts {f : Addr} {fd : FuncData} (F : Fun K "firsts" "Counted.firsts" s_Counted_firsts f fd) (Z : Zs mg) (T_Counted : CtT K mg C) : FnOk P w K mg base (L2.CX P w) 1 f fd ["self"] (spOf K (S_firsts C)) := by
  refine fn_mk F sc_Counted_firsts (fun ds P PX h => by obtain ⟨t, k, rfl, _⟩ := h; rfl) ⟨_, fun cdv A outer s H E hr => (dss_one (ds_ret (f_callTy t_list (by rfl) Z.list bt_list (db_cons (d_fld T_Counted.cls T_Counted.n_head (dvb 0)).bo db_nil)).d)), ?_⟩ (fun ds P PX h => h)
  rintro ds P ⟨h, t, rfl, hp⟩
  simp only [seqD, setD, ownD, conD, varD, varB, binD, iopD, subD, fdivD, modD, powD, ltD, leD, gtD, geD, addD, mulD, catD, repD, eqD, neD, isND, notND, consA, nilA, lstD, tupD, callB, callD, lenD, toIntD, toListD, toTupD, ixD, slD, slL, slT, noO, someO, revD, tstD, truD, andT, orT, notT, andV, orV, notV, ifeD, negD, chnD, retD, retN, ifD, nextD, shareD, dropD, augD, appD, extD, stiD, gN, gsNil, gsCons, gT, gLD, asgD, breakD, contD, fldD, prpD, mthD, makD, sfdD, insOf, oopD, oeqD, aeqD, lrgD, lcPopD, isBD, notBD, ogtD, rseD, isiD, tryV, dropX, ogtX, callX, setX, retX, yesT, max2D, min2D, zipD, enumD, overD, rng1D, rng2D, sumD, allD, anyD, lcD_eq, startD, startI, wipeD, List.map_cons, List.map_nil, List.length_cons, List.length_nil, List.replicate_succ, List.replicate_zero, List.cons_append, List.nil_append, List.set_cons_succ, List.set_cons_zero, List.getElem?_cons_zero, List.getElem?_cons_succ, Nat.reduceAdd, Nat.reduceSub, Nat.reduceLT, Option.some.injEq, true_and, and_true, Int.zero_add, List.length_map, ct, at_h, at_t, exists_eq_left']
  exact hp
def S_poly (C : Addr) : SpD := fun ds P _ => ∃ h t : List Int, ds = [ct C h t] ∧ P (L t)
theorem sc_Counted_poly : FnScope ["self"] ["self"] (defScope s_Counted_poly) := ⟨rfl, rfl, rfl, by decide +kernel, rfl, by decide +kernel, by decide +kernel⟩
theorem ok_poly {f : Addr} {fd : FuncData} (F : Fun K "poly" "Counted.poly" s_Counted_poly f fd) (Z : Zs mg) (T_Counted : CtT K mg C) : FnOk P w K mg base (L2.CX P w) 1 f fd ["self"] (spOf K (S_poly C)) := by
  refine fn_mk F sc_Counted_poly (fun ds P PX h => by obtain ⟨t, k, rfl, _⟩ := h; rfl) ⟨_, fun cdv A outer s H E hr => (dss_one (ds_ret (f_callTy t_list (by rfl) Z.list bt_list (db_cons (d_fld T_Counted.cls T_Counted.n_tail (dvb 0)).bo db_nil)).d)), ?_⟩ (fun ds P PX h => h)
  rintro ds P ⟨h, t, rfl, hp⟩
  simp only [seqD, setD, ownD, conD, varD, varB, binD, iopD, subD, fdivD, modD, powD, ltD, leD, gtD, geD, addD, mulD, catD, repD, eqD, neD, isND, notND, consA, nilA, lstD, tupD, callB, callD, lenD, toIntD, toListD, toTupD, ixD, slD, slL, slT, noO, someO, revD, tstD, truD, andT, orT, notT, andV, orV, notV, ifeD, negD, chnD, retD, retN, ifD, nextD, shareD, dropD, augD, appD, extD, stiD, gN, gsNil, gsCons, gT, gLD, asgD, breakD, contD, fldD, prpD, mthD, makD, sfdD, insOf, oopD, oeqD, aeqD, lrgD, lcPopD, isBD, notBD, ogtD, rseD, isiD, tryV, dropX, ogtX, callX, setX, retX, yesT, max2D, min2D, zipD, enumD, overD, rng1D, rng2D, sumD, allD, anyD, lcD_eq, startD, startI, wipeD, List.map_cons, List.map_nil, List.length_cons, List.length_nil, List.replicate_succ, List.replicate_zero, List.cons_append, List.nil_append, List.set_cons_succ, List.set_cons_zero, List.getElem?_cons_zero, List.getElem?_cons_succ, Nat.reduceAdd, Nat.reduceSub, Nat.reduceLT, Option.some.injEq, true_and, and_true, Int.zero_add, List.length_map, ct, at_h, at_t, exists_eq_left']
  exact hp
def S_getitem (C CI : Addr) : SpD := fun ds P PX => ∃ (h t : List Int) (n : Int), ds = [ct C h t, .int n] ∧ (n < 0 → PX CI (.int n)) ∧ (0 ≤ n → ∃ B N : Nat, Bd B t ∧ n.natAbs < 2 ^ N ∧ t.length ≤ 2 ^ N ∧ t.length ≤ 4000 ∧ B + (N + 1) * (t.length + 1) + 1 ≤ 400000 ∧ P (.int (numM h t n)))
theorem sc_Counted_XgetitemX : FnScope ["self", "n"] ["self", "n"] (defScope s_Counted_XgetitemX) := ⟨rfl, rfl, rfl, by decide +kernel, rfl, by decide +kernel, by decide +kernel⟩
theorem ok_getitem {CI : Addr} {f : Addr} {fd : FuncData} (F : Fun K "__getitem__" "Counted.__getitem__" s_Counted_XgetitemX f fd) (Z : Zs mg) (T_Counted : CtT K mg C) (X_InvalidNumber : XcT P w K mg base "InvalidNumber" CI) (h_number_at : Fd P w K mg base "number_at" 3 ["firsts", "poly", "n"] S_number_at) : FnOk P w K mg base (L2.CX P w) 4 f fd ["self", "n"] (spOf K (S_getitem C CI)) := by
  refine fn_mkX F sc_Counted_XgetitemX (fun ds P PX h => by obtain ⟨t, k, n, rfl, _⟩ := h; rfl) ⟨_, fun cdv A outer s H E hr => (dss_cons (ds_if (dt_cmp o_lt (dvb 1) d_int.bo) (dss_one (ds_raise rfl (takes_of rfl rfl rfl rfl) X_InvalidNumber (hr.mono (by decide)) (by rfl) (dv 1))) dss_nil)
      (dss_one (ds_ret (d_call h_number_at (hr.mono (by decide)) (by rfl) (da_cons (d_fld T_Counted.cls T_Counted.n_head (dvb 0)) (da_cons (d_fld T_Counted.cls T_Counted.n_tail (dvb 0)) (da_cons (dv 1) da_nil))))))), ?_⟩
  rintro ds P PX ⟨h, t, n, rfl, h1, h2⟩
  simp only [seqD, setD, ownD, conD, varD, varB, binD, iopD, subD, fdivD, modD, powD, ltD, leD, gtD, geD, addD, mulD, catD, repD, eqD, neD, isND, notND, consA, nilA, lstD, tupD, callB, callD, lenD, toIntD, toListD, toTupD, ixD, slD, slL, slT, noO, someO, revD, tstD, truD, andT, orT, notT, andV, orV, notV, ifeD, negD, chnD, retD, retN, ifD, nextD, shareD, dropD, augD, appD, extD, stiD, gN, gsNil, gsCons, gT, gLD, asgD, breakD, contD, fldD, prpD, mthD, makD, sfdD, insOf, oopD, oeqD, aeqD, lrgD, lcPopD, isBD, notBD, ogtD, rseD, isiD, tryV, dropX, ogtX, callX, setX, retX, yesT, max2D, min2D, zipD, enumD, overD, rng1D, rng2D, sumD, allD, anyD, lcD_eq, startD, startI, wipeD, List.map_cons, List.map_nil, List.length_cons, List.length_nil, List.replicate_succ, List.replicate_zero, List.cons_append, List.nil_append, List.set_cons_succ, List.set_cons_zero, List.getElem?_cons_zero, List.getElem?_cons_succ, Nat.reduceAdd, Nat.reduceSub, Nat.reduceLT, Option.some.injEq, true_and, and_true, Int.zero_add, List.length_map, ct, at_h, at_t, exists_eq_left']
  by_cases hn : n < 0
  · rw [decide_eq_true hn, if_pos rfl]
    exact h1 hn
  · rw [decide_eq_false hn, if_neg Bool.false_ne_true]
    obtain ⟨B, N, b1, b2, b3, b4, b5, hp⟩ := h2 (by omega)
    exact ⟨h, t, n, B, N, rfl, by omega, b1, b2, b3, b4, b5, hp⟩
/-! ### + - * -/
end
theorem prodM_bd {B : Nat} {a b : List Int} {l : Nat} (ha : Bd B a) (hb : Bd B b) (la : a.length ≤ l) (lb : b.length ≤ l) (hl : l ≤ 1000) : Bd (2 * B + 28 * l + 2) (prodM a b) := by
  have h : Bd (2 * B + 26 * l + 2) ((List.range (a.length + b.length)).map fun n : Nat => valueM a (n : Int) * valueM b (n : Int)) := fun x hx => by
    obtain ⟨i, hi, rfl⟩ := List.mem_map.mp hx
    have hi := List.mem_range.mp hi
    have hN : (i : Int).natAbs < 2 ^ 11 := by omega
    exact lt2 (wide_lt (value_bd ha hN (by omega)) (value_bd hb hN (by omega))) (by omega)
  have h2 := newtonM_bd h
  rw [List.length_map, List.length_range] at h2
  exact (trimM_bd h2).mono (by omega)
theorem prodM_len {a b : List Int} : (prodM a b).length ≤ a.length + b.length := by
  refine Nat.le_trans (trimM_len _) ?_
  unfold newtonM
  rw [List.length_map, List.length_range, List.length_map, List.length_range]
  exact Nat.le_refl _
theorem num_small {B l : Nat} {h t : List Int} {n : Nat} (hh : Bd B h) (ht : Bd B t) (hn : n < 1000) (hl : t.length ≤ l) (l1 : l ≤ 1000) : (numM h t (n : Nat)).natAbs < 2 ^ (B + 12 * l + 1) :=
  lt2 (numM_bd (N := 10) hh ht (by omega) (by omega)) (by omega)
section
variable {P : Program} {w : World} {K : PySem.W.Frag} {mg : Str → Option Value} {base : Heap} {C : Addr}
def S_op (C : Addr) (op : Int → Int → Int) (po : List Int → List Int → List Int) : SpD := fun ds P _ => ∃ (h1 t1 h2 t2 : List Int) (B l : Nat), ds = [ct C h1 t1, ct C h2 t2] ∧ Bd B h1 ∧ Bd B t1 ∧ Bd B h2 ∧ Bd B t2 ∧ h1.length ≤ l ∧ t1.length ≤ l ∧ h2.length ≤ l ∧ t2.length ≤ l ∧ l ≤ 1000 ∧ 2 * B + 70 * (l + 1) ≤ 300000 ∧
  P (ct C (needM ((List.range (max h1.length h2.length)).map fun n => op (numM h1 t1 (n : Nat)) (numM h2 t2 (n : Nat))) (trimM (po t1 t2))) (trimM (po t1 t2)))
theorem sc_Counted_XaddX : FnScope ["self", "other", "size", "firsts", "n"] ["self", "other"] (defScope s_Counted_XaddX) := ⟨rfl, rfl, rfl, by decide +kernel, rfl, by decide +kernel, by decide +kernel⟩
theorem ok_add {CI : Addr} {f : Addr} {fd : FuncData} (F : Fun K "__add__" "Counted.__add__" s_Counted_XaddX f fd) (Z : Zs mg) (T_Counted : CtT K mg C) (h_Counted : Cd P w K mg base "Counted" C 4 ["self", "firsts", "poly"] (S_init C)) (h_Counted_XgetitemX : Gd P w K mg base C 4 ["self", "n"] (S_getitem C CI)) (h_added : Fd P w K mg base "added" 1 ["one", "other", "factor"] S_added) : FnOk P w K mg base (L2.CX P w) 6 f fd ["self", "other"] (spOf K (S_op C (fun x y => x + y) (fun a b => addM a b 1))) := by
  refine fn_mk F sc_Counted_XaddX (fun ds P PX h => by obtain ⟨t, k, n, m, B, l, rfl, _⟩ := h; rfl) ⟨_, fun cdv A outer s H E hr => (dss_cons (ds_set (i := 2) sc_Counted_XaddX.nd rfl (Or.inl rfl) (d_callB (b_max2 rfl) (by rfl) Z.max bt_max (db_cons (d_callB b_len (by rfl) Z.len bt_len (db_cons (d_fld T_Counted.cls T_Counted.n_head (dvb 0)).bo db_nil)).bo (db_cons (d_callB b_len (by rfl) Z.len bt_len (db_cons (d_fld T_Counted.cls T_Counted.n_head (dvb 1)).bo db_nil)).bo db_nil))))
      (dss_cons (ds_setLc (i := 3) rfl sc_Counted_XaddX.nd rfl rfl (sw_true rfl rfl rfl (by decide +kernel)) (di_rng1 (by rfl) Z.range (db_cons (dvb 2) db_nil)) (blkOk_by (own := [("n", 4)]) (N := ["self", "other", "size", "firsts", "n"]) (sc := defScope s_Counted_XaddX) (by decide +kernel)) (fun _ _ _ _ _ => (pg_name (i := 4) sc_Counted_XaddX.nd rfl (by first | exact Or.inl rfl | exact Or.inr rfl))) (tg_name (i := 4)) (fun _ _ _ _ _ => dts_nil) (fun _ _ _ _ _ => (d_op o_add (d_ownget h_Counted_XgetitemX (hr.mono (by decide)) (dv 0) (dv 4)).bo (d_ownget h_Counted_XgetitemX (hr.mono (by decide)) (dv 1) (dv 4)).bo)))
      (dss_one (ds_ret (d_make h_Counted (hr.mono (by decide)) (by rfl) (da_cons (dv 3) (da_cons (d_call h_added (hr.mono (by decide)) (by rfl) (da_cons (d_fld T_Counted.cls T_Counted.n_tail (dvb 0)) (da_cons (d_fld T_Counted.cls T_Counted.n_tail (dvb 1)) (da_cons d_int da_nil)))) da_nil))).d)))), ?_⟩ (fun ds P PX h => h)
  rintro ds P ⟨h1, t1, h2, t2, B, l, rfl, bh1, bt1, bh2, bt2, lh1, lt1, lh2, lt2, ll, hm, hp⟩
  simp only [seqD, setD, ownD, conD, varD, varB, binD, iopD, subD, fdivD, modD, powD, ltD, leD, gtD, geD, addD, mulD, catD, repD, eqD, neD, isND, notND, consA, nilA, lstD, tupD, callB, callD, lenD, toIntD, toListD, toTupD, ixD, slD, slL, slT, noO, someO, revD, tstD, truD, andT, orT, notT, andV, orV, notV, ifeD, negD, chnD, retD, retN, ifD, nextD, shareD, dropD, augD, appD, extD, stiD, gN, gsNil, gsCons, gT, gLD, asgD, breakD, contD, fldD, prpD, mthD, makD, sfdD, insOf, oopD, oeqD, aeqD, lrgD, lcPopD, isBD, notBD, ogtD, rseD, isiD, tryV, dropX, ogtX, callX, setX, retX, yesT, max2D, min2D, zipD, enumD, overD, rng1D, rng2D, sumD, allD, anyD, lcD_eq, startD, startI, wipeD, List.map_cons, List.map_nil, List.length_cons, List.length_nil, List.replicate_succ, List.replicate_zero, List.cons_append, List.nil_append, List.set_cons_succ, List.set_cons_zero, List.getElem?_cons_zero, List.getElem?_cons_succ, Nat.reduceAdd, Nat.reduceSub, Nat.reduceLT, Option.some.injEq, true_and, and_true, Int.zero_add, List.length_map, ct, at_h, at_t, exists_eq_left']
  intro m e1 e2 e3
  obtain rfl : m = ((max h1.length h2.length : Nat) : Int) := by omega
  rw [Int.toNat_natCast]
  refine ⟨by omega, by omega, ?_⟩
  refine lc_int (fun n => numM h1 t1 (n : Nat) + numM h2 t2 (n : Nat)) (by rw [rngL_len]; omega) (fun i d Q hd hi hq => ?_) ?_
  · obtain ⟨hi, rfl⟩ := rng_get hd
    simp only [seqD, setD, ownD, conD, varD, varB, binD, iopD, subD, fdivD, modD, powD, ltD, leD, gtD, geD, addD, mulD, catD, repD, eqD, neD, isND, notND, consA, nilA, lstD, tupD, callB, callD, lenD, toIntD, toListD, toTupD, ixD, slD, slL, slT, noO, someO, revD, tstD, truD, andT, orT, notT, andV, orV, notV, ifeD, negD, chnD, retD, retN, ifD, nextD, shareD, dropD, augD, appD, extD, stiD, gN, gsNil, gsCons, gT, gLD, asgD, breakD, contD, fldD, prpD, mthD, makD, sfdD, insOf, oopD, oeqD, aeqD, lrgD, lcPopD, isBD, notBD, ogtD, rseD, isiD, tryV, dropX, ogtX, callX, setX, retX, yesT, max2D, min2D, zipD, enumD, overD, rng1D, rng2D, sumD, allD, anyD, lcD_eq, startD, startI, wipeD, List.map_cons, List.map_nil, List.length_cons, List.length_nil, List.replicate_succ, List.replicate_zero, List.cons_append, List.nil_append, List.set_cons_succ, List.set_cons_zero, List.getElem?_cons_zero, List.getElem?_cons_succ, Nat.reduceAdd, Nat.reduceSub, Nat.reduceLT, Option.some.injEq, true_and, and_true, Int.zero_add, List.length_map, ct, at_h, at_t, exists_eq_left']
    have i1 : (i : Int).natAbs < 2 ^ 10 := by omega
    have n1 : (numM h1 t1 (i : Nat)).natAbs < _ := num_small bh1 bt1 (by omega) lt1 ll
    have n2 : (numM h2 t2 (i : Nat)).natAbs < _ := num_small bh2 bt2 (by omega) lt2 ll
    exact ⟨h1, t1, (i : Int), rfl, fun h => absurd h (by omega), fun _ => ⟨B, 10, bt1, i1, by omega, by omega, by omega, h2, t2, (i : Int), rfl, fun h => absurd h (by omega), fun _ => ⟨B, 10, bt2, i1, by omega, by omega, by omega, hq⟩⟩⟩
  · rw [rngL_len]
    have l2 := addM_len t1 t2 1
    refine ⟨t1, t2, 1, B, 1, rfl, bt1, bt2, by decide, by omega, by omega, by omega, ?_⟩
    refine ⟨_, _, B + 1 + 1, 12, rfl, addM_bd bt1 bt2 (by decide), ?_, by omega, by omega, by omega, hp⟩
    rw [List.length_map, List.length_range]; omega
theorem sc_Counted_XsubX : FnScope ["self", "other", "size", "firsts", "n"] ["self", "other"] (defScope s_Counted_XsubX) := ⟨rfl, rfl, rfl, by decide +kernel, rfl, by decide +kernel, by decide +kernel⟩
theorem ok_sub {CI : Addr} {f : Addr} {fd : FuncData} (F : Fun K "__sub__" "Counted.__sub__" s_Counted_XsubX f fd) (Z : Zs mg) (T_Counted : CtT K mg C) (h_Counted : Cd P w K mg base "Counted" C 4 ["self", "firsts", "poly"] (S_init C)) (h_Counted_XgetitemX : Gd P w K mg base C 4 ["self", "n"] (S_getitem C CI)) (h_added : Fd P w K mg base "added" 1 ["one", "other", "factor"] S_added) : FnOk P w K mg base (L2.CX P w) 6 f fd ["self", "other"] (spOf K (S_op C (fun x y => x - y) (fun a b => addM a b (-1)))) := by
  refine fn_mk F sc_Counted_XsubX (fun ds P PX h => by obtain ⟨t, k, n, m, B, l, rfl, _⟩ := h; rfl) ⟨_, fun cdv A outer s H E hr => (dss_cons (ds_set (i := 2) sc_Counted_XsubX.nd rfl (Or.inl rfl) (d_callB (b_max2 rfl) (by rfl) Z.max bt_max (db_cons (d_callB b_len (by rfl) Z.len bt_len (db_cons (d_fld T_Counted.cls T_Counted.n_head (dvb 0)).bo db_nil)).bo (db_cons (d_callB b_len (by rfl) Z.len bt_len (db_cons (d_fld T_Counted.cls T_Counted.n_head (dvb 1)).bo db_nil)).bo db_nil))))
      (dss_cons (ds_setLc (i := 3) rfl sc_Counted_XsubX.nd rfl rfl (sw_true rfl rfl rfl (by decide +kernel)) (di_rng1 (by rfl) Z.range (db_cons (dvb 2) db_nil)) (blkOk_by (own := [("n", 4)]) (N := ["self", "other", "size", "firsts", "n"]) (sc := defScope s_Counted_XsubX) (by decide +kernel)) (fun _ _ _ _ _ => (pg_name (i := 4) sc_Counted_XsubX.nd rfl (by first | exact Or.inl rfl | exact Or.inr rfl))) (tg_name (i := 4)) (fun _ _ _ _ _ => dts_nil) (fun _ _ _ _ _ => (d_op o_sub (d_ownget h_Counted_XgetitemX (hr.mono (by decide)) (dv 0) (dv 4)).bo (d_ownget h_Counted_XgetitemX (hr.mono (by decide)) (dv 1) (dv 4)).bo)))
      (dss_one (ds_ret (d_make h_Counted (hr.mono (by decide)) (by rfl) (da_cons (dv 3) (da_cons (d_call h_added (hr.mono (by decide)) (by rfl) (da_cons (d_fld T_Counted.cls T_Counted.n_tail (dvb 0)) (da_cons (d_fld T_Counted.cls T_Counted.n_tail (dvb 1)) (da_cons (d_neg d_int.bo) da_nil)))) da_nil))).d)))), ?_⟩ (fun ds P PX h => h)
  rintro ds P ⟨h1, t1, h2, t2, B, l, rfl, bh1, bt1, bh2, bt2, lh1, lt1, lh2, lt2, ll, hm, hp⟩
  simp only [seqD, setD, ownD, conD, varD, varB, binD, iopD, subD, fdivD, modD, powD, ltD, leD, gtD, geD, addD, mulD, catD, repD, eqD, neD, isND, notND, consA, nilA, lstD, tupD, callB, callD, lenD, toIntD, toListD, toTupD, ixD, slD, slL, slT, noO, someO, revD, tstD, truD, andT, orT, notT, andV, orV, notV, ifeD, negD, chnD, retD, retN, ifD, nextD, shareD, dropD, augD, appD, extD, stiD, gN, gsNil, gsCons, gT, gLD, asgD, breakD, contD, fldD, prpD, mthD, makD, sfdD, insOf, oopD, oeqD, aeqD, lrgD, lcPopD, isBD, notBD, ogtD, rseD, isiD, tryV, dropX, ogtX, callX, setX, retX, yesT, max2D, min2D, zipD, enumD, overD, rng1D, rng2D, sumD, allD, anyD, lcD_eq, startD, startI, wipeD, List.map_cons, List.map_nil, List.length_cons, List.length_nil, List.replicate_succ, List.replicate_zero, List.cons_append, List.nil_append, List.set_cons_succ, List.set_cons_zero, List.getElem?_cons_zero, List.getElem?_cons_succ, Nat.reduceAdd, Nat.reduceSub, Nat.reduceLT, Option.some.injEq, true_and, and_true, Int.zero_add, List.length_map, ct, at_h, at_t, exists_eq_left']
  intro m e1 e2 e3
  obtain rfl : m = ((max h1.length h2.length : Nat) : Int) := by omega
  rw [Int.toNat_natCast]
  refine ⟨by omega, by omega, ?_⟩
  refine lc_int (fun n => numM h1 t1 (n : Nat) - numM h2 t2 (n : Nat)) (by rw [rngL_len]; omega) (fun i d Q hd hi hq => ?_) ?_
  · obtain ⟨hi, rfl⟩ := rng_get hd
    simp only [seqD, setD, ownD, conD, varD, varB, binD, iopD, subD, fdivD, modD, powD, ltD, leD, gtD, geD, addD, mulD, catD, repD, eqD, neD, isND, notND, consA, nilA, lstD, tupD, callB, callD, lenD, toIntD, toListD, toTupD, ixD, slD, slL, slT, noO, someO, revD, tstD, truD, andT, orT, notT, andV, orV, notV, ifeD, negD, chnD, retD, retN, ifD, nextD, shareD, dropD, augD, appD, extD, stiD, gN, gsNil, gsCons, gT, gLD, asgD, breakD, contD, fldD, prpD, mthD, makD, sfdD, insOf, oopD, oeqD, aeqD, lrgD, lcPopD, isBD, notBD, ogtD, rseD, isiD, tryV, dropX, ogtX, callX, setX, retX, yesT, max2D, min2D, zipD, enumD, overD, rng1D, rng2D, sumD, allD, anyD, lcD_eq, startD, startI, wipeD, List.map_cons, List.map_nil, List.length_cons, List.length_nil, List.replicate_succ, List.replicate_zero, List.cons_append, List.nil_append, List.set_cons_succ, List.set_cons_zero, List.getElem?_cons_zero, List.getElem?_cons_succ, Nat.reduceAdd, Nat.reduceSub, Nat.reduceLT, Option.some.injEq, true_and, and_true, Int.zero_add, List.length_map, ct, at_h, at_t, exists_eq_left']
    have i1 : (i : Int).natAbs < 2 ^ 10 := by omega
    have n1 : (numM h1 t1 (i : Nat)).natAbs < _ := num_small bh1 bt1 (by omega) lt1 ll
    have n2 : (numM h2 t2 (i : Nat)).natAbs < _ := num_small bh2 bt2 (by omega) lt2 ll
    exact ⟨h1, t1, (i : Int), rfl, fun h => absurd h (by omega), fun _ => ⟨B, 10, bt1, i1, by omega, by omega, by omega, h2, t2, (i : Int), rfl, fun h => absurd h (by omega), fun _ => ⟨B, 10, bt2, i1, by omega, by omega, by omega, hq⟩⟩⟩
  · rw [rngL_len]
    have l2 := addM_len t1 t2 (-1)
    refine ⟨t1, t2, (-1), B, 1, rfl, bt1, bt2, by decide, by omega, by omega, by omega, ?_⟩
    refine ⟨_, _, B + 1 + 1, 12, rfl, addM_bd bt1 bt2 (by decide), ?_, by omega, by omega, by omega, hp⟩
    rw [List.length_map, List.length_range]; omega
theorem sc_Counted_XmulX : FnScope ["self", "other", "size", "firsts", "n"] ["self", "other"] (defScope s_Counted_XmulX) := ⟨rfl, rfl, rfl, by decide +kernel, rfl, by decide +kernel, by decide +kernel⟩
theorem ok_mul {CI : Addr} {f : Addr} {fd : FuncData} (F : Fun K "__mul__" "Counted.__mul__" s_Counted_XmulX f fd) (Z : Zs mg) (T_Counted : CtT K mg C) (h_Counted : Cd P w K mg base "Counted" C 4 ["self", "firsts", "poly"] (S_init C)) (h_Counted_XgetitemX : Gd P w K mg base C 4 ["self", "n"] (S_getitem C CI)) (h_product : Fd P w K mg base "product" 3 ["one", "other"] S_product) : FnOk P w K mg base (L2.CX P w) 6 f fd ["self", "other"] (spOf K (S_op C (fun x y => x * y) (prodM))) := by
  refine fn_mk F sc_Counted_XmulX (fun ds P PX h => by obtain ⟨t, k, n, m, B, l, rfl, _⟩ := h; rfl) ⟨_, fun cdv A outer s H E hr => (dss_cons (ds_set (i := 2) sc_Counted_XmulX.nd rfl (Or.inl rfl) (d_callB (b_max2 rfl) (by rfl) Z.max bt_max (db_cons (d_callB b_len (by rfl) Z.len bt_len (db_cons (d_fld T_Counted.cls T_Counted.n_head (dvb 0)).bo db_nil)).bo (db_cons (d_callB b_len (by rfl) Z.len bt_len (db_cons (d_fld T_Counted.cls T_Counted.n_head (dvb 1)).bo db_nil)).bo db_nil))))
      (dss_cons (ds_setLc (i := 3) rfl sc_Counted_XmulX.nd rfl rfl (sw_true rfl rfl rfl (by decide +kernel)) (di_rng1 (by rfl) Z.range (db_cons (dvb 2) db_nil)) (blkOk_by (own := [("n", 4)]) (N := ["self", "other", "size", "firsts", "n"]) (sc := defScope s_Counted_XmulX) (by decide +kernel)) (fun _ _ _ _ _ => (pg_name (i := 4) sc_Counted_XmulX.nd rfl (by first | exact Or.inl rfl | exact Or.inr rfl))) (tg_name (i := 4)) (fun _ _ _ _ _ => dts_nil) (fun _ _ _ _ _ => (d_op o_mul (d_ownget h_Counted_XgetitemX (hr.mono (by decide)) (dv 0) (dv 4)).bo (d_ownget h_Counted_XgetitemX (hr.mono (by decide)) (dv 1) (dv 4)).bo)))
      (dss_one (ds_ret (d_make h_Counted (hr.mono (by decide)) (by rfl) (da_cons (dv 3) (da_cons (d_call h_product (hr.mono (by decide)) (by rfl) (da_cons (d_fld T_Counted.cls T_Counted.n_tail (dvb 0)) (da_cons (d_fld T_Counted.cls T_Counted.n_tail (dvb 1)) da_nil))) da_nil))).d)))), ?_⟩ (fun ds P PX h => h)
  rintro ds P ⟨h1, t1, h2, t2, B, l, rfl, bh1, bt1, bh2, bt2, lh1, lt1, lh2, lt2, ll, hm, hp⟩
  simp only [seqD, setD, ownD, conD, varD, varB, binD, iopD, subD, fdivD, modD, powD, ltD, leD, gtD, geD, addD, mulD, catD, repD, eqD, neD, isND, notND, consA, nilA, lstD, tupD, callB, callD, lenD, toIntD, toListD, toTupD, ixD, slD, slL, slT, noO, someO, revD, tstD, truD, andT, orT, notT, andV, orV, notV, ifeD, negD, chnD, retD, retN, ifD, nextD, shareD, dropD, augD, appD, extD, stiD, gN, gsNil, gsCons, gT, gLD, asgD, breakD, contD, fldD, prpD, mthD, makD, sfdD, insOf, oopD, oeqD, aeqD, lrgD, lcPopD, isBD, notBD, ogtD, rseD, isiD, tryV, dropX, ogtX, callX, setX, retX, yesT, max2D, min2D, zipD, enumD, overD, rng1D, rng2D, sumD, allD, anyD, lcD_eq, startD, startI, wipeD, List.map_cons, List.map_nil, List.length_cons, List.length_nil, List.replicate_succ, List.replicate_zero, List.cons_append, List.nil_append, List.set_cons_succ, List.set_cons_zero, List.getElem?_cons_zero, List.getElem?_cons_succ, Nat.reduceAdd, Nat.reduceSub, Nat.reduceLT, Option.some.injEq, true_and, and_true, Int.zero_add, List.length_map, ct, at_h, at_t, exists_eq_left']
  intro m e1 e2 e3
  obtain rfl : m = ((max h1.length h2.length : Nat) : Int) := by omega
  rw [Int.toNat_natCast]
  refine ⟨by omega, by omega, ?_⟩
  refine lc_int (fun n => numM h1 t1 (n : Nat) * numM h2 t2 (n : Nat)) (by rw [rngL_len]; omega) (fun i d Q hd hi hq => ?_) ?_
  · obtain ⟨hi, rfl⟩ := rng_get hd
    simp only [seqD, setD, ownD, conD, varD, varB, binD, iopD, subD, fdivD, modD, powD, ltD, leD, gtD, geD, addD, mulD, catD, repD, eqD, neD, isND, notND, consA, nilA, lstD, tupD, callB, callD, lenD, toIntD, toListD, toTupD, ixD, slD, slL, slT, noO, someO, revD, tstD, truD, andT, orT, notT, andV, orV, notV, ifeD, negD, chnD, retD, retN, ifD, nextD, shareD, dropD, augD, appD, extD, stiD, gN, gsNil, gsCons, gT, gLD, asgD, breakD, contD, fldD, prpD, mthD, makD, sfdD, insOf, oopD, oeqD, aeqD, lrgD, lcPopD, isBD, notBD, ogtD, rseD, isiD, tryV, dropX, ogtX, callX, setX, retX, yesT, max2D, min2D, zipD, enumD, overD, rng1D, rng2D, sumD, allD, anyD, lcD_eq, startD, startI, wipeD, List.map_cons, List.map_nil, List.length_cons, List.length_nil, List.replicate_succ, List.replicate_zero, List.cons_append, List.nil_append, List.set_cons_succ, List.set_cons_zero, List.getElem?_cons_zero, List.getElem?_cons_succ, Nat.reduceAdd, Nat.reduceSub, Nat.reduceLT, Option.some.injEq, true_and, and_true, Int.zero_add, List.length_map, ct, at_h, at_t, exists_eq_left']
    have i1 : (i : Int).natAbs < 2 ^ 10 := by omega
    have n1 : (numM h1 t1 (i : Nat)).natAbs < _ := num_small bh1 bt1 (by omega) lt1 ll
    have n2 : (numM h2 t2 (i : Nat)).natAbs < _ := num_small bh2 bt2 (by omega) lt2 ll
    exact ⟨h1, t1, (i : Int), rfl, fun h => absurd h (by omega), fun _ => ⟨B, 10, bt1, i1, by omega, by omega, by omega, h2, t2, (i : Int), rfl, fun h => absurd h (by omega), fun _ => ⟨B, 10, bt2, i1, by omega, by omega, by omega, mulW_of n1 n2 (by omega), hq⟩⟩⟩
  · rw [rngL_len]
    have l2 := @prodM_len t1 t2
    refine ⟨t1, t2, B, rfl, bt1, bt2, by omega, by omega, by omega, ?_⟩
    refine ⟨_, _, 2 * B + 28 * l + 2, 12, rfl, prodM_bd bt1 bt2 lt1 lt2 ll, ?_, by omega, by omega, by omega, hp⟩
    rw [List.length_map, List.length_range]; omega
end
end KP

set_option Elab.async false
set_option linter.all false
set_option autoImplicit false
set_option maxRecDepth 100000
set_option maxHeartbeats 4000000
namespace KP
open PySem PySem.Spec PyProof.Rows L2 DL
/-! ### the numbers of a Counted -/
theorem dropN_true {t : Nat → Bool} : ∀ {n i : Nat}, dropN t n ≤ i → i < n → t i = true
  | 0, i, _, h => absurd h (by omega)
  | n + 1, i, h1, h2 => by
    cases ht : t n with
    | true =>
      rw [dropN_step ht] at h1
      by_cases e : i = n
      · rw [e, ht]
      · exact dropN_true h1 (by omega)
    | false =>
      rw [dropN_stop ht] at h1
      omega
theorem dropN_last {t : Nat → Bool} : ∀ {n k : Nat}, dropN t n = k + 1 → t k = false
  | 0, k, h => by cases h
  | n + 1, k, h => by
    cases ht : t n with
    | true => rw [dropN_step ht] at h; exact dropN_last h
    | false =>
      rw [dropN_stop ht] at h
      have : n = k := by omega
      rw [← this, ht]
theorem getD_take (xs : List Int) (k j : Nat) : (xs.take k).getD j 0 = if j < k then xs.getD j 0 else 0 := by
  rw [List.getD_eq_getElem?_getD, List.getD_eq_getElem?_getD, List.getElem?_take]
  split <;> rfl
theorem getD_big {xs : List Int} {j : Nat} (h : xs.length ≤ j) : xs.getD j 0 = 0 := by rw [List.getD_eq_getElem?_getD, List.getElem?_eq_none h]; rfl
theorem getD_map_range (n : Nat) (f : Nat → Int) (j : Nat) : ((List.range n).map f).getD j 0 = if j < n then f j else 0 := by
  rw [List.getD_eq_getElem?_getD, List.getElem?_map]
  by_cases h : j < n
  · rw [List.getElem?_range h, if_pos h]; rfl
  · rw [List.getElem?_eq_none (by simpa using Nat.le_of_not_lt h), if_neg h]; rfl
theorem cf_trim (p : List Int) : cf (trimM p) = cf p := by
  funext j
  unfold cf trimM
  rw [getD_take]
  split
  · rfl
  · by_cases hj : j < p.length
    · have := dropN_true (t := fun k => p.getD k 0 == 0) (n := p.length) (i := j) (by unfold trimN at *; omega) hj
      exact (beq_iff_eq.mp this).symm
    · exact (getD_big (by omega)).symm
theorem value_trim (p : List Int) (n : Nat) : valueM (trimM p) (n : Int) = valueM p (n : Int) := by rw [value_ev, value_ev, cf_trim]
theorem trim_last (p : List Int) : trimM p = [] ∨ (trimM p).getD ((trimM p).length - 1) 0 ≠ 0 := by
  have hl : (trimM p).length = trimN p := by unfold trimM; rw [List.length_take]; have := dropN_le (fun k => p.getD k 0 == 0) p.length; unfold trimN at *; omega
  cases e : trimN p with
  | zero => exact .inl (List.eq_nil_of_length_eq_zero (by rw [hl, e]))
  | succ k =>
    refine .inr ?_
    have := dropN_last (t := fun k => p.getD k 0 == 0) (n := p.length) (k := k) e
    rw [hl, e]
    unfold trimM
    rw [getD_take, if_pos (by omega), Nat.add_sub_cancel]
    simpa using this
theorem need_len (h t : List Int) : (needM h t).length = needN h t := by
  unfold needM; rw [List.length_take]
  have := dropN_le (fun k => h.getD k 0 == valueM t (k : Nat)) h.length
  unfold needN at *; omega
theorem need_get (h t : List Int) {j : Nat} (hj : j < (needM h t).length) : (needM h t).getD j 0 = h.getD j 0 := by
  have := need_len h t
  unfold needM
  rw [getD_take, if_pos (by omega)]
theorem numM_nat (h t : List Int) (n : Nat) : numM h t (n : Int) = if n < h.length then h.getD n 0 else valueM t (n : Int) := by
  unfold numM
  rw [Int.toNat_natCast]
  by_cases c : n < h.length
  · rw [if_pos c, if_pos (by omega)]
  · rw [if_neg c, if_neg (by omega)]
theorem num_need (h t : List Int) (n : Nat) : numM (needM h t) t (n : Int) = numM h t (n : Int) := by
  rw [numM_nat, numM_nat]
  have hl := need_len h t
  have hle := needM_len h t
  by_cases c : n < (needM h t).length
  · rw [if_pos c, if_pos (by omega), need_get h t c]
  · rw [if_neg c]
    by_cases c2 : n < h.length
    · rw [if_pos c2]
      have := dropN_true (t := fun k => h.getD k 0 == valueM t (k : Nat)) (n := h.length) (i := n) (by unfold needN at *; omega) c2
      exact (beq_iff_eq.mp this).symm
    · rw [if_neg c2]
theorem need_last (h t : List Int) {k : Nat} (e : (needM h t).length = k + 1) : numM (needM h t) t (k : Int) ≠ valueM t (k : Int) := by
  rw [numM_nat, if_pos (by omega), need_get h t (by omega)]
  rw [need_len] at e
  have := dropN_last (t := fun k => h.getD k 0 == valueM t (k : Nat)) (n := h.length) (k := k) e
  simpa using this
theorem num_congr {h t t' : List Int} (e : ∀ n : Nat, valueM t (n : Int) = valueM t' (n : Int)) (n : Nat) : numM h t (n : Int) = numM h t' (n : Int) := by
  rw [numM_nat, numM_nat, e]
theorem cf_add (a b : List Int) (f : Int) : cf (addM a b f) = fun j => cf a j + f * cf b j := by
  funext j
  unfold cf addM
  rw [getD_map_range]
  split
  · rfl
  · rw [getD_big (xs := a) (by omega), getD_big (xs := b) (by omega)]; simp
theorem ev_add (c d : Nat → Int) (k : Int) (n : Nat) : ev (fun j => c j + k * d j) n = ev c n + k * ev d n := by
  unfold ev
  rw [← sumTo_mul, ← sumTo_add]
  exact sumTo_congr fun j _ => by rw [Int.add_mul, Int.mul_assoc]
theorem value_add (a b : List Int) (f : Int) (n : Nat) : valueM (addM a b f) (n : Int) = valueM a (n : Int) + f * valueM b (n : Int) := by
  rw [value_ev, value_ev, value_ev, cf_add, ev_add]
theorem diffM_range (f : Nat → Int) (m : Nat) : diffM ((List.range m).map f) = (List.range (m - 1)).map (dlt f) := by
  refine List.ext_getElem? fun i => ?_
  by_cases hi : i < m - 1
  · rw [diffM_get _ i (by rw [diffM_len, List.length_map, List.length_range]; exact hi), getD_map_range, getD_map_range, if_pos (by omega), if_pos (by omega), List.getElem?_map, List.getElem?_range hi]
    rfl
  · rw [List.getElem?_eq_none (by rw [diffM_len, List.length_map, List.length_range]; omega), List.getElem?_eq_none (by rw [List.length_map, List.length_range]; omega)]
theorem diffI_range (f : Nat → Int) (m : Nat) : ∀ i : Nat, diffI ((List.range m).map f) i = (List.range (m - i)).map (dltN i f)
  | 0 => rfl
  | i + 1 => by
    rw [diffI, diffI_range f m i, diffM_range, dltN_succ, show m - i - 1 = m - (i + 1) by omega]
theorem cf_newton (f : Nat → Int) (m : Nat) : cf (newtonM ((List.range m).map f)) = fun j => if j < m then dltN j f 0 else 0 := by
  funext j
  unfold cf newtonM
  rw [List.length_map, List.length_range, getD_map_range]
  split
  · rw [diffI_range, getD_map_range, if_pos (by omega)]
  · rfl
theorem newton_of {f : Nat → Int} {m : Nat} (h : Dg m f) : ev (fun j => if j < m then dltN j f 0 else 0) = f := by
  have : (fun j => if j < m then dltN j f 0 else 0) = fun j => dltN j f 0 := by
    funext j
    by_cases c : j < m
    · rw [if_pos c]
    · rw [if_neg c, h.coef (by omega)]
  rw [this]
  exact (newton f).symm
theorem value_prod (a b : List Int) (n : Nat) : valueM (prodM a b) (n : Int) = valueM a (n : Int) * valueM b (n : Int) := by
  unfold prodM
  rw [value_trim, value_ev, cf_newton, newton_of]
  exact Dg.mul _ a.length b.length _ _ rfl (dg_value a) (dg_value b)
/-- the made Counted has the numbers op of both -/
theorem num_made {h1 t1 h2 t2 po : List Int} {op : Int → Int → Int} (hpo : ∀ n : Nat, valueM po (n : Int) = op (valueM t1 (n : Int)) (valueM t2 (n : Int))) (n : Nat) :
    numM (needM ((List.range (max h1.length h2.length)).map fun n : Nat => op (numM h1 t1 (n : Int)) (numM h2 t2 (n : Int))) (trimM po)) (trimM po) (n : Int) = op (numM h1 t1 (n : Int)) (numM h2 t2 (n : Int)) := by
  rw [num_need, numM_nat, List.length_map, List.length_range]
  split
  · rw [getD_map_range, if_pos (by assumption)]
  · rw [value_trim, hpo, numM_nat, numM_nat, if_neg (by omega), if_neg (by omega)]
theorem num_norm (h t : List Int) (n : Nat) : numM (needM h (trimM t)) (trimM t) (n : Int) = numM h t (n : Int) := by
  rw [num_need]
  exact num_congr (value_trim t) n
end KP

set_option Elab.async false
set_option linter.all false
set_option autoImplicit false
set_option maxRecDepth 100000
set_option maxHeartbeats 4000000
namespace KP
open PySem PySem.Spec PyProof.Rows L2 DL
/-! ### products of steps -/
def cv (f g : Nat → Int) (n : Nat) : Int := sumTo (n + 1) fun k => f k * g (n - k)
def stp (f : Nat → Int) : Nat → Int
  | 0 => f 0
  | n + 1 => f (n + 1) - f n
theorem sumTo_rev (m : Nat) (F : Nat → Int) : sumTo m (fun k => F (m - 1 - k)) = sumTo m F := by
  induction m with
  | zero => rfl
  | succ m ih =>
    rw [sumTo_front]
    have : sumTo m (fun j => F (m + 1 - 1 - (j + 1))) = sumTo m (fun k => F (m - 1 - k)) := sumTo_congr fun j _ => by rw [show m + 1 - 1 - (j + 1) = m - 1 - j by omega]
    rw [this, ih, sumTo, show m + 1 - 1 - 0 = m by omega]; omega
theorem cv_comm (f g : Nat → Int) : cv f g = cv g f := by
  funext n
  unfold cv
  rw [← sumTo_rev (n + 1)]
  refine sumTo_congr fun k hk => ?_
  rw [show n + 1 - 1 - k = n - k by omega, show n - (n - k) = k by omega, Int.mul_comm]
theorem cv_zero (f g : Nat → Int) : cv f g 0 = f 0 * g 0 := by unfold cv; simp [sumTo]
theorem cv_succ (f g : Nat → Int) (n : Nat) : cv f g (n + 1) = f 0 * g (n + 1) + cv (fun k => f (k + 1)) g n := by
  unfold cv
  rw [sumTo_front]
  congr 1
  exact sumTo_congr fun j _ => by rw [show n + 1 - (j + 1) = n - j by omega]
theorem cv_add_l (f f' g : Nat → Int) : cv (fun k => f k + f' k) g = fun n => cv f g n + cv f' g n := by
  funext n
  unfold cv
  rw [← sumTo_add]
  exact sumTo_congr fun j _ => by rw [Int.add_mul]
theorem cv_mul_l (c : Int) (f g : Nat → Int) : cv (fun k => c * f k) g = fun n => c * cv f g n := by
  funext n
  unfold cv
  rw [← sumTo_mul]
  exact sumTo_congr fun j _ => by rw [Int.mul_assoc]
theorem cv_assoc (n : Nat) : ∀ f g h : Nat → Int, cv (cv f g) h n = cv f (cv g h) n := by
  induction n with
  | zero => intro f g h; rw [cv_zero, cv_zero, cv_zero, cv_zero, Int.mul_assoc]
  | succ n ih =>
    intro f g h
    rw [cv_succ, cv_succ f, cv_succ g]
    have e : (fun k => cv f g (k + 1)) = fun k => f 0 * g (k + 1) + cv (fun k => f (k + 1)) g k := by funext k; rw [cv_succ]
    rw [e, cv_add_l, cv_mul_l, cv_zero]
    simp only []
    rw [ih, Int.mul_add, Int.mul_assoc]
    omega
theorem stp_cv (f g : Nat → Int) : stp (cv f g) = cv (stp f) g := by
  funext n
  cases n with
  | zero => rw [stp, cv_zero, cv_zero, stp]
  | succ n =>
    rw [stp, cv_succ (stp f), stp]
    have e : (fun k => stp f (k + 1)) = fun k => f (k + 1) + -1 * f k := by funext k; rw [stp]; omega
    rw [e, cv_add_l, cv_mul_l, cv_succ f]
    simp only []
    omega
theorem stp_add (f g : Nat → Int) : stp (fun n => f n + g n) = fun n => stp f n + stp g n := by
  funext n
  cases n with
  | zero => rfl
  | succ n => rw [stp, stp, stp]; omega
/-- the numbers of one after the other -/
def sq (f g : Nat → Int) : Nat → Int := cv (stp f) g
theorem sq_comm (f g : Nat → Int) : sq f g = sq g f := by
  unfold sq
  rw [← stp_cv, ← stp_cv, cv_comm]
theorem sq_assoc (f g h : Nat → Int) : sq (sq f g) h = sq f (sq g h) := by
  unfold sq
  rw [stp_cv]
  have e1 : cv (cv (stp (stp f)) g) h = cv (stp (stp f)) (cv g h) := by funext n; exact cv_assoc n _ _ _
  rw [e1, ← stp_cv g h, cv_comm (stp f) (stp (cv g h)), ← stp_cv (cv g h) (stp f), cv_comm (cv g h), stp_cv]
theorem sq_add_r (f g h : Nat → Int) : sq f (fun n => g n + h n) = fun n => sq f g n + sq f h n := by
  unfold sq
  rw [cv_comm, cv_add_l, cv_comm g, cv_comm h]
theorem ev_succ (c : Nat → Int) (n : Nat) : ev c (n + 1) = ev c n + ev (fun j => c (j + 1)) n := by
  have := congrFun (ev_dlt c) n
  unfold dlt at this
  omega
/-- the polynomials' part -/
theorem sq_ev (n : Nat) : ∀ c d : Nat → Int, sq (ev c) (ev d) n = ev (cv c d) n := by
  induction n with
  | zero =>
    intro c d
    unfold sq
    rw [cv_zero, stp, ev_zero, ev_zero, ev_zero, cv_zero]
  | succ n ih =>
    intro c d
    have h1 : sq (ev c) (ev d) (n + 1) = sq (ev c) (ev d) n + stp (sq (ev c) (ev d)) (n + 1) := by rw [stp]; omega
    have h2 : stp (sq (ev c) (ev d)) (n + 1) = c 0 * ev (fun j => d (j + 1)) n + sq (ev fun j => c (j + 1)) (ev d) n := by
      unfold sq
      rw [cv_comm (stp (ev c)), stp_cv, cv_comm (stp (ev d)), cv_succ, stp, stp, ev_zero, ev_succ d]
      have e : (fun k => stp (ev c) (k + 1)) = ev fun j => c (j + 1) := by funext k; rw [stp, ev_succ]; omega
      rw [e, cv_comm _ (stp (ev d)), ← stp_cv (ev d), cv_comm (ev d), stp_cv]
      have : ev d n + ev (fun j => d (j + 1)) n - ev d n = ev (fun j => d (j + 1)) n := by omega
      rw [this]
    rw [h1, h2, ih, ih, ev_succ (cv c d)]
    have e : (fun j => cv c d (j + 1)) = fun j => cv (fun k => c (k + 1)) d j + c 0 * d (j + 1) := by funext j; rw [cv_succ]; omega
    rw [e, ev_add]
    omega
/-! ### day_later, delayed -/
def dlM : List Int → List Int
  | [] => []
  | x :: p => (x - (dlM p).headD 0) :: dlM p
theorem dlM_len : ∀ p : List Int, (dlM p).length = p.length
  | [] => rfl
  | x :: p => by rw [dlM, List.length_cons, List.length_cons, dlM_len p]
theorem headD_getD (xs : List Int) : xs.headD 0 = xs.getD 0 0 := by cases xs <;> rfl
theorem dlM_cf : ∀ (p : List Int) (j : Nat), cf (dlM p) j + cf (dlM p) (j + 1) = cf p j
  | [], j => rfl
  | x :: p, 0 => by
    show (x - (dlM p).headD 0) + (dlM p).getD 0 0 = x
    rw [headD_getD]; omega
  | x :: p, j + 1 => dlM_cf p j
theorem dlM_ev (p : List Int) (n : Nat) : ev (cf (dlM p)) (n + 1) = ev (cf p) n := by
  rw [ev_succ]
  have := ev_add (cf (dlM p)) (fun j => cf (dlM p) (j + 1)) 1 n
  rw [Int.one_mul] at this
  rw [← this]
  congr 1
  funext j
  have := dlM_cf p j
  omega
def delayM (p : List Int) : List Int → List Int
  | [] => List.replicate p.length 0
  | w :: ws => (List.range p.length).map fun j => w * p.getD j 0 + (dlM (delayM p ws)).getD j 0
theorem delayM_len (p : List Int) : ∀ ws : List Int, (delayM p ws).length = p.length
  | [] => List.length_replicate
  | w :: ws => by rw [delayM, List.length_map, List.length_range]
theorem delayM_cf (p : List Int) (w : Int) (ws : List Int) : cf (delayM p (w :: ws)) = fun j => cf (dlM (delayM p ws)) j + w * cf p j := by
  funext j
  unfold cf
  rw [delayM, getD_map_range]
  split
  · omega
  · rw [getD_big (xs := p) (by omega), getD_big (xs := dlM (delayM p ws)) (by rw [dlM_len, delayM_len]; omega)]; simp
theorem cf_rep0 (m : Nat) : cf (List.replicate m 0) = fun _ => 0 := by
  funext j
  unfold cf
  rw [List.getD_eq_getElem?_getD, List.getElem?_replicate]
  split <;> rfl
theorem ev_zero_fn (n : Nat) : ev (fun _ => 0) n = 0 := by
  unfold ev
  refine Eq.trans ?_ (sumTo_zero (n + 1))
  exact sumTo_congr fun j _ => by simp only []; exact Int.zero_mul _
/-- from as many days on as there are weights less one, delayed is the product of the weights with the polynomial -/
theorem delay_ev (p : List Int) : ∀ (ws : List Int) (n : Nat), ws.length ≤ n + 1 → ev (cf (delayM p ws)) n = cv (cf ws) (ev (cf p)) n
  | [], n, _ => by
    rw [delayM, cf_rep0, ev_zero_fn]
    unfold cv
    rw [← sumTo_zero (n + 1)]
    exact sumTo_congr fun j _ => (Int.zero_mul _).symm
  | w :: ws, n, h => by
    rw [delayM_cf, ev_add]
    cases n with
    | zero =>
      have : ws = [] := List.eq_nil_of_length_eq_zero (by rw [List.length_cons] at h; omega)
      subst this
      rw [ev_zero, ev_zero, cv_zero]
      have h0 : ev (cf p) 0 = cf p 0 := ev_zero _
      rw [h0]
      have h1 : cf (dlM (delayM p [])) 0 = 0 := by
        rw [delayM]
        have : ∀ m : Nat, (dlM (List.replicate m 0)).getD 0 0 = 0 := by
          intro m
          induction m with
          | zero => rfl
          | succ m ih =>
            rw [List.replicate_succ, dlM]
            show (0 : Int) - _ = 0
            rw [headD_getD, ih]; rfl
        exact this _
      rw [h1]
      show 0 + w * cf p 0 = w * cf p 0
      omega
    | succ n =>
      rw [dlM_ev, delay_ev p ws n (by rw [List.length_cons] at h; omega), cv_succ]
      have e : (fun k => cf (w :: ws) (k + 1)) = cf ws := rfl
      rw [e]
      show _ = w * ev (cf p) (n + 1) + _
      omega
/-! ### excess, chained -/
def exc (h t : List Int) (n : Nat) : Int := if n < h.length then h.getD n 0 - valueM t (n : Int) else 0
def excM (h t : List Int) : List Int := (List.range (h.length + 1)).map (stp (exc h t))
theorem num_split (h t : List Int) : (fun n : Nat => numM h t (n : Int)) = fun n => ev (cf t) n + exc h t n := by
  funext n
  unfold exc
  rw [numM_nat, value_ev]
  split <;> omega
theorem exc_big {h t : List Int} {n : Nat} (hn : h.length ≤ n) : exc h t n = 0 := by unfold exc; rw [if_neg (by omega)]
theorem excM_cf (h t : List Int) : cf (excM h t) = stp (exc h t) := by
  funext j
  unfold cf excM
  rw [getD_map_range]
  split
  · rfl
  · cases j with
    | zero => omega
    | succ j => rw [stp, exc_big (by omega), exc_big (by omega)]; rfl
def chM (a b : List Int) : List Int := (List.range (a.length + b.length)).map (cv (cf a) (cf b))
theorem cv_big {f g : Nat → Int} {A B n : Nat} (hf : ∀ k, A ≤ k → f k = 0) (hg : ∀ k, B ≤ k → g k = 0) (h : A + B ≤ n + 1) : cv f g n = 0 := by
  unfold cv
  rw [← sumTo_zero (n + 1)]
  refine sumTo_congr fun k hk => ?_
  by_cases c : A ≤ k
  · rw [hf k c, Int.zero_mul]
  · rw [hg (n - k) (by omega), Int.mul_zero]
theorem chM_cf (a b : List Int) : cf (chM a b) = cv (cf a) (cf b) := by
  funext j
  show (chM a b).getD j 0 = _
  unfold chM
  rw [getD_map_range]
  split
  · rfl
  · exact (cv_big (A := a.length) (B := b.length) (fun k hk => cf_big hk) (fun k hk => cf_big hk) (by omega)).symm
def sqP (h1 t1 h2 t2 : List Int) : List Int := addM (addM (chM t1 t2) (delayM t2 (excM h1 t1)) 1) (delayM t1 (excM h2 t2)) 1
theorem sqP_value (h1 t1 h2 t2 : List Int) (n : Nat) (hn : h1.length + h2.length ≤ n) : valueM (sqP h1 t1 h2 t2) (n : Int) = sq (fun n : Nat => numM h1 t1 (n : Int)) (fun n : Nat => numM h2 t2 (n : Int)) n := by
  unfold sqP
  rw [value_add, value_add, value_ev, value_ev, value_ev, chM_cf, ← sq_ev]
  rw [delay_ev _ _ _ (by unfold excM; rw [List.length_map, List.length_range]; omega), delay_ev _ _ _ (by unfold excM; rw [List.length_map, List.length_range]; omega), excM_cf, excM_cf]
  rw [num_split, num_split]
  have e1 : sq (fun n => ev (cf t1) n + exc h1 t1 n) (fun n => ev (cf t2) n + exc h2 t2 n) = fun n => sq (ev (cf t1)) (ev (cf t2)) n + sq (exc h1 t1) (ev (cf t2)) n + (sq (ev (cf t1)) (exc h2 t2) n + sq (exc h1 t1) (exc h2 t2) n) := by
    rw [sq_add_r, sq_comm _ (ev (cf t2)), sq_add_r, sq_comm _ (exc h2 t2), sq_add_r]
    funext n
    rw [sq_comm (ev (cf t2)), sq_comm (ev (cf t2)), sq_comm (exc h2 t2), sq_comm (exc h2 t2)]
  rw [e1]
  simp only []
  have e2 : sq (exc h1 t1) (exc h2 t2) n = 0 := by
    unfold sq
    refine cv_big (A := h1.length + 1) (B := h2.length) (fun k hk => ?_) (fun k hk => exc_big hk) (by omega)
    cases k with
    | zero => omega
    | succ k => rw [stp, exc_big (by omega), exc_big (by omega)]; rfl
  rw [e2, sq_comm (ev (cf t1)) (exc h2 t2)]
  unfold sq
  omega
/-! ### bounds -/
theorem sumTo_bd {b : Nat} {F : Nat → Int} : ∀ n : Nat, (∀ j, j < n → (F j).natAbs < 2 ^ b) → (sumTo n F).natAbs ≤ n * 2 ^ b
  | 0, _ => by rw [sumTo]; simp
  | n + 1, h => by
    have h1 := sumTo_bd n fun j hj => h j (by omega)
    have h2 := h n (by omega)
    rw [sumTo, Nat.add_mul, Nat.one_mul]
    omega
theorem sumTo_lt {b n : Nat} {F : Nat → Int} (h : ∀ j, j < n → (F j).natAbs < 2 ^ b) : (sumTo n F).natAbs < 2 ^ (b + n) := by
  have h1 := sumTo_bd n h
  have h2 : n < 2 ^ n := Nat.lt_two_pow_self
  have h3 : n * 2 ^ b < 2 ^ n * 2 ^ b := Nat.mul_lt_mul_of_pos_right h2 (Nat.two_pow_pos b)
  rw [Nat.pow_add, Nat.mul_comm (2 ^ b)]
  omega
theorem cf_bd {B : Nat} {p : List Int} (h : Bd B p) (j : Nat) : (cf p j).natAbs < 2 ^ B := h.getD j
theorem chM_bd {B l : Nat} {a b : List Int} (ha : Bd B a) (hb : Bd B b) (la : a.length ≤ l) (lb : b.length ≤ l) : Bd (2 * B + 2 * l) (chM a b) := fun x hx => by
  obtain ⟨n, hn, rfl⟩ := List.mem_map.mp hx
  have hn := List.mem_range.mp hn
  unfold cv
  refine lt2 (sumTo_lt (b := B + B) fun j _ => wide_lt (cf_bd ha j) (cf_bd hb (n - j))) (by omega)
theorem chM_len (a b : List Int) : (chM a b).length = a.length + b.length := by unfold chM; rw [List.length_map, List.length_range]
theorem dlM_le {B : Nat} : ∀ {p : List Int}, Bd B p → ∀ x ∈ dlM p, x.natAbs ≤ p.length * 2 ^ B
  | [], _, x, hx => by cases hx
  | y :: p, h, x, hx => by
    have ih := dlM_le (p := p) fun z hz => h z (List.mem_cons_of_mem _ hz)
    rw [List.length_cons, Nat.add_mul, Nat.one_mul]
    rw [dlM] at hx
    rcases List.mem_cons.mp hx with rfl | hx
    · have h1 := h y List.mem_cons_self
      have h2 : ((dlM p).headD 0).natAbs ≤ p.length * 2 ^ B := by
        cases e : dlM p with
        | nil => exact Nat.zero_le _
        | cons z r => rw [e] at ih; exact ih z List.mem_cons_self
      omega
    · exact Nat.le_trans (ih x hx) (Nat.le_add_right _ _)
theorem dlM_bd {B k : Nat} {p : List Int} (h : Bd B p) (hp : p.length < 2 ^ k) : Bd (B + k) (dlM p) := fun x hx => by
  have h1 := dlM_le h x hx
  have h3 : p.length * 2 ^ B < 2 ^ k * 2 ^ B := Nat.mul_lt_mul_of_pos_right hp (Nat.two_pow_pos B)
  rw [Nat.pow_add, Nat.mul_comm (2 ^ B)]
  omega
theorem delayM_bd {B W k : Nat} {p : List Int} (hp : Bd B p) (hk : p.length < 2 ^ k) : ∀ {ws : List Int}, Bd W ws → Bd (W + B + ws.length * (k + 1)) (delayM p ws)
  | [], _ => fun x hx => by
    rw [delayM] at hx
    rw [List.eq_of_mem_replicate hx]
    exact Nat.two_pow_pos _
  | w :: ws, h => fun x hx => by
    have ih := delayM_bd hp hk (ws := ws) fun z hz => h z (List.mem_cons_of_mem _ hz)
    have hd := dlM_bd ih (k := k) (by rw [delayM_len]; exact hk)
    rw [delayM] at hx
    obtain ⟨j, hj, rfl⟩ := List.mem_map.mp hx
    have h1 := wide_lt (h w List.mem_cons_self) (hp.getD j)
    have h2 := hd.getD j
    rw [List.length_cons, Nat.add_mul, Nat.one_mul]
    exact lt2 (bd_add (lt2 h1 (show W + B ≤ W + B + ws.length * (k + 1) + k by omega)) h2) (by omega)
theorem stp_bd {b : Nat} {f : Nat → Int} (h : ∀ n, (f n).natAbs < 2 ^ b) : ∀ n, (stp f n).natAbs < 2 ^ (b + 1)
  | 0 => lt2 (h 0) (by omega)
  | n + 1 => bd_sub (h (n + 1)) (h n)
theorem exc_bd {B l : Nat} {h t : List Int} (hh : Bd B h) (ht : Bd B t) (lh : h.length ≤ 1000) (lt : t.length ≤ l) (hl : l ≤ 1000) (n : Nat) : (exc h t n).natAbs < 2 ^ (B + 12 * l + 2) := by
  unfold exc
  split
  · exact bd_sub (lt2 (hh.getD n) (by omega)) (lt2 (value_bd (N := 10) ht (by omega) (by omega)) (by omega))
  · exact Nat.two_pow_pos _
theorem excM_bd {B l : Nat} {h t : List Int} (hh : Bd B h) (ht : Bd B t) (lh : h.length ≤ 1000) (lt : t.length ≤ l) (hl : l ≤ 1000) : Bd (B + 12 * l + 3) (excM h t) := fun x hx => by
  obtain ⟨n, _, rfl⟩ := List.mem_map.mp hx
  exact stp_bd (exc_bd hh ht lh lt hl) n
theorem excM_len (h t : List Int) : (excM h t).length = h.length + 1 := by unfold excM; rw [List.length_map, List.length_range]
theorem sqP_len (h1 t1 h2 t2 : List Int) : (sqP h1 t1 h2 t2).length = t1.length + t2.length := by
  unfold sqP
  rw [addM_len, addM_len, chM_len, delayM_len, delayM_len]; omega
theorem del_bd {B l : Nat} {h1 t1 t2 : List Int} (b1 : Bd B h1) (b2 : Bd B t1) (b4 : Bd B t2) (l1 : h1.length ≤ l) (l2 : t1.length ≤ l) (l4 : t2.length ≤ l) (hl : l ≤ 200) : Bd (2 * B + 21 * l + 12) (delayM t2 (excM h1 t1)) := by
  have h := delayM_bd (k := 8) b4 (by omega) (excM_bd b1 b2 (by omega) l2 (by omega))
  rw [excM_len] at h
  exact h.mono (by omega)
theorem sqP_bd {B l : Nat} {h1 t1 h2 t2 : List Int} (b1 : Bd B h1) (b2 : Bd B t1) (b3 : Bd B h2) (b4 : Bd B t2) (l1 : h1.length ≤ l) (l2 : t1.length ≤ l) (l3 : h2.length ≤ l) (l4 : t2.length ≤ l) (hl : l ≤ 200) : Bd (2 * B + 21 * l + 16) (sqP h1 t1 h2 t2) := by
  have d1 := del_bd b1 b2 b4 l1 l2 l4 hl
  have d2 := del_bd b3 b4 b2 l3 l4 l2 hl
  have c : Bd (2 * B + 21 * l + 12) (chM t1 t2) := (chM_bd b2 b4 l2 l4).mono (by omega)
  have e := addM_bd (F := 1) c d1 (f := 1) (by decide)
  exact (addM_bd (F := 1) e (d2.mono (by omega)) (f := 1) (by decide)).mono (by omega)
/-! ### the numbers of one >> other -/
theorem cv_congr {f f' g g' : Nat → Int} {n : Nat} (hf : ∀ k, k ≤ n → f k = f' k) (hg : ∀ k, k ≤ n → g k = g' k) : cv f g n = cv f' g' n := by
  unfold cv
  exact sumTo_congr fun k hk => by rw [hf k (by omega), hg (n - k) (by omega)]
theorem stp_congr {f f' : Nat → Int} {n : Nat} (hf : ∀ k, k ≤ n → f k = f' k) : ∀ k, k ≤ n → stp f k = stp f' k
  | 0, _ => hf 0 (by omega)
  | k + 1, h => by rw [stp, stp, hf (k + 1) h, hf k (by omega)]
def NU (h t : List Int) : Nat → Int := fun n => numM h t (n : Int)
theorem fol_eq (h1 t1 h2 t2 : List Int) (m : Nat) : (List.range m).map (cv (stp (cf ((List.range m).map (NU h1 t1)))) (cf ((List.range m).map (NU h2 t2)))) = (List.range m).map (sq (NU h1 t1) (NU h2 t2)) := by
  refine List.map_congr_left fun n hn => ?_
  have hn := List.mem_range.mp hn
  unfold sq
  refine cv_congr (stp_congr fun k hk => ?_) fun k hk => ?_
  · unfold cf; rw [getD_map_range, if_pos (by omega)]
  · unfold cf; rw [getD_map_range, if_pos (by omega)]
def sqH (h1 t1 h2 t2 : List Int) : List Int := needM ((List.range (h1.length + h2.length + 1)).map (sq (NU h1 t1) (NU h2 t2))) (trimM (sqP h1 t1 h2 t2))
theorem sq_num (h1 t1 h2 t2 : List Int) : NU (sqH h1 t1 h2 t2) (trimM (sqP h1 t1 h2 t2)) = sq (NU h1 t1) (NU h2 t2) := by
  funext n
  unfold NU sqH
  rw [num_need, numM_nat, List.length_map, List.length_range]
  split
  · rw [getD_map_range, if_pos (by assumption)]; rfl
  · rw [value_trim, sqP_value _ _ _ _ _ (by omega)]
theorem sqH_len (h1 t1 h2 t2 : List Int) : (sqH h1 t1 h2 t2).length ≤ h1.length + h2.length + 1 := by
  refine Nat.le_trans (needM_len _ _) ?_
  rw [List.length_map, List.length_range]
  exact Nat.le_refl _
end KP

set_option Elab.async false
set_option linter.all false
set_option autoImplicit false
set_option maxRecDepth 100000
set_option maxHeartbeats 4000000
namespace KP
open PySem PySem.Spec PyProof.Rows L2 DL
/-! ### the def law: from the script to the deck -/
def spLaw (K : PySem.W.Frag) : Sp := fun vs H Q _ => ∃ (a : Addr) (xs : List Int), vs = [.ref a] ∧ xs.length ≤ 63 ∧ Only H ∧ SqL K H a (xs.map .int) ∧ ∀ H', Q (.bl true) H'
theorem bs0 (H : Hp) : DL.Bs none H H := ⟨Same.refl _, fun p e => absurd e (by simp), fun a h => by obtain ⟨p, e, _⟩ := h; cases e⟩
theorem ints_of {K : PySem.W.Frag} {dp : Option (Addr × Addr)} {H : Hp} : ∀ {xs : List Int} {vs : List V}, Reps K dp H (xs.map D.int) vs → vs = xs.map V.int
  | [], vs, h => h.unnil
  | x :: xs, vs, h => by
    obtain ⟨v, r, rfl, q, t⟩ := Reps.uncons h
    rw [ints_of t]
    unfold Rep at q
    rw [q]; rfl
section
variable {P : Program} {w : World} {K : PySem.W.Frag} {mg : Str → Option Value} {base : Heap}
def lawEnv (N : List Str) (xs : List Int) : DL.Env := .sh (.scr xs) :: .sh .deck :: List.replicate (N.length - 2) .no
theorem law_mk {x qual : Str} {st : Stmt} {f : Addr} {fd : FuncData} {N : List Str} {k : Nat} {s1 : Stmt} {rest : List Stmt} (F : Fun K x qual st f fd) (sc : FnScope N ["script"] (defScope st)) (hN : 2 ≤ N.length) (hb : defBody st = s1 :: rest)
    (hbody : ∃ m, (∀ (cdv : Value) (A : Around) (outer : List PySem.Env) (s : Shared) (H : Hp) (E : XK), Room k (A.deeper (envOfC qual (defScope st) s.heap.objs.size f cdv)) →
        PS (cxOf (L2.CX P w) P w K mg base N qual (defScope st) f cdv A outer s H E).nox s1 (tAsg (tD K (callD S_deck (consA (varD 0) nilA))) (gName 1)) ∧
        PSsd (cxOf (L2.CX P w) P w K mg base N qual (defScope st) f cdv A outer s H E).nox W0 rest m) ∧
      ∀ xs : List Int, xs.length ≤ 63 → m { nx := fun _ => False, rt := fun d => d = .bl true, ex := fun _ => X0 } (lawEnv N xs)) :
    FnOk P w K mg base (L2.CX P w) (k + 1) f fd ["script"] (spLaw K) := by
  obtain ⟨m, hm, hp⟩ := hbody
  refine F.okX sc (fun vs H Q E ⟨a, xs, e, _⟩ => by rw [e]; rfl) (fun cdv A outer s H vs Q E hr h => ?_)
  obtain ⟨a, xs, rfl, hl, ho, hs, hq⟩ := h
  obtain ⟨g1, g2⟩ := hm cdv A outer s H E hr
  rw [hb]
  refine ⟨_, PSs.nox (pss_cons g1 g2), ?_⟩
  have q0 : Rep K none H (.scr xs) (.ref a) := by unfold Rep; exact ⟨a, rfl, hs⟩
  refine ⟨none, H, H, H, startD N [.scr xs], fun d => ∃ (gs : List Int) (s : Int), gs.length ≤ 63 ∧ 0 ≤ s ∧ s < 2 ^ 31 ∧ d = .lst [L gs, .int 0, .int s], start_rl (bs0 H) (.cons q0 .nil), ⟨xs, rfl, hl, fun gs s h1 h2 h3 => ⟨gs, s, h1, h2, h3, rfl⟩⟩, ?_⟩
  rintro d ⟨gs, sd, h1, h2, h3, rfl⟩ v H' Hs' st q
  unfold Rep at q
  obtain ⟨A1, vs, rfl, hA, r⟩ := q
  obtain ⟨v1, r1, rfl, q1, t1⟩ := Reps.uncons r
  obtain ⟨v2, r2, rfl, q2, t2⟩ := Reps.uncons t1
  obtain ⟨v3, r3, rfl, q3, t3⟩ := Reps.uncons t2
  cases t3.unnil
  unfold Rep at q1 q2 q3
  subst q2; subst q3
  obtain ⟨B1, us, rfl, hB, rB⟩ := q1
  have eu := ints_of rB
  subst eu
  have fr : ∀ (a : Addr) (l : List V), Hs' a = some (.lst l) → H a = none := fun a l e => by
    rcases ho a with h | ⟨o, ys, h⟩
    · exact h
    · have := st.ext _ _ h
      rw [e] at this
      cases this
  have nAB : A1 ≠ B1 := fun e => by
    subst e
    rw [hA] at hB
    have e1 : [V.ref A1, V.int 0, V.int sd] = gs.map V.int := by
      have := Option.some.inj hB
      exact (HO.lst.injEq _ _).mp this
    cases gs with
    | nil => cases e1
    | cons g gs => cases e1
  have bs : DL.Bs (some (A1, B1)) H' H := by
    refine ⟨fun x o e => st.bs.sub _ _ (st.ext _ _ e), fun p e => ?_, fun x hx => ?_⟩
    · cases e
      exact ⟨nAB, gs, 0, sd, st.bs.sub _ _ hA, st.bs.sub _ _ hB, h2, h3, by omega⟩
    · obtain ⟨p, e, z⟩ := hx
      cases e
      rcases z with rfl | rfl
      · exact fr _ _ hA
      · exact fr _ _ hB
  have hlen : (lawEnv N xs).length = N.length := by
    unfold lawEnv
    simp only [List.length_cons, List.length_replicate]
    omega
  have hls : (L2.start N [V.ref a]).length = N.length := by
    unfold L2.start
    simp only [List.length_append, List.length_map, List.length_replicate, List.length_cons, List.length_nil]
    omega
  have h1len : 1 < (L2.start N [V.ref a]).length := by omega
  show tS K W0 m _ ((L2.start N [V.ref a]).set 1 (some (.ref A1))) H'
  refine ⟨some (A1, B1), H', H, H, H, lawEnv N xs, _, ⟨.refl bs, by rw [hlen, List.length_set, hls], fun i c e => ?_, fun i j b d d' e1 _ => ?_⟩, Same.refl _, hp xs hl,
    ⟨fun _ _ _ _ z => z.elim, fun _ _ _ _ z => z.elim, fun _ _ _ _ z => z.elim, fun d e v H'' Hs'' s q => ?_, fun _ C d z => z.elim⟩⟩
  · cases i with
    | zero =>
      cases e
      exact ⟨.ref a, rfl, q0⟩
    | succ i =>
      cases i with
      | zero =>
        cases e
        refine ⟨.ref A1, by rw [List.getElem?_set_self h1len], ?_⟩
        unfold Rep
        exact ⟨(A1, B1), rfl, rfl⟩
      | succ i =>
        have hc : c = .no := by
          unfold lawEnv at e
          rw [List.getElem?_cons_succ, List.getElem?_cons_succ] at e
          exact (List.mem_replicate.mp (List.mem_of_getElem? e)).2
        rw [hc]
        trivial
  · exfalso
    unfold lawEnv at e1
    have := List.mem_of_getElem? e1
    rcases List.mem_cons.mp this with h | h
    · cases h
    · rcases List.mem_cons.mp h with h | h
      · cases h
      · cases (List.mem_replicate.mp h).2
  · have e : d = .bl true := e
    subst e
    unfold Rep at q
    rw [q]
    exact hq _
end
end KP

set_option Elab.async false
set_option linter.all false
set_option autoImplicit false
set_option maxRecDepth 100000
set_option maxHeartbeats 4000000
namespace KP
open PySem PySem.Spec PyProof.Rows L2 DL
theorem dlM_drop : ∀ (p : List Int) (k : Nat), (dlM p).drop k = dlM (p.drop k)
  | [], k => by rw [List.drop_nil]; show List.drop k [] = []; exact List.drop_nil
  | x :: p, 0 => rfl
  | x :: p, k + 1 => dlM_drop p k
theorem sumTo_low {lo : Nat} {F : Nat → Int} (h : ∀ k, k < lo → F k = 0) : ∀ hi : Nat, sumTo hi F = sumTo (hi - lo) (fun j => F (lo + j))
  | 0 => by rw [Nat.zero_sub]; rfl
  | hi + 1 => by
    by_cases c : lo ≤ hi
    · rw [show hi + 1 - lo = (hi - lo) + 1 by omega, sumTo, sumTo, sumTo_low h hi, show lo + (hi - lo) = hi by omega]
    · rw [show hi + 1 - lo = 0 by omega]
      refine Eq.trans (sumTo_congr fun k hk => h k (by omega)) (sumTo_zero (hi + 1))
theorem cv_cut (a b : List Int) (i : Nat) : cv (cf a) (cf b) i = sumTo (min (i + 1) a.length - (i + 1 - b.length)) (fun j => cf a (i + 1 - b.length + j) * cf b (i - (i + 1 - b.length + j))) := by
  unfold cv
  rw [← sumTo_low (F := fun k => cf a k * cf b (i - k)) (fun k hk => by rw [cf_big (p := b) (by omega), Int.mul_zero])]
  exact sumTo_more (Nat.min_le_left _ _) fun j h1 h2 => by rw [cf_big (p := a) (by omega), Int.zero_mul]
section
variable {P : Program} {w : World} {K : PySem.W.Frag} {mg : Str → Option Value} {base : Heap} {C : Addr}
/-! ### day_later -/
def S_day_later : SpD := fun ds P _ => ∃ p : List Int, ds = [L p] ∧ p.length ≤ 4000 ∧ P (L (dlM p))
theorem sc_day_later : FnScope ["poly", "found", "value", "entry"] ["poly"] (defScope s_day_later) := ⟨rfl, rfl, rfl, by decide +kernel, rfl, by decide +kernel, by decide +kernel⟩
theorem ok_day_later {f : Addr} {fd : FuncData} (F : Fun K "day_later" "day_later" s_day_later f fd) (Z : Zs mg) : FnOk P w K mg base (L2.CX P w) 1 f fd ["poly"] (spOf K S_day_later) := by
  refine fn_mk F sc_day_later (fun ds P PX h => by obtain ⟨_, rfl, _⟩ := h; rfl) ⟨_, fun cdv A outer s H E hr => (dss_cons (ds_own (i := 1) sc_day_later.nd rfl (Or.inl rfl) (f_lst da_nil))
      (dss_cons (ds_set (i := 2) sc_day_later.nd rfl (Or.inl rfl) d_int)
      (dss_cons (ds_for PassesOwn.never rfl (di_over (f_rev (dvb 0)).d) (dg_name (i := 3) sc_day_later.nd rfl (Or.inl rfl)) (dss_cons (ds_set (i := 2) sc_day_later.nd rfl (Or.inl rfl) (d_op o_sub (dvb 3) (dvb 2)))
      (dss_one (ds_app (i := 1) (pe_bm PySem.F.plainAttrs_list PySem.F.slot_list_append PySem.F.type_list_append mt_append (pv 1) (da_cons (dv 2) da_nil))))))
      (dss_one (ds_ret (f_rev (dvb 1)).d))))), ?_⟩ (fun ds P PX h => h)
  rintro ds P ⟨p, rfl, hl, hp⟩
  simp only [seqD, setD, ownD, conD, varD, varB, binD, iopD, subD, fdivD, modD, powD, ltD, leD, gtD, geD, addD, mulD, catD, repD, eqD, neD, isND, notND, consA, nilA, lstD, tupD, callB, callD, lenD, toIntD, toListD, toTupD, ixD, slD, slL, slT, noO, someO, revD, tstD, truD, andT, orT, notT, andV, orV, notV, ifeD, negD, chnD, retD, retN, ifD, nextD, shareD, dropD, augD, appD, extD, stiD, gN, gsNil, gsCons, gT, gLD, asgD, breakD, contD, fldD, prpD, mthD, makD, sfdD, insOf, oopD, oeqD, aeqD, lrgD, lcPopD, isBD, notBD, ogtD, rseD, isiD, tryV, dropX, ogtX, callX, setX, retX, yesT, max2D, min2D, zipD, enumD, overD, rng1D, rng2D, sumD, allD, anyD, lcD_eq, startD, startI, wipeD, List.map_cons, List.map_nil, List.length_cons, List.length_nil, List.replicate_succ, List.replicate_zero, List.cons_append, List.nil_append, List.set_cons_succ, List.set_cons_zero, List.getElem?_cons_zero, List.getElem?_cons_succ, Nat.reduceAdd, Nat.reduceSub, Nat.reduceLT, Option.some.injEq, true_and, and_true, Int.zero_add, List.length_map, ct, at_h, at_t, exists_eq_left']
  refine ⟨szL (by decide), fun a => ⟨fun i ρ => ∃ x, ρ = [.sh (L p), .ow a (L (dlM (p.drop (p.length - i))).reverse), .sh (.int ((dlM (p.drop (p.length - i))).headD 0)), x], ⟨.no, ?_⟩, ?_, ?_⟩⟩
  · rw [Nat.sub_zero, List.drop_length]; rfl
  · rintro i d ρ hd ⟨x, rfl⟩
    rw [← List.map_reverse] at hd
    obtain ⟨c, hc, rfl⟩ := map_get hd
    have hi : i < p.length := by
      have := (List.getElem?_eq_some_iff.mp hc).1
      rwa [List.length_reverse] at this
    have hc2 : p[p.length - 1 - i]? = some c := by rw [List.getElem?_reverse hi] at hc; exact hc
    have ed : p.drop (p.length - (i + 1)) = c :: p.drop (p.length - i) := by
      have h1 : p.length - (i + 1) < p.length := by omega
      rw [List.drop_eq_getElem_cons h1, show p.length - (i + 1) + 1 = p.length - i by omega]
      congr 1
      rw [show p.length - 1 - i = p.length - (i + 1) by omega, List.getElem?_eq_getElem h1] at hc2
      exact Option.some.inj hc2
    simp only [seqD, setD, ownD, conD, varD, varB, binD, iopD, subD, fdivD, modD, powD, ltD, leD, gtD, geD, addD, mulD, catD, repD, eqD, neD, isND, notND, consA, nilA, lstD, tupD, callB, callD, lenD, toIntD, toListD, toTupD, ixD, slD, slL, slT, noO, someO, revD, tstD, truD, andT, orT, notT, andV, orV, notV, ifeD, negD, chnD, retD, retN, ifD, nextD, shareD, dropD, augD, appD, extD, stiD, gN, gsNil, gsCons, gT, gLD, asgD, breakD, contD, fldD, prpD, mthD, makD, sfdD, insOf, oopD, oeqD, aeqD, lrgD, lcPopD, isBD, notBD, ogtD, rseD, isiD, tryV, dropX, ogtX, callX, setX, retX, yesT, max2D, min2D, zipD, enumD, overD, rng1D, rng2D, sumD, allD, anyD, lcD_eq, startD, startI, wipeD, List.map_cons, List.map_nil, List.length_cons, List.length_nil, List.replicate_succ, List.replicate_zero, List.cons_append, List.nil_append, List.set_cons_succ, List.set_cons_zero, List.getElem?_cons_zero, List.getElem?_cons_succ, Nat.reduceAdd, Nat.reduceSub, Nat.reduceLT, Option.some.injEq, true_and, and_true, Int.zero_add, List.length_map, ct, at_h, at_t, exists_eq_left']
    refine ⟨?_, ?_⟩
    · rw [List.length_reverse, dlM_len, List.length_drop]; exact szT (by omega)
    · rw [ed, dlM, List.reverse_cons, L_snoc]
      exact ⟨_, rfl⟩
  · rintro ρ ⟨x, rfl⟩
    rw [List.length_reverse, List.length_map, Nat.sub_self, List.drop_zero]
    simp only [seqD, setD, ownD, conD, varD, varB, binD, iopD, subD, fdivD, modD, powD, ltD, leD, gtD, geD, addD, mulD, catD, repD, eqD, neD, isND, notND, consA, nilA, lstD, tupD, callB, callD, lenD, toIntD, toListD, toTupD, ixD, slD, slL, slT, noO, someO, revD, tstD, truD, andT, orT, notT, andV, orV, notV, ifeD, negD, chnD, retD, retN, ifD, nextD, shareD, dropD, augD, appD, extD, stiD, gN, gsNil, gsCons, gT, gLD, asgD, breakD, contD, fldD, prpD, mthD, makD, sfdD, insOf, oopD, oeqD, aeqD, lrgD, lcPopD, isBD, notBD, ogtD, rseD, isiD, tryV, dropX, ogtX, callX, setX, retX, yesT, max2D, min2D, zipD, enumD, overD, rng1D, rng2D, sumD, allD, anyD, lcD_eq, startD, startI, wipeD, List.map_cons, List.map_nil, List.length_cons, List.length_nil, List.replicate_succ, List.replicate_zero, List.cons_append, List.nil_append, List.set_cons_succ, List.set_cons_zero, List.getElem?_cons_zero, List.getElem?_cons_succ, Nat.reduceAdd, Nat.reduceSub, Nat.reduceLT, Option.some.injEq, true_and, and_true, Int.zero_add, List.length_map, ct, at_h, at_t, exists_eq_left']
    rw [← List.map_reverse, List.reverse_reverse]
    exact hp
def S_steps_of : SpD := fun ds P _ => ∃ p : List Int, ds = [L p] ∧ p.length ≤ 4000 ∧ P (L ((List.range p.length).map (stp (cf p))))
theorem sc_steps_of : FnScope ["numbers", "later", "number"] ["numbers"] (defScope s_steps_of) := ⟨rfl, rfl, rfl, by decide +kernel, rfl, by decide +kernel, by decide +kernel⟩
theorem ok_steps_of {f : Addr} {fd : FuncData} (F : Fun K "steps_of" "steps_of" s_steps_of f fd) (Z : Zs mg) : FnOk P w K mg base (L2.CX P w) 1 f fd ["numbers"] (spOf K S_steps_of) := by
  refine fn_mk F sc_steps_of (fun ds P PX h => by obtain ⟨_, rfl, _⟩ := h; rfl) ⟨_, fun cdv A outer s H E hr => (dss_one (ds_ret (f_lc rfl sc_steps_of.nd (di_zip (by rfl) Z.zip (da_cons (dv 0) (da_cons (d_opF f_cat (f_lst (da_cons d_int da_nil)).d.bo (dvb 0)).d da_nil))) (blkOk_by (own := [("later", 1), ("number", 2)]) (N := ["numbers", "later", "number"]) (sc := defScope s_steps_of) (by decide +kernel)) (fun _ _ _ _ _ => (pg_tup (n := 2) rfl (pgs_cons (pg_name (i := 1) sc_steps_of.nd rfl (by first | exact Or.inl rfl | exact Or.inr rfl)) (pgs_cons (pg_name (i := 2) sc_steps_of.nd rfl (by first | exact Or.inl rfl | exact Or.inr rfl)) pgs_nil)))) (tg_tup (n := 2) (tgs_cons (tg_name (i := 1)) (tgs_cons (tg_name (i := 2)) tgs_nil))) (fun _ _ _ _ _ => dts_nil) (fun _ _ _ _ _ => (d_op o_sub (dvb 1) (dvb 2)))).d)), ?_⟩ (fun ds P PX h => h)
  rintro ds P ⟨p, rfl, hl, hp⟩
  simp only [seqD, setD, ownD, conD, varD, varB, binD, iopD, subD, fdivD, modD, powD, ltD, leD, gtD, geD, addD, mulD, catD, repD, eqD, neD, isND, notND, consA, nilA, lstD, tupD, callB, callD, lenD, toIntD, toListD, toTupD, ixD, slD, slL, slT, noO, someO, revD, tstD, truD, andT, orT, notT, andV, orV, notV, ifeD, negD, chnD, retD, retN, ifD, nextD, shareD, dropD, augD, appD, extD, stiD, gN, gsNil, gsCons, gT, gLD, asgD, breakD, contD, fldD, prpD, mthD, makD, sfdD, insOf, oopD, oeqD, aeqD, lrgD, lcPopD, isBD, notBD, ogtD, rseD, isiD, tryV, dropX, ogtX, callX, setX, retX, yesT, max2D, min2D, zipD, enumD, overD, rng1D, rng2D, sumD, allD, anyD, lcD_eq, startD, startI, wipeD, List.map_cons, List.map_nil, List.length_cons, List.length_nil, List.replicate_succ, List.replicate_zero, List.cons_append, List.nil_append, List.set_cons_succ, List.set_cons_zero, List.getElem?_cons_zero, List.getElem?_cons_succ, Nat.reduceAdd, Nat.reduceSub, Nat.reduceLT, Option.some.injEq, true_and, and_true, Int.zero_add, List.length_map, ct, at_h, at_t, exists_eq_left']
  refine ⟨szL (by decide), szL (by omega), ?_⟩
  have zl : (zipL (p.map D.int) (D.int 0 :: p.map D.int)).length = p.length := by
    rw [DL.zip_len, List.length_cons, List.length_map]; omega
  refine lc_int (stp (cf p)) (by rw [zl]; omega) (fun i d Q hd hi hq => ?_) (by rw [zl]; exact hp)
  obtain ⟨x, y, hx, hy, rfl⟩ := DL.zip_get hd
  obtain ⟨x, hx1, rfl⟩ := map_get hx
  rw [show D.int 0 :: p.map D.int = (0 :: p).map D.int from rfl] at hy
  obtain ⟨y, hy1, rfl⟩ := map_get hy
  simp only [seqD, setD, ownD, conD, varD, varB, binD, iopD, subD, fdivD, modD, powD, ltD, leD, gtD, geD, addD, mulD, catD, repD, eqD, neD, isND, notND, consA, nilA, lstD, tupD, callB, callD, lenD, toIntD, toListD, toTupD, ixD, slD, slL, slT, noO, someO, revD, tstD, truD, andT, orT, notT, andV, orV, notV, ifeD, negD, chnD, retD, retN, ifD, nextD, shareD, dropD, augD, appD, extD, stiD, gN, gsNil, gsCons, gT, gLD, asgD, breakD, contD, fldD, prpD, mthD, makD, sfdD, insOf, oopD, oeqD, aeqD, lrgD, lcPopD, isBD, notBD, ogtD, rseD, isiD, tryV, dropX, ogtX, callX, setX, retX, yesT, max2D, min2D, zipD, enumD, overD, rng1D, rng2D, sumD, allD, anyD, lcD_eq, startD, startI, wipeD, List.map_cons, List.map_nil, List.length_cons, List.length_nil, List.replicate_succ, List.replicate_zero, List.cons_append, List.nil_append, List.set_cons_succ, List.set_cons_zero, List.getElem?_cons_zero, List.getElem?_cons_succ, Nat.reduceAdd, Nat.reduceSub, Nat.reduceLT, Option.some.injEq, true_and, and_true, Int.zero_add]
  have e : stp (cf p) i = x - y := by
    cases i with
    | zero =>
      cases hy1
      show cf p 0 = x - 0
      rw [show cf p 0 = x from getI hx1]; omega
    | succ i =>
      have hy2 : p[i]? = some y := hy1
      show cf p (i + 1) - cf p i = x - y
      rw [show cf p (i + 1) = x from getI hx1, show cf p i = y from getI hy2]
  rw [e] at hq
  exact hq
/-! ### excess_steps -/
def S_excess : SpD := fun ds P _ => ∃ (h t : List Int) (B : Nat), ds = [L h, L t] ∧ Bd B t ∧ h.length ≤ 1000 ∧ t.length ≤ 1000 ∧ B ≤ 300000 ∧ P (L (excM h t))
theorem sc_excess_steps : FnScope ["firsts", "poly", "excess", "n", "number"] ["firsts", "poly"] (defScope s_excess_steps) := ⟨rfl, rfl, rfl, by decide +kernel, rfl, by decide +kernel, by decide +kernel⟩
theorem ok_excess {f : Addr} {fd : FuncData} (F : Fun K "excess_steps" "excess_steps" s_excess_steps f fd) (Z : Zs mg) (h_value_at : Fd P w K mg base "value_at" 2 ["poly", "n"] S_value_at) (h_steps_of : Fd P w K mg base "steps_of" 1 ["numbers"] S_steps_of) : FnOk P w K mg base (L2.CX P w) 3 f fd ["firsts", "poly"] (spOf K S_excess) := by
  refine fn_mk F sc_excess_steps (fun ds P PX h => by obtain ⟨_, _, _, rfl, _⟩ := h; rfl) ⟨_, fun cdv A outer s H E hr => (dss_cons (ds_setLc (i := 2) rfl sc_excess_steps.nd rfl rfl (sw_true rfl rfl rfl (by decide +kernel)) (di_enum (by rfl) Z.enumerate (da_cons (dv 0) da_nil)) (blkOk_by (own := [("n", 3), ("number", 4)]) (N := ["firsts", "poly", "excess", "n", "number"]) (sc := defScope s_excess_steps) (by decide +kernel)) (fun _ _ _ _ _ => (pg_tup (n := 2) rfl (pgs_cons (pg_name (i := 3) sc_excess_steps.nd rfl (by first | exact Or.inl rfl | exact Or.inr rfl)) (pgs_cons (pg_name (i := 4) sc_excess_steps.nd rfl (by first | exact Or.inl rfl | exact Or.inr rfl)) pgs_nil)))) (tg_tup (n := 2) (tgs_cons (tg_name (i := 3)) (tgs_cons (tg_name (i := 4)) tgs_nil))) (fun _ _ _ _ _ => dts_nil) (fun _ _ _ _ _ => (d_op o_sub (dvb 4) (d_call h_value_at (hr.mono (by decide)) (by rfl) (da_cons (dv 1) (da_cons (dv 3) da_nil))).bo)))
      (dss_one (ds_ret (d_call h_steps_of (hr.mono (by decide)) (by rfl) (da_cons (d_opF f_cat (dvb 2) (f_lst (da_cons d_int da_nil)).d.bo).d da_nil))))), ?_⟩ (fun ds P PX h => h)
  rintro ds P ⟨h, t, B, rfl, bt, lh, lt, hB, hp⟩
  simp only [seqD, setD, ownD, conD, varD, varB, binD, iopD, subD, fdivD, modD, powD, ltD, leD, gtD, geD, addD, mulD, catD, repD, eqD, neD, isND, notND, consA, nilA, lstD, tupD, callB, callD, lenD, toIntD, toListD, toTupD, ixD, slD, slL, slT, noO, someO, revD, tstD, truD, andT, orT, notT, andV, orV, notV, ifeD, negD, chnD, retD, retN, ifD, nextD, shareD, dropD, augD, appD, extD, stiD, gN, gsNil, gsCons, gT, gLD, asgD, breakD, contD, fldD, prpD, mthD, makD, sfdD, insOf, oopD, oeqD, aeqD, lrgD, lcPopD, isBD, notBD, ogtD, rseD, isiD, tryV, dropX, ogtX, callX, setX, retX, yesT, max2D, min2D, zipD, enumD, overD, rng1D, rng2D, sumD, allD, anyD, lcD_eq, startD, startI, wipeD, List.map_cons, List.map_nil, List.length_cons, List.length_nil, List.replicate_succ, List.replicate_zero, List.cons_append, List.nil_append, List.set_cons_succ, List.set_cons_zero, List.getElem?_cons_zero, List.getElem?_cons_succ, Nat.reduceAdd, Nat.reduceSub, Nat.reduceLT, Option.some.injEq, true_and, and_true, Int.zero_add, List.length_map, ct, at_h, at_t, exists_eq_left']
  have el : (enumL (h.map D.int)).length = h.length := by rw [enum_len, List.length_map]
  refine lc_int (exc h t) (by rw [el]; omega) (fun i d Q hd hi hq => ?_) ?_
  · obtain ⟨z, hz, rfl⟩ := enum_get hd
    obtain ⟨c, hc, rfl⟩ := map_get hz
    have hi : i < h.length := (List.getElem?_eq_some_iff.mp hc).1
    have m2 : (10 + 1) * (t.length + 1) ≤ 11 * 1001 := Nat.mul_le_mul_left _ (by omega)
    simp only [seqD, setD, ownD, conD, varD, varB, binD, iopD, subD, fdivD, modD, powD, ltD, leD, gtD, geD, addD, mulD, catD, repD, eqD, neD, isND, notND, consA, nilA, lstD, tupD, callB, callD, lenD, toIntD, toListD, toTupD, ixD, slD, slL, slT, noO, someO, revD, tstD, truD, andT, orT, notT, andV, orV, notV, ifeD, negD, chnD, retD, retN, ifD, nextD, shareD, dropD, augD, appD, extD, stiD, gN, gsNil, gsCons, gT, gLD, asgD, breakD, contD, fldD, prpD, mthD, makD, sfdD, insOf, oopD, oeqD, aeqD, lrgD, lcPopD, isBD, notBD, ogtD, rseD, isiD, tryV, dropX, ogtX, callX, setX, retX, yesT, max2D, min2D, zipD, enumD, overD, rng1D, rng2D, sumD, allD, anyD, lcD_eq, startD, startI, wipeD, List.map_cons, List.map_nil, List.length_cons, List.length_nil, List.replicate_succ, List.replicate_zero, List.cons_append, List.nil_append, List.set_cons_succ, List.set_cons_zero, List.getElem?_cons_zero, List.getElem?_cons_succ, Nat.reduceAdd, Nat.reduceSub, Nat.reduceLT, Option.some.injEq, true_and, and_true, Int.zero_add]
    refine ⟨t, _, B, 10, rfl, bt, by omega, by omega, by omega, by omega, ?_⟩
    unfold exc at hq
    rw [if_pos hi, getI hc] at hq
    exact hq
  · rw [el]
    refine ⟨szL (by decide), by simp only [el, List.length_map, List.length_range, List.length_cons, List.length_nil]; exact szL (by omega), ?_⟩
    rw [show [D.int 0] = [0].map D.int from rfl, ← List.map_append]
    refine ⟨_, rfl, by rw [List.length_append, List.length_map, List.length_range]; show h.length + 1 ≤ 4000; omega, ?_⟩
    have e : cf ((List.range h.length).map (exc h t) ++ [0]) = exc h t := by
      funext j
      show (((List.range h.length).map (exc h t)) ++ List.replicate 1 0).getD j 0 = _
      rw [pad_get, getD_map_range]
      split
      · rfl
      · rw [exc_big (by omega)]
    rw [e, List.length_append, List.length_map, List.length_range]
    exact hp
/-! ### delayed -/
def S_delayed : SpD := fun ds P _ => ∃ (ws p : List Int) (B W : Nat), ds = [L ws, L p] ∧ Bd W ws ∧ Bd B p ∧ W + B ≤ 800000 ∧ ws.length ≤ 4000 ∧ p.length ≤ 4000 ∧ P (L (delayM p ws))
theorem sc_delayed : FnScope ["weights", "poly", "found", "weight", "entry", "later"] ["weights", "poly"] (defScope s_delayed) := ⟨rfl, rfl, rfl, by decide +kernel, rfl, by decide +kernel, by decide +kernel⟩
theorem ok_delayed {f : Addr} {fd : FuncData} (F : Fun K "delayed" "delayed" s_delayed f fd) (Z : Zs mg) (h_day_later : Fd P w K mg base "day_later" 1 ["poly"] S_day_later) : FnOk P w K mg base (L2.CX P w) 2 f fd ["weights", "poly"] (spOf K S_delayed) := by
  refine fn_mk F sc_delayed (fun ds P PX h => by obtain ⟨_, _, _, _, rfl, _⟩ := h; rfl) ⟨_, fun cdv A outer s H E hr => (dss_cons (ds_set (i := 2) sc_delayed.nd rfl (Or.inl rfl) (d_opF f_rep (f_lst (da_cons d_int da_nil)).d.bo (d_callB b_len (by rfl) Z.len bt_len (db_cons (dvb 1) db_nil)).bo).d)
      (dss_cons (ds_for PassesOwn.never rfl (di_over (f_rev (dvb 0)).d) (dg_name (i := 3) sc_delayed.nd rfl (Or.inr rfl)) (dss_one (ds_setLc (i := 2) rfl sc_delayed.nd rfl rfl (sw_true rfl rfl rfl (by decide +kernel)) (di_zip (by rfl) Z.zip (da_cons (dv 1) (da_cons (d_call h_day_later (hr.mono (by decide)) (by rfl) (da_cons (dv 2) da_nil)) da_nil))) (blkOk_by (own := [("entry", 4), ("later", 5)]) (N := ["weights", "poly", "found", "weight", "entry", "later"]) (sc := defScope s_delayed) (by decide +kernel)) (fun _ _ _ _ _ => (pg_tup (n := 2) rfl (pgs_cons (pg_name (i := 4) sc_delayed.nd rfl (by first | exact Or.inl rfl | exact Or.inr rfl)) (pgs_cons (pg_name (i := 5) sc_delayed.nd rfl (by first | exact Or.inl rfl | exact Or.inr rfl)) pgs_nil)))) (tg_tup (n := 2) (tgs_cons (tg_name (i := 4)) (tgs_cons (tg_name (i := 5)) tgs_nil))) (fun _ _ _ _ _ => dts_nil) (fun _ _ _ _ _ => (d_op o_add (d_op o_mul (dvb 3) (dvb 4)).bo (dvb 5))))))
      (dss_one (ds_ret (dv 2))))), ?_⟩ (fun ds P PX h => h)
  rintro ds P ⟨ws, p, B, W, rfl, bw, bp, hB, lw, lp, hp⟩
  simp only [seqD, setD, ownD, conD, varD, varB, binD, iopD, subD, fdivD, modD, powD, ltD, leD, gtD, geD, addD, mulD, catD, repD, eqD, neD, isND, notND, consA, nilA, lstD, tupD, callB, callD, lenD, toIntD, toListD, toTupD, ixD, slD, slL, slT, noO, someO, revD, tstD, truD, andT, orT, notT, andV, orV, notV, ifeD, negD, chnD, retD, retN, ifD, nextD, shareD, dropD, augD, appD, extD, stiD, gN, gsNil, gsCons, gT, gLD, asgD, breakD, contD, fldD, prpD, mthD, makD, sfdD, insOf, oopD, oeqD, aeqD, lrgD, lcPopD, isBD, notBD, ogtD, rseD, isiD, tryV, dropX, ogtX, callX, setX, retX, yesT, max2D, min2D, zipD, enumD, overD, rng1D, rng2D, sumD, allD, anyD, lcD_eq, startD, startI, wipeD, List.map_cons, List.map_nil, List.length_cons, List.length_nil, List.replicate_succ, List.replicate_zero, List.cons_append, List.nil_append, List.set_cons_succ, List.set_cons_zero, List.getElem?_cons_zero, List.getElem?_cons_succ, Nat.reduceAdd, Nat.reduceSub, Nat.reduceLT, Option.some.injEq, true_and, and_true, Int.zero_add, List.length_map, ct, at_h, at_t, exists_eq_left']
  rw [rep0, Int.toNat_natCast]
  refine ⟨szL (by decide), by omega, by omega, szL (by omega), ?_⟩
  refine ⟨fun i ρ => ∃ x, ρ = [.sh (L ws), .sh (L p), .sh (L (delayM p (ws.drop (ws.length - i)))), x, .no, .no], ⟨.no, ?_⟩, ?_, ?_⟩
  · rw [Nat.sub_zero, List.drop_length]; rfl
  · rintro i d ρ hd ⟨x, rfl⟩
    rw [← List.map_reverse] at hd
    obtain ⟨c, hc, rfl⟩ := map_get hd
    have hi : i < ws.length := by
      have := (List.getElem?_eq_some_iff.mp hc).1
      rwa [List.length_reverse] at this
    have hc2 : ws[ws.length - 1 - i]? = some c := by rw [List.getElem?_reverse hi] at hc; exact hc
    have ed : ws.drop (ws.length - (i + 1)) = c :: ws.drop (ws.length - i) := by
      have h1 : ws.length - (i + 1) < ws.length := by omega
      rw [List.drop_eq_getElem_cons h1, show ws.length - (i + 1) + 1 = ws.length - i by omega]
      congr 1
      rw [show ws.length - 1 - i = ws.length - (i + 1) by omega, List.getElem?_eq_getElem h1] at hc2
      exact Option.some.inj hc2
    have hW : c.natAbs < 2 ^ W := bw c (List.mem_of_getElem? hc2)
    simp only [seqD, setD, ownD, conD, varD, varB, binD, iopD, subD, fdivD, modD, powD, ltD, leD, gtD, geD, addD, mulD, catD, repD, eqD, neD, isND, notND, consA, nilA, lstD, tupD, callB, callD, lenD, toIntD, toListD, toTupD, ixD, slD, slL, slT, noO, someO, revD, tstD, truD, andT, orT, notT, andV, orV, notV, ifeD, negD, chnD, retD, retN, ifD, nextD, shareD, dropD, augD, appD, extD, stiD, gN, gsNil, gsCons, gT, gLD, asgD, breakD, contD, fldD, prpD, mthD, makD, sfdD, insOf, oopD, oeqD, aeqD, lrgD, lcPopD, isBD, notBD, ogtD, rseD, isiD, tryV, dropX, ogtX, callX, setX, retX, yesT, max2D, min2D, zipD, enumD, overD, rng1D, rng2D, sumD, allD, anyD, lcD_eq, startD, startI, wipeD, List.map_cons, List.map_nil, List.length_cons, List.length_nil, List.replicate_succ, List.replicate_zero, List.cons_append, List.nil_append, List.set_cons_succ, List.set_cons_zero, List.getElem?_cons_zero, List.getElem?_cons_succ, Nat.reduceAdd, Nat.reduceSub, Nat.reduceLT, Option.some.injEq, true_and, and_true, Int.zero_add, List.length_map, ct, at_h, at_t, exists_eq_left']
    refine ⟨_, rfl, by rw [delayM_len]; omega, ?_⟩
    have zl : (zipL (p.map D.int) ((dlM (delayM p (ws.drop (ws.length - i)))).map D.int)).length = p.length := by
      rw [DL.zip_len, List.length_map, List.length_map, dlM_len, delayM_len]; omega
    refine lc_int (fun j => c * p.getD j 0 + (dlM (delayM p (ws.drop (ws.length - i)))).getD j 0) (by rw [zl]; omega) (fun j d Q hd hj hq => ?_) ?_
    · obtain ⟨x, y, hx, hy, rfl⟩ := DL.zip_get hd
      obtain ⟨x, hx1, rfl⟩ := map_get hx
      obtain ⟨y, hy1, rfl⟩ := map_get hy
      simp only [seqD, setD, ownD, conD, varD, varB, binD, iopD, subD, fdivD, modD, powD, ltD, leD, gtD, geD, addD, mulD, catD, repD, eqD, neD, isND, notND, consA, nilA, lstD, tupD, callB, callD, lenD, toIntD, toListD, toTupD, ixD, slD, slL, slT, noO, someO, revD, tstD, truD, andT, orT, notT, andV, orV, notV, ifeD, negD, chnD, retD, retN, ifD, nextD, shareD, dropD, augD, appD, extD, stiD, gN, gsNil, gsCons, gT, gLD, asgD, breakD, contD, fldD, prpD, mthD, makD, sfdD, insOf, oopD, oeqD, aeqD, lrgD, lcPopD, isBD, notBD, ogtD, rseD, isiD, tryV, dropX, ogtX, callX, setX, retX, yesT, max2D, min2D, zipD, enumD, overD, rng1D, rng2D, sumD, allD, anyD, lcD_eq, startD, startI, wipeD, List.map_cons, List.map_nil, List.length_cons, List.length_nil, List.replicate_succ, List.replicate_zero, List.cons_append, List.nil_append, List.set_cons_succ, List.set_cons_zero, List.getElem?_cons_zero, List.getElem?_cons_succ, Nat.reduceAdd, Nat.reduceSub, Nat.reduceLT, Option.some.injEq, true_and, and_true, Int.zero_add]
      rw [getI hx1, getI hy1] at hq
      exact ⟨mulW_of hW (bp.get hx1) (by omega), hq⟩
    · rw [zl, ed]
      exact ⟨_, rfl⟩
  · rintro ρ ⟨x, rfl⟩
    rw [List.length_reverse, List.length_map, Nat.sub_self, List.drop_zero]
    exact hp
/-! ### chained -/
def S_chained : SpD := fun ds P _ => ∃ (a b : List Int) (A B : Nat), ds = [L a, L b] ∧ Bd A a ∧ Bd B b ∧ A + B ≤ 800000 ∧ a.length ≤ 4000 ∧ b.length ≤ 4000 ∧ P (L (chM a b))
theorem sc_chained : FnScope ["one", "other", "found", "index", "first", "k"] ["one", "other"] (defScope s_chained) := ⟨rfl, rfl, rfl, by decide +kernel, rfl, by decide +kernel, by decide +kernel⟩
theorem ok_chained {f : Addr} {fd : FuncData} (F : Fun K "chained" "chained" s_chained f fd) (Z : Zs mg) : FnOk P w K mg base (L2.CX P w) 1 f fd ["one", "other"] (spOf K S_chained) := by
  refine fn_mk F sc_chained (fun ds P PX h => by obtain ⟨_, _, _, _, rfl, _⟩ := h; rfl) ⟨_, fun cdv A outer s H E hr => (dss_cons (ds_own (i := 2) sc_chained.nd rfl (Or.inl rfl) (f_lst da_nil))
      (dss_cons (ds_for PassesOwn.never rfl (di_rng1 (by rfl) Z.range (db_cons (d_op o_add (d_callB b_len (by rfl) Z.len bt_len (db_cons (dvb 0) db_nil)).bo (d_callB b_len (by rfl) Z.len bt_len (db_cons (dvb 1) db_nil)).bo).bo db_nil)) (dg_name (i := 3) sc_chained.nd rfl (Or.inr rfl)) (dss_cons (ds_set (i := 4) sc_chained.nd rfl (Or.inl rfl) (d_callB (b_max2 rfl) (by rfl) Z.max bt_max (db_cons d_int.bo (db_cons (d_op o_sub (d_op o_add (dvb 3) d_int.bo).bo (d_callB b_len (by rfl) Z.len bt_len (db_cons (dvb 1) db_nil)).bo).bo db_nil))))
      (dss_one (ds_app (i := 2) (pe_bm PySem.F.plainAttrs_list PySem.F.slot_list_append PySem.F.type_list_append mt_append (pv 2) (da_cons (d_callB (b_sum rfl) (by rfl) Z.sum bt_sum (db_cons (f_lc rfl sc_chained.nd (di_rng2 (by rfl) Z.range (db_cons (dvb 4) (db_cons (d_callB (b_min2 rfl) (by rfl) Z.min bt_min (db_cons (d_op o_add (dvb 3) d_int.bo).bo (db_cons (d_callB b_len (by rfl) Z.len bt_len (db_cons (dvb 0) db_nil)).bo db_nil))).bo db_nil))) (blkOk_by (own := [("k", 5)]) (N := ["one", "other", "found", "index", "first", "k"]) (sc := defScope s_chained) (by decide +kernel)) (fun _ _ _ _ _ => (pg_name (i := 5) sc_chained.nd rfl (by first | exact Or.inl rfl | exact Or.inr rfl))) (tg_name (i := 5)) (fun _ _ _ _ _ => dts_nil) (fun _ _ _ _ _ => (d_op o_mul (d_ix (dvb 0) (dvb 5)).bo (d_ix (dvb 1) (d_op o_sub (dvb 3) (dvb 5)).bo).bo))).d.bo db_nil)) da_nil))))))
      (dss_one (ds_share 2 (ds_ret (dv 2)))))), ?_⟩ (fun ds P PX h => h)
  rintro ds P ⟨a, b, A, B, rfl, ba, bb, hB, la, lb, hp⟩
  simp only [seqD, setD, ownD, conD, varD, varB, binD, iopD, subD, fdivD, modD, powD, ltD, leD, gtD, geD, addD, mulD, catD, repD, eqD, neD, isND, notND, consA, nilA, lstD, tupD, callB, callD, lenD, toIntD, toListD, toTupD, ixD, slD, slL, slT, noO, someO, revD, tstD, truD, andT, orT, notT, andV, orV, notV, ifeD, negD, chnD, retD, retN, ifD, nextD, shareD, dropD, augD, appD, extD, stiD, gN, gsNil, gsCons, gT, gLD, asgD, breakD, contD, fldD, prpD, mthD, makD, sfdD, insOf, oopD, oeqD, aeqD, lrgD, lcPopD, isBD, notBD, ogtD, rseD, isiD, tryV, dropX, ogtX, callX, setX, retX, yesT, max2D, min2D, zipD, enumD, overD, rng1D, rng2D, sumD, allD, anyD, lcD_eq, startD, startI, wipeD, List.map_cons, List.map_nil, List.length_cons, List.length_nil, List.replicate_succ, List.replicate_zero, List.cons_append, List.nil_append, List.set_cons_succ, List.set_cons_zero, List.getElem?_cons_zero, List.getElem?_cons_succ, Nat.reduceAdd, Nat.reduceSub, Nat.reduceLT, Option.some.injEq, true_and, and_true, Int.zero_add, List.length_map, ct, at_h, at_t, exists_eq_left']
  refine ⟨szL (by decide), fun ad => ?_⟩
  rw [show ∀ (x : TSd) (DD : EndsD) (ρ : DL.Env), forD (rng1D (consA (binD addD (callB lenD (consA (varB 0) nilA)) (callB lenD (consA (varB 1) nilA))) nilA)) (gN 3) x DD ρ = forD (rng1D (consA (binD addD (callB lenD (consA (varB 0) nilA)) (callB lenD (consA (varB 1) nilA))) nilA)) (gN 3) x DD ρ from fun _ _ _ => rfl]
  have la1 : (a.map D.int).length = a.length := List.length_map ..
  have lb1 : (b.map D.int).length = b.length := List.length_map ..
  refine ⟨by rw [la1, lb1]; omega, by rw [la1, lb1]; omega, fun i ρ => ∃ x y, ρ = [.sh (L a), .sh (L b), .ow ad (L ((List.range i).map (cv (cf a) (cf b)))), x, y, .no], ⟨.no, .no, rfl⟩, ?_, ?_⟩
  · rintro i d ρ hd ⟨x, y, rfl⟩
    obtain ⟨hi, rfl⟩ := rng_get hd
    rw [la1, lb1] at hi
    simp only [seqD, setD, ownD, conD, varD, varB, binD, iopD, subD, fdivD, modD, powD, ltD, leD, gtD, geD, addD, mulD, catD, repD, eqD, neD, isND, notND, consA, nilA, lstD, tupD, callB, callD, lenD, toIntD, toListD, toTupD, ixD, slD, slL, slT, noO, someO, revD, tstD, truD, andT, orT, notT, andV, orV, notV, ifeD, negD, chnD, retD, retN, ifD, nextD, shareD, dropD, augD, appD, extD, stiD, gN, gsNil, gsCons, gT, gLD, asgD, breakD, contD, fldD, prpD, mthD, makD, sfdD, insOf, oopD, oeqD, aeqD, lrgD, lcPopD, isBD, notBD, ogtD, rseD, isiD, tryV, dropX, ogtX, callX, setX, retX, yesT, max2D, min2D, zipD, enumD, overD, rng1D, rng2D, sumD, allD, anyD, lcD_eq, startD, startI, wipeD, List.map_cons, List.map_nil, List.length_cons, List.length_nil, List.replicate_succ, List.replicate_zero, List.cons_append, List.nil_append, List.set_cons_succ, List.set_cons_zero, List.getElem?_cons_zero, List.getElem?_cons_succ, Nat.reduceAdd, Nat.reduceSub, Nat.reduceLT, Option.some.injEq, true_and, and_true, Int.zero_add, List.length_map, ct, at_h, at_t, exists_eq_left']
    intro m e1 e2 e3
    have em : m = ((i + 1 - b.length : Nat) : Int) := by omega
    subst em
    intro m2 e4 e5 e6
    have em2 : m2 = ((min (i + 1) a.length : Nat) : Int) := by omega
    subst em2
    refine ⟨⟨by omega, by omega, by omega, by omega⟩, ?_⟩
    have rl : (rngL ((i + 1 - b.length : Nat) : Int) (((min (i + 1) a.length : Nat) : Int) - ((i + 1 - b.length : Nat) : Int)).toNat).length = min (i + 1) a.length - (i + 1 - b.length) := by rw [rngL_len]; omega
    refine lc_int (fun j => cf a (i + 1 - b.length + j) * cf b (i - (i + 1 - b.length + j))) (by rw [rl]; omega) (fun j d Q hd hj hq => ?_) ?_
    · obtain ⟨_, rfl⟩ := rng_get hd
      rw [rl] at hj
      simp only [seqD, setD, ownD, conD, varD, varB, binD, iopD, subD, fdivD, modD, powD, ltD, leD, gtD, geD, addD, mulD, catD, repD, eqD, neD, isND, notND, consA, nilA, lstD, tupD, callB, callD, lenD, toIntD, toListD, toTupD, ixD, slD, slL, slT, noO, someO, revD, tstD, truD, andT, orT, notT, andV, orV, notV, ifeD, negD, chnD, retD, retN, ifD, nextD, shareD, dropD, augD, appD, extD, stiD, gN, gsNil, gsCons, gT, gLD, asgD, breakD, contD, fldD, prpD, mthD, makD, sfdD, insOf, oopD, oeqD, aeqD, lrgD, lcPopD, isBD, notBD, ogtD, rseD, isiD, tryV, dropX, ogtX, callX, setX, retX, yesT, max2D, min2D, zipD, enumD, overD, rng1D, rng2D, sumD, allD, anyD, lcD_eq, startD, startI, wipeD, List.map_cons, List.map_nil, List.length_cons, List.length_nil, List.replicate_succ, List.replicate_zero, List.cons_append, List.nil_append, List.set_cons_succ, List.set_cons_zero, List.getElem?_cons_zero, List.getElem?_cons_succ, Nat.reduceAdd, Nat.reduceSub, Nat.reduceLT, Option.some.injEq, true_and, and_true, Int.zero_add, List.length_map, ct, at_h, at_t, exists_eq_left']
      have h1 : i + 1 - b.length + j < a.length := by omega
      have h2 : i - (i + 1 - b.length + j) < b.length := by omega
      rw [show ((i + 1 - b.length : Nat) : Int) + (j : Int) = ((i + 1 - b.length + j : Nat) : Int) by omega]
      refine ⟨_, ix_map _ (List.getElem?_eq_getElem h1), ?_⟩
      rw [show (i : Int) - ((i + 1 - b.length + j : Nat) : Int) = ((i - (i + 1 - b.length + j) : Nat) : Int) by omega]
      refine ⟨_, ix_map _ (List.getElem?_eq_getElem h2), ?_⟩
      refine ⟨mulW_of (ba.get (List.getElem?_eq_getElem h1)) (bb.get (List.getElem?_eq_getElem h2)) (by omega), ?_⟩
      unfold cf at hq
      rw [getI (List.getElem?_eq_getElem h1), getI (List.getElem?_eq_getElem h2)] at hq
      exact hq
    · rw [rl]
      refine ⟨_, rfl, by rw [List.length_range]; exact szT (by omega), ?_⟩
      rw [sum_range, ← cv_cut, L_snoc]
      exact ⟨.sh (.int (i : Nat)), .sh (.int ((i + 1 - b.length : Nat) : Int)), by rw [List.range_succ, List.map_append]; rfl⟩
  · rintro ρ ⟨x, y, rfl⟩
    rw [rngL_len]
    simp only [seqD, setD, ownD, conD, varD, varB, binD, iopD, subD, fdivD, modD, powD, ltD, leD, gtD, geD, addD, mulD, catD, repD, eqD, neD, isND, notND, consA, nilA, lstD, tupD, callB, callD, lenD, toIntD, toListD, toTupD, ixD, slD, slL, slT, noO, someO, revD, tstD, truD, andT, orT, notT, andV, orV, notV, ifeD, negD, chnD, retD, retN, ifD, nextD, shareD, dropD, augD, appD, extD, stiD, gN, gsNil, gsCons, gT, gLD, asgD, breakD, contD, fldD, prpD, mthD, makD, sfdD, insOf, oopD, oeqD, aeqD, lrgD, lcPopD, isBD, notBD, ogtD, rseD, isiD, tryV, dropX, ogtX, callX, setX, retX, yesT, max2D, min2D, zipD, enumD, overD, rng1D, rng2D, sumD, allD, anyD, lcD_eq, startD, startI, wipeD, List.map_cons, List.map_nil, List.length_cons, List.length_nil, List.replicate_succ, List.replicate_zero, List.cons_append, List.nil_append, List.set_cons_succ, List.set_cons_zero, List.getElem?_cons_zero, List.getElem?_cons_succ, Nat.reduceAdd, Nat.reduceSub, Nat.reduceLT, Option.some.injEq, true_and, and_true, Int.zero_add, List.length_map, ct, at_h, at_t, exists_eq_left']
    have e : ((a.length : Int) + (b.length : Int)).toNat = a.length + b.length := by omega
    rw [e]
    exact hp
/-! ### followed -/
def S_followed : SpD := fun ds P _ => ∃ (a b : List Int) (A B : Nat), ds = [L a, L b] ∧ Bd A a ∧ Bd B b ∧ A + 1 + B ≤ 800000 ∧ a.length ≤ b.length ∧ a.length ≤ 4000 ∧ P (L ((List.range a.length).map (cv (stp (cf a)) (cf b))))
theorem sc_followed : FnScope ["one", "other", "steps", "n", "k"] ["one", "other"] (defScope s_followed) := ⟨rfl, rfl, rfl, by decide +kernel, rfl, by decide +kernel, by decide +kernel⟩
theorem ok_followed {f : Addr} {fd : FuncData} (F : Fun K "followed" "followed" s_followed f fd) (Z : Zs mg) (h_steps_of : Fd P w K mg base "steps_of" 1 ["numbers"] S_steps_of) : FnOk P w K mg base (L2.CX P w) 2 f fd ["one", "other"] (spOf K S_followed) := by
  refine fn_mk F sc_followed (fun ds P PX h => by obtain ⟨_, _, _, _, rfl, _⟩ := h; rfl) ⟨_, fun cdv A outer s H E hr => (dss_cons (ds_set (i := 2) sc_followed.nd rfl (Or.inr rfl) (d_call h_steps_of (hr.mono (by decide)) (by rfl) (da_cons (dv 0) da_nil)))
      (dss_one (ds_ret (f_lc rfl sc_followed.nd (di_rng1 (by rfl) Z.range (db_cons (d_callB b_len (by rfl) Z.len bt_len (db_cons (dvb 0) db_nil)).bo db_nil)) (blkOk_by (own := [("n", 3)]) (N := ["one", "other", "steps", "n", "k"]) (sc := defScope s_followed) (by decide +kernel)) (fun _ _ _ _ _ => (pg_name (i := 3) sc_followed.nd rfl (by first | exact Or.inl rfl | exact Or.inr rfl))) (tg_name (i := 3)) (fun _ _ _ _ _ => dts_nil) (fun _ _ _ _ _ => (d_callB (b_sum rfl) (by rfl) Z.sum bt_sum (db_cons (f_lc rfl sc_followed.nd (di_rng1 (by rfl) Z.range (db_cons (d_op o_add (dvb 3) d_int.bo).bo db_nil)) (blkOk_by (own := [("k", 4)]) (N := ["one", "other", "steps", "n", "k"]) (by rfl)) (fun _ _ _ _ _ => (pg_name (i := 4) sc_followed.nd rfl (by first | exact Or.inl rfl | exact Or.inr rfl))) (tg_name (i := 4)) (fun _ _ _ _ _ => dts_nil) (fun _ _ _ _ _ => (d_op o_mul (d_ix (dvb 2) (dvb 4)).bo (d_ix (dvb 1) (d_op o_sub (dvb 3) (dvb 4)).bo).bo))).d.bo db_nil)))).d))), ?_⟩ (fun ds P PX h => h)
  rintro ds P ⟨a, b, A, B, rfl, ba, bb, hB, lb, la, hp⟩
  refine ⟨a, rfl, by omega, ?_⟩
  simp only [seqD, setD, ownD, conD, varD, varB, binD, iopD, subD, fdivD, modD, powD, ltD, leD, gtD, geD, addD, mulD, catD, repD, eqD, neD, isND, notND, consA, nilA, lstD, tupD, callB, callD, lenD, toIntD, toListD, toTupD, ixD, slD, slL, slT, noO, someO, revD, tstD, truD, andT, orT, notT, andV, orV, notV, ifeD, negD, chnD, retD, retN, ifD, nextD, shareD, dropD, augD, appD, extD, stiD, gN, gsNil, gsCons, gT, gLD, asgD, breakD, contD, fldD, prpD, mthD, makD, sfdD, insOf, oopD, oeqD, aeqD, lrgD, lcPopD, isBD, notBD, ogtD, rseD, isiD, tryV, dropX, ogtX, callX, setX, retX, yesT, max2D, min2D, zipD, enumD, overD, rng1D, rng2D, sumD, allD, anyD, lcD_eq, startD, startI, wipeD, List.map_cons, List.map_nil, List.length_cons, List.length_nil, List.replicate_succ, List.replicate_zero, List.cons_append, List.nil_append, List.set_cons_succ, List.set_cons_zero, List.getElem?_cons_zero, List.getElem?_cons_succ, Nat.reduceAdd, Nat.reduceSub, Nat.reduceLT, Option.some.injEq, true_and, and_true, Int.zero_add, List.length_map, ct, at_h, at_t, exists_eq_left']
  refine ⟨by omega, by omega, ?_⟩
  rw [Int.toNat_natCast]
  refine lc_int (cv (stp (cf a)) (cf b)) (by rw [rngL_len]; omega) (fun i d Q hd hi hq => ?_) (by rw [rngL_len]; exact hp)
  obtain ⟨hi, rfl⟩ := rng_get hd
  simp only [seqD, setD, ownD, conD, varD, varB, binD, iopD, subD, fdivD, modD, powD, ltD, leD, gtD, geD, addD, mulD, catD, repD, eqD, neD, isND, notND, consA, nilA, lstD, tupD, callB, callD, lenD, toIntD, toListD, toTupD, ixD, slD, slL, slT, noO, someO, revD, tstD, truD, andT, orT, notT, andV, orV, notV, ifeD, negD, chnD, retD, retN, ifD, nextD, shareD, dropD, augD, appD, extD, stiD, gN, gsNil, gsCons, gT, gLD, asgD, breakD, contD, fldD, prpD, mthD, makD, sfdD, insOf, oopD, oeqD, aeqD, lrgD, lcPopD, isBD, notBD, ogtD, rseD, isiD, tryV, dropX, ogtX, callX, setX, retX, yesT, max2D, min2D, zipD, enumD, overD, rng1D, rng2D, sumD, allD, anyD, lcD_eq, startD, startI, wipeD, List.map_cons, List.map_nil, List.length_cons, List.length_nil, List.replicate_succ, List.replicate_zero, List.cons_append, List.nil_append, List.set_cons_succ, List.set_cons_zero, List.getElem?_cons_zero, List.getElem?_cons_succ, Nat.reduceAdd, Nat.reduceSub, Nat.reduceLT, Option.some.injEq, true_and, and_true, Int.zero_add, List.length_map, ct, at_h, at_t, exists_eq_left']
  refine ⟨by omega, by omega, ?_⟩
  have rl : (rngL 0 ((i : Int) + 1).toNat).length = i + 1 := by rw [rngL_len]; omega
  refine lc_int (fun k => stp (cf a) k * cf b (i - k)) (by rw [rl]; omega) (fun k d Q hd hk hq => ?_) ?_
  · obtain ⟨_, rfl⟩ := rng_get hd
    rw [rl] at hk
    simp only [seqD, setD, ownD, conD, varD, varB, binD, iopD, subD, fdivD, modD, powD, ltD, leD, gtD, geD, addD, mulD, catD, repD, eqD, neD, isND, notND, consA, nilA, lstD, tupD, callB, callD, lenD, toIntD, toListD, toTupD, ixD, slD, slL, slT, noO, someO, revD, tstD, truD, andT, orT, notT, andV, orV, notV, ifeD, negD, chnD, retD, retN, ifD, nextD, shareD, dropD, augD, appD, extD, stiD, gN, gsNil, gsCons, gT, gLD, asgD, breakD, contD, fldD, prpD, mthD, makD, sfdD, insOf, oopD, oeqD, aeqD, lrgD, lcPopD, isBD, notBD, ogtD, rseD, isiD, tryV, dropX, ogtX, callX, setX, retX, yesT, max2D, min2D, zipD, enumD, overD, rng1D, rng2D, sumD, allD, anyD, lcD_eq, startD, startI, wipeD, List.map_cons, List.map_nil, List.length_cons, List.length_nil, List.replicate_succ, List.replicate_zero, List.cons_append, List.nil_append, List.set_cons_succ, List.set_cons_zero, List.getElem?_cons_zero, List.getElem?_cons_succ, Nat.reduceAdd, Nat.reduceSub, Nat.reduceLT, Option.some.injEq, true_and, and_true, Int.zero_add, List.length_map, ct, at_h, at_t, exists_eq_left']
    have h1 : k < a.length := by omega
    have h2 : i - k < b.length := by omega
    refine ⟨_, ix_map D.int (x := stp (cf a) k) (by rw [List.getElem?_map, List.getElem?_range h1]; rfl), ?_⟩
    rw [show (i : Int) - (k : Int) = ((i - k : Nat) : Int) by omega]
    refine ⟨_, ix_map _ (List.getElem?_eq_getElem h2), mulW_of (stp_bd (cf_bd ba) k) (bb.get (List.getElem?_eq_getElem h2)) (by omega), ?_⟩
    rw [show cf b (i - k) = _ from getI (List.getElem?_eq_getElem h2)] at hq
    exact hq
  · rw [rl]
    refine ⟨_, rfl, ?_⟩
    rw [sum_range]
    exact hq
/-! ### >> -/
def S_sq (C : Addr) : SpD := fun ds P _ => ∃ (h1 t1 h2 t2 : List Int) (B l : Nat), ds = [ct C h1 t1, ct C h2 t2] ∧ Bd B h1 ∧ Bd B t1 ∧ Bd B h2 ∧ Bd B t2 ∧ h1.length ≤ l ∧ t1.length ≤ l ∧ h2.length ≤ l ∧ t2.length ≤ l ∧ l ≤ 200 ∧ 2 * B + 70 * (l + 1) ≤ 300000 ∧
  P (ct C (sqH h1 t1 h2 t2) (trimM (sqP h1 t1 h2 t2)))
theorem sc_Counted_XrshiftX : FnScope ["self", "other", "size", "firsts", "poly", "n"] ["self", "other"] (defScope s_Counted_XrshiftX) := ⟨rfl, rfl, rfl, by decide +kernel, rfl, by decide +kernel, by decide +kernel⟩
theorem ok_rshift {CI : Addr} {f : Addr} {fd : FuncData} (F : Fun K "__rshift__" "Counted.__rshift__" s_Counted_XrshiftX f fd) (Z : Zs mg) (T_Counted : CtT K mg C) (h_Counted : Cd P w K mg base "Counted" C 4 ["self", "firsts", "poly"] (S_init C)) (h_Counted_XgetitemX : Gd P w K mg base C 4 ["self", "n"] (S_getitem C CI)) (h_added : Fd P w K mg base "added" 1 ["one", "other", "factor"] S_added) (h_followed : Fd P w K mg base "followed" 2 ["one", "other"] S_followed) (h_chained : Fd P w K mg base "chained" 1 ["one", "other"] S_chained) (h_delayed : Fd P w K mg base "delayed" 2 ["weights", "poly"] S_delayed) (h_excess_steps : Fd P w K mg base "excess_steps" 3 ["firsts", "poly"] S_excess) : FnOk P w K mg base (L2.CX P w) 6 f fd ["self", "other"] (spOf K (S_sq C)) := by
  refine fn_mk F sc_Counted_XrshiftX (fun ds P PX h => by obtain ⟨_, _, _, _, _, _, rfl, _⟩ := h; rfl) ⟨_, fun cdv A outer s H E hr => (dss_cons (ds_set (i := 2) sc_Counted_XrshiftX.nd rfl (Or.inl rfl) (d_op o_add (d_op o_add (d_callB b_len (by rfl) Z.len bt_len (db_cons (d_fld T_Counted.cls T_Counted.n_head (dvb 0)).bo db_nil)).bo (d_callB b_len (by rfl) Z.len bt_len (db_cons (d_fld T_Counted.cls T_Counted.n_head (dvb 1)).bo db_nil)).bo).bo d_int.bo))
      (dss_cons (ds_set (i := 3) sc_Counted_XrshiftX.nd rfl (Or.inl rfl) (d_call h_followed (hr.mono (by decide)) (by rfl) (da_cons (f_lc rfl sc_Counted_XrshiftX.nd (di_rng1 (by rfl) Z.range (db_cons (dvb 2) db_nil)) (blkOk_by (own := [("n", 5)]) (N := ["self", "other", "size", "firsts", "poly", "n"]) (sc := defScope s_Counted_XrshiftX) (by decide +kernel)) (fun _ _ _ _ _ => (pg_name (i := 5) sc_Counted_XrshiftX.nd rfl (by first | exact Or.inl rfl | exact Or.inr rfl))) (tg_name (i := 5)) (fun _ _ _ _ _ => dts_nil) (fun _ _ _ _ _ => (d_ownget h_Counted_XgetitemX (hr.mono (by decide)) (dv 0) (dv 5)))).d (da_cons (f_lc rfl sc_Counted_XrshiftX.nd (di_rng1 (by rfl) Z.range (db_cons (dvb 2) db_nil)) (blkOk_by (own := [("n", 5)]) (N := ["self", "other", "size", "firsts", "poly", "n"]) (sc := defScope s_Counted_XrshiftX) (by decide +kernel)) (fun _ _ _ _ _ => (pg_name (i := 5) sc_Counted_XrshiftX.nd rfl (by first | exact Or.inl rfl | exact Or.inr rfl))) (tg_name (i := 5)) (fun _ _ _ _ _ => dts_nil) (fun _ _ _ _ _ => (d_ownget h_Counted_XgetitemX (hr.mono (by decide)) (dv 1) (dv 5)))).d da_nil))))
      (dss_cons (ds_set (i := 4) sc_Counted_XrshiftX.nd rfl (Or.inl rfl) (d_call h_chained (hr.mono (by decide)) (by rfl) (da_cons (d_fld T_Counted.cls T_Counted.n_tail (dvb 0)) (da_cons (d_fld T_Counted.cls T_Counted.n_tail (dvb 1)) da_nil))))
      (dss_cons (ds_set (i := 4) sc_Counted_XrshiftX.nd rfl (Or.inl rfl) (d_call h_added (hr.mono (by decide)) (by rfl) (da_cons (dv 4) (da_cons (d_call h_delayed (hr.mono (by decide)) (by rfl) (da_cons (d_call h_excess_steps (hr.mono (by decide)) (by rfl) (da_cons (d_fld T_Counted.cls T_Counted.n_head (dvb 0)) (da_cons (d_fld T_Counted.cls T_Counted.n_tail (dvb 0)) da_nil))) (da_cons (d_fld T_Counted.cls T_Counted.n_tail (dvb 1)) da_nil))) (da_cons d_int da_nil)))))
      (dss_one (ds_ret (d_make h_Counted (hr.mono (by decide)) (by rfl) (da_cons (dv 3) (da_cons (d_call h_added (hr.mono (by decide)) (by rfl) (da_cons (dv 4) (da_cons (d_call h_delayed (hr.mono (by decide)) (by rfl) (da_cons (d_call h_excess_steps (hr.mono (by decide)) (by rfl) (da_cons (d_fld T_Counted.cls T_Counted.n_head (dvb 1)) (da_cons (d_fld T_Counted.cls T_Counted.n_tail (dvb 1)) da_nil))) (da_cons (d_fld T_Counted.cls T_Counted.n_tail (dvb 0)) da_nil))) (da_cons d_int da_nil)))) da_nil))).d)))))), ?_⟩ (fun ds P PX h => h)
  rintro ds P ⟨h1, t1, h2, t2, B, l, rfl, bh1, bt1, bh2, bt2, lh1, lt1, lh2, lt2, ll, hm, hp⟩
  simp only [seqD, setD, ownD, conD, varD, varB, binD, iopD, subD, fdivD, modD, powD, ltD, leD, gtD, geD, addD, mulD, catD, repD, eqD, neD, isND, notND, consA, nilA, lstD, tupD, callB, callD, lenD, toIntD, toListD, toTupD, ixD, slD, slL, slT, noO, someO, revD, tstD, truD, andT, orT, notT, andV, orV, notV, ifeD, negD, chnD, retD, retN, ifD, nextD, shareD, dropD, augD, appD, extD, stiD, gN, gsNil, gsCons, gT, gLD, asgD, breakD, contD, fldD, prpD, mthD, makD, sfdD, insOf, oopD, oeqD, aeqD, lrgD, lcPopD, isBD, notBD, ogtD, rseD, isiD, tryV, dropX, ogtX, callX, setX, retX, yesT, max2D, min2D, zipD, enumD, overD, rng1D, rng2D, sumD, allD, anyD, lcD_eq, startD, startI, wipeD, List.map_cons, List.map_nil, List.length_cons, List.length_nil, List.replicate_succ, List.replicate_zero, List.cons_append, List.nil_append, List.set_cons_succ, List.set_cons_zero, List.getElem?_cons_zero, List.getElem?_cons_succ, Nat.reduceAdd, Nat.reduceSub, Nat.reduceLT, Option.some.injEq, true_and, and_true, Int.zero_add, List.length_map, ct, at_h, at_t, exists_eq_left']
  rw [show (h1.length : Int) + (h2.length : Int) + 1 = ((h1.length + h2.length + 1 : Nat) : Int) by omega, Int.toNat_natCast]
  have hsz : h1.length + h2.length + 1 ≤ 401 := by omega
  refine ⟨by omega, by omega, ?_⟩
  refine lc_int (NU h1 t1) (by rw [rngL_len]; omega) (fun i d Q hd hi hq => ?_) ?_
  · obtain ⟨hi, rfl⟩ := rng_get hd
    simp only [seqD, setD, ownD, conD, varD, varB, binD, iopD, subD, fdivD, modD, powD, ltD, leD, gtD, geD, addD, mulD, catD, repD, eqD, neD, isND, notND, consA, nilA, lstD, tupD, callB, callD, lenD, toIntD, toListD, toTupD, ixD, slD, slL, slT, noO, someO, revD, tstD, truD, andT, orT, notT, andV, orV, notV, ifeD, negD, chnD, retD, retN, ifD, nextD, shareD, dropD, augD, appD, extD, stiD, gN, gsNil, gsCons, gT, gLD, asgD, breakD, contD, fldD, prpD, mthD, makD, sfdD, insOf, oopD, oeqD, aeqD, lrgD, lcPopD, isBD, notBD, ogtD, rseD, isiD, tryV, dropX, ogtX, callX, setX, retX, yesT, max2D, min2D, zipD, enumD, overD, rng1D, rng2D, sumD, allD, anyD, lcD_eq, startD, startI, wipeD, List.map_cons, List.map_nil, List.length_cons, List.length_nil, List.replicate_succ, List.replicate_zero, List.cons_append, List.nil_append, List.set_cons_succ, List.set_cons_zero, List.getElem?_cons_zero, List.getElem?_cons_succ, Nat.reduceAdd, Nat.reduceSub, Nat.reduceLT, Option.some.injEq, true_and, and_true, Int.zero_add, List.length_map, ct, at_h, at_t, exists_eq_left']
    exact ⟨h1, t1, (i : Int), rfl, fun h => absurd h (by omega), fun _ => ⟨B, 10, bt1, by omega, by omega, by omega, by omega, hq⟩⟩
  rw [rngL_len]
  refine ⟨by omega, by omega, ?_⟩
  refine lc_int (NU h2 t2) (by rw [rngL_len]; omega) (fun i d Q hd hi hq => ?_) ?_
  · obtain ⟨hi, rfl⟩ := rng_get hd
    simp only [seqD, setD, ownD, conD, varD, varB, binD, iopD, subD, fdivD, modD, powD, ltD, leD, gtD, geD, addD, mulD, catD, repD, eqD, neD, isND, notND, consA, nilA, lstD, tupD, callB, callD, lenD, toIntD, toListD, toTupD, ixD, slD, slL, slT, noO, someO, revD, tstD, truD, andT, orT, notT, andV, orV, notV, ifeD, negD, chnD, retD, retN, ifD, nextD, shareD, dropD, augD, appD, extD, stiD, gN, gsNil, gsCons, gT, gLD, asgD, breakD, contD, fldD, prpD, mthD, makD, sfdD, insOf, oopD, oeqD, aeqD, lrgD, lcPopD, isBD, notBD, ogtD, rseD, isiD, tryV, dropX, ogtX, callX, setX, retX, yesT, max2D, min2D, zipD, enumD, overD, rng1D, rng2D, sumD, allD, anyD, lcD_eq, startD, startI, wipeD, List.map_cons, List.map_nil, List.length_cons, List.length_nil, List.replicate_succ, List.replicate_zero, List.cons_append, List.nil_append, List.set_cons_succ, List.set_cons_zero, List.getElem?_cons_zero, List.getElem?_cons_succ, Nat.reduceAdd, Nat.reduceSub, Nat.reduceLT, Option.some.injEq, true_and, and_true, Int.zero_add, List.length_map, ct, at_h, at_t, exists_eq_left']
    exact ⟨h2, t2, (i : Int), rfl, fun h => absurd h (by omega), fun _ => ⟨B, 10, bt2, by omega, by omega, by omega, by omega, hq⟩⟩
  rw [rngL_len]
  have bn : ∀ {h t : List Int}, Bd B h → Bd B t → t.length ≤ l → Bd (B + 12 * l + 1) ((List.range (h1.length + h2.length + 1)).map (NU h t)) := fun hh ht hl x hx => by
    obtain ⟨n, hn, rfl⟩ := List.mem_map.mp hx
    have hn := List.mem_range.mp hn
    exact num_small hh ht (by omega) hl (by omega)
  refine ⟨_, _, B + 12 * l + 1, B + 12 * l + 1, rfl, bn bh1 bt1 lt1, bn bh2 bt2 lt2, by omega, by rw [List.length_map, List.length_map]; exact Nat.le_refl _, by rw [List.length_map, List.length_range]; omega, ?_⟩
  rw [List.length_map, List.length_range, fol_eq]
  refine ⟨t1, t2, B, B, rfl, bt1, bt2, by omega, by omega, by omega, ?_⟩
  refine ⟨h1, t1, B, rfl, bt1, by omega, by omega, by omega, ?_⟩
  refine ⟨_, t2, B, B + 12 * l + 3, rfl, excM_bd bh1 bt1 (by omega) lt1 (by omega), bt2, by omega, by rw [excM_len]; omega, by omega, ?_⟩
  have d1 := del_bd bh1 bt1 bt2 lh1 lt1 lt2 ll
  have d2 := del_bd bh2 bt2 bt1 lh2 lt2 lt1 ll
  have c : Bd (2 * B + 21 * l + 12) (chM t1 t2) := (chM_bd bt1 bt2 lt1 lt2).mono (by omega)
  refine ⟨_, _, 1, 2 * B + 21 * l + 12, 1, rfl, c, d1, by decide, by rw [chM_len]; omega, by rw [delayM_len]; omega, by omega, ?_⟩
  refine ⟨h2, t2, B, rfl, bt2, by omega, by omega, by omega, ?_⟩
  refine ⟨_, t1, B, B + 12 * l + 3, rfl, excM_bd bh2 bt2 (by omega) lt2 (by omega), bt1, by omega, by rw [excM_len]; omega, by omega, ?_⟩
  have e := addM_bd (F := 1) c d1 (f := 1) (by decide)
  refine ⟨_, _, 1, 2 * B + 21 * l + 12 + 1 + 1, 1, rfl, e, d2.mono (by omega), by decide, by rw [addM_len, chM_len, delayM_len]; omega, by rw [delayM_len]; omega, by omega, ?_⟩
  have sl := sqP_len h1 t1 h2 t2
  refine ⟨_, _, 2 * B + 21 * l + 16, 10, rfl, sqP_bd bh1 bt1 bh2 bt2 lh1 lt1 lh2 lt2 ll, by rw [List.length_map, List.length_range]; omega, ?_, ?_, ?_, hp⟩
  · show (sqP h1 t1 h2 t2).length ≤ _
    omega
  · show (sqP h1 t1 h2 t2).length ≤ _
    omega
  · show 2 * B + 21 * l + 16 + (10 + 1) * ((sqP h1 t1 h2 t2).length + 1) + 1 ≤ 400000
    omega
end
end KP

set_option Elab.async false
set_option linter.all false
set_option autoImplicit false
set_option maxRecDepth 100000
set_option maxHeartbeats 4000000
namespace KP
open PySem PySem.Spec PyProof.Rows L2 DL
section
variable {P : Program} {w : World} {K : PySem.W.Frag} {mg : Str → Option Value} {base : Heap} {C : Addr}
/-! ### == -/
def S_eqC (K : PySem.W.Frag) (C : Addr) : SpD := fun ds P _ => ∃ (h1 t1 : List Int) (d2 : D), ds = [ct C h1 t1, d2] ∧ ((∃ h2 t2 : List Int, d2 = ct C h2 t2 ∧ P (.bl (decide (h1 = h2) && decide (t1 = t2)))) ∨
  (insKnown K d2 ∧ (∃ t, tyT d2 = some t ∧ PySem.W.kitOne K t (.ref C) = some false) ∧ P (.bl false)))
theorem sc_Counted_XeqX : FnScope ["self", "other"] ["self", "other"] (defScope s_Counted_XeqX) := ⟨rfl, rfl, rfl, by decide +kernel, rfl, by decide +kernel, by decide +kernel⟩
theorem ok_eqC {f : Addr} {fd : FuncData} (F : Fun K "__eq__" "Counted.__eq__" s_Counted_XeqX f fd) (Z : Zs mg) (T_Counted : CtT K mg C) : FnOk P w K mg base (L2.CX P w) 1 f fd ["self", "other"] (spOf K (S_eqC K C)) := by
  refine fn_mk F sc_Counted_XeqX (fun ds P PX h => by obtain ⟨_, _, _, rfl, _⟩ := h; rfl) ⟨_, fun cdv A outer s H E hr => (dss_one (ds_ret (d_and (d_isi (K := K) rfl (by rfl) Z.isinstance (pe_clsN (by rfl) T_Counted.gC) (.own _) (dvb 1)) (d_and (d_cmp (o_eq hr.units) (d_fld T_Counted.cls T_Counted.n_head (dvb 0)).bo (d_fld T_Counted.cls T_Counted.n_head (dvb 1)).bo) (d_one (d_cmp (o_eq hr.units) (d_fld T_Counted.cls T_Counted.n_tail (dvb 0)).bo (d_fld T_Counted.cls T_Counted.n_tail (dvb 1)).bo)))))), ?_⟩ (fun ds P PX h => h)
  rintro ds P ⟨h1, t1, d2, rfl, h⟩
  rcases h with ⟨h2, t2, rfl, hp⟩ | ⟨hk, ⟨t, ht, hkt⟩, hp⟩
  · simp only [seqD, setD, ownD, conD, varD, varB, binD, iopD, subD, fdivD, modD, powD, ltD, leD, gtD, geD, addD, mulD, catD, repD, eqD, neD, isND, notND, consA, nilA, lstD, tupD, callB, callD, lenD, toIntD, toListD, toTupD, ixD, slD, slL, slT, noO, someO, revD, tstD, truD, andT, orT, notT, andV, orV, notV, ifeD, negD, chnD, retD, retN, ifD, nextD, shareD, dropD, augD, appD, extD, stiD, gN, gsNil, gsCons, gT, gLD, asgD, breakD, contD, fldD, prpD, mthD, makD, sfdD, insOf, oopD, oeqD, aeqD, lrgD, lcPopD, isBD, notBD, ogtD, rseD, isiD, tryV, dropX, ogtX, callX, setX, retX, yesT, max2D, min2D, zipD, enumD, overD, rng1D, rng2D, sumD, allD, anyD, lcD_eq, startD, startI, wipeD, List.map_cons, List.map_nil, List.length_cons, List.length_nil, List.replicate_succ, List.replicate_zero, List.cons_append, List.nil_append, List.set_cons_succ, List.set_cons_zero, List.getElem?_cons_zero, List.getElem?_cons_succ, Nat.reduceAdd, Nat.reduceSub, Nat.reduceLT, Option.some.injEq, true_and, and_true, Int.zero_add, List.length_map, ct, at_h, at_t, exists_eq_left', exists_and_left, tyT, insKnown, kit_ll, kit_ii, kit_ib, kit_cc, Bool.not_true, Bool.not_false, Bool.false_eq_true, if_false, if_true, eq_self]
    refine ⟨T_Counted.ins, pl_ints _ _, pl_ints _ _, ?_⟩
    rw [eqv_ints]
    by_cases c : h1 = h2
    · rw [decide_eq_true c, if_pos rfl]
      refine ⟨pl_ints _ _, pl_ints _ _, ?_⟩
      rw [eqv_ints]
      rw [decide_eq_true c, Bool.true_and] at hp
      exact hp
    · rw [decide_eq_false c, if_neg Bool.false_ne_true]
      rw [decide_eq_false c, Bool.false_and] at hp
      exact hp
  · simp only [seqD, setD, ownD, conD, varD, varB, binD, iopD, subD, fdivD, modD, powD, ltD, leD, gtD, geD, addD, mulD, catD, repD, eqD, neD, isND, notND, consA, nilA, lstD, tupD, callB, callD, lenD, toIntD, toListD, toTupD, ixD, slD, slL, slT, noO, someO, revD, tstD, truD, andT, orT, notT, andV, orV, notV, ifeD, negD, chnD, retD, retN, ifD, nextD, shareD, dropD, augD, appD, extD, stiD, gN, gsNil, gsCons, gT, gLD, asgD, breakD, contD, fldD, prpD, mthD, makD, sfdD, insOf, oopD, oeqD, aeqD, lrgD, lcPopD, isBD, notBD, ogtD, rseD, isiD, tryV, dropX, ogtX, callX, setX, retX, yesT, max2D, min2D, zipD, enumD, overD, rng1D, rng2D, sumD, allD, anyD, lcD_eq, startD, startI, wipeD, List.map_cons, List.map_nil, List.length_cons, List.length_nil, List.replicate_succ, List.replicate_zero, List.cons_append, List.nil_append, List.set_cons_succ, List.set_cons_zero, List.getElem?_cons_zero, List.getElem?_cons_succ, Nat.reduceAdd, Nat.reduceSub, Nat.reduceLT, Option.some.injEq, true_and, and_true, Int.zero_add]
    refine ⟨hk, t, false, ht, hkt, ?_⟩
    simp only [Bool.false_eq_true, if_false]
    exact hp
theorem nf_self (K : PySem.W.Frag) (C : Addr) : PySem.W.notFirst K C (.ref C) = true := by
  unfold PySem.W.notFirst
  simp
/-- the two are equal -/
theorem eqC_run {h t : List Int} {P : D → Prop} {g : Bool → Bool} (T : CtT K mg C) (hp : P (.bl (g true))) : insOf C (ct C h t) ∧ insKnown K (ct C h t) ∧ (∃ u, tyT (ct C h t) = some u ∧ PySem.W.notFirst K C u = true) ∧ S_eqC K C [ct C h t, ct C h t] (fun d => match d with
  | .bl c => P (.bl (g c))
  | _ => False) X0 := by
  refine ⟨rfl, T.ins, ⟨_, rfl, nf_self K C⟩, h, t, _, rfl, .inl ⟨h, t, rfl, ?_⟩⟩
  simp only [decide_true, Bool.and_self]
  exact hp
end
end KP

set_option Elab.async false
set_option linter.all false
set_option autoImplicit false
set_option maxRecDepth 100000
set_option maxHeartbeats 4000000
namespace KP
open PySem PySem.Spec PyProof.Rows L2 DL
section
variable {P : Program} {w : World} {K : PySem.W.Frag} {mg : Str → Option Value} {base : Heap} {C CI : Addr}
theorem ints_mem {R : Int → Prop} : ∀ {acc : List D}, (∀ d ∈ acc, ∃ x : Int, d = .int x ∧ R x) → ∃ xs : List Int, acc = xs.map D.int ∧ ∀ x ∈ xs, R x
  | [], _ => ⟨[], rfl, fun x hx => by cases hx⟩
  | d :: acc, h => by
    obtain ⟨x, rfl, hx⟩ := h d List.mem_cons_self
    obtain ⟨xs, rfl, hxs⟩ := ints_mem (acc := acc) fun e he => h e (List.mem_cons_of_mem _ he)
    exact ⟨x :: xs, rfl, fun y hy => by
      rcases List.mem_cons.mp hy with rfl | hy
      · exact hx
      · exact hxs y hy⟩
/-! ### _law_order -/
def S_order : SpD := fun ds P _ => ∃ many : Nat, ds = [.deck, .int (many : Nat)] ∧ many ≤ 1000 ∧ ∀ xs : List Int, xs.length = many → (∀ x ∈ xs, 0 ≤ x ∧ x < (many : Nat)) → P (L xs)
theorem sc__law_order : FnScope ["deck", "many", "left", "k"] ["deck", "many"] (defScope s__law_order) := ⟨rfl, rfl, rfl, by decide +kernel, rfl, by decide +kernel, by decide +kernel⟩
theorem ok_order {f : Addr} {fd : FuncData} (F : Fun K "_law_order" "_law_order" s__law_order f fd) (Z : Zs mg) (h__law_draw : Fd P w K mg base "_law_draw" 1 ["deck", "many"] S_draw) : FnOk P w K mg base (L2.CX P w) 2 f fd ["deck", "many"] (spOf K S_order) := by
  refine fn_mk F sc__law_order (fun ds P PX h => by obtain ⟨_, rfl, _⟩ := h; rfl) ⟨_, fun cdv A outer s H E hr => (dss_cons (ds_own (i := 2) sc__law_order.nd rfl (Or.inr rfl) (f_lstRg rfl (by rfl) Z.list (by rfl) Z.range (dv 1)))
      (dss_one (ds_retLcPop (i := 2) rfl sc__law_order.nd (di_rng1 (by rfl) Z.range (db_cons (dvb 1) db_nil)) (blkOk_by (own := [("k", 3)]) (N := ["deck", "many", "left", "k"]) (sc := defScope s__law_order) (by decide +kernel)) (fun _ _ _ _ _ => (pg_name (i := 3) sc__law_order.nd rfl (by first | exact Or.inl rfl | exact Or.inr rfl))) (tg_name (i := 3)) (fun _ _ _ _ _ => (pe_bm PySem.F.plainAttrs_list PySem.F.slot_list_pop PySem.F.type_list_pop mt_popAt (pv 2) (da_cons (d_call h__law_draw (hr.mono (by decide)) (by rfl) (da_cons (dv 0) (da_cons (d_callB b_len (by rfl) Z.len bt_len (db_cons (dvb 2) db_nil)) da_nil))) da_nil)))))), ?_⟩ (fun ds P PX h => h)
  rintro ds P ⟨many, rfl, hm, hp⟩
  refine ⟨by omega, by omega, fun ad => ?_⟩
  rw [Int.toNat_natCast]
  simp only [seqD, setD, ownD, conD, varD, varB, binD, iopD, subD, fdivD, modD, powD, ltD, leD, gtD, geD, addD, mulD, catD, repD, eqD, neD, isND, notND, consA, nilA, lstD, tupD, callB, callD, lenD, toIntD, toListD, toTupD, ixD, slD, slL, slT, noO, someO, revD, tstD, truD, andT, orT, notT, andV, orV, notV, ifeD, negD, chnD, retD, retN, ifD, nextD, shareD, dropD, augD, appD, extD, stiD, gN, gsNil, gsCons, gT, gLD, asgD, breakD, contD, fldD, prpD, mthD, makD, sfdD, insOf, oopD, oeqD, aeqD, lrgD, lcPopD, isBD, notBD, ogtD, rseD, isiD, tryV, dropX, ogtX, callX, setX, retX, yesT, max2D, min2D, zipD, enumD, overD, rng1D, rng2D, sumD, allD, anyD, lcD_eq, startD, startI, wipeD, List.map_cons, List.map_nil, List.length_cons, List.length_nil, List.replicate_succ, List.replicate_zero, List.cons_append, List.nil_append, List.set_cons_succ, List.set_cons_zero, List.getElem?_cons_zero, List.getElem?_cons_succ, Nat.reduceAdd, Nat.reduceSub, Nat.reduceLT, Option.some.injEq, true_and, and_true, Int.zero_add]
  rw [Int.toNat_natCast]
  refine ⟨by omega, by omega, fun j cur acc => cur.length + j = many ∧ acc.length = j ∧ (∀ d ∈ cur, ∃ x : Int, d = .int x ∧ 0 ≤ x ∧ x < (many : Nat)) ∧ ∀ d ∈ acc, ∃ x : Int, d = .int x ∧ 0 ≤ x ∧ x < (many : Nat), ⟨by rw [rngL_len]; rfl, rfl, fun d hd => ?_, fun d hd => by cases hd⟩, ?_, ?_⟩
  · obtain ⟨i, hi⟩ := List.mem_iff_getElem?.mp hd
    obtain ⟨h1, rfl⟩ := rng_get hi
    exact ⟨_, rfl, by omega, by omega⟩
  · rintro j d cur acc hd ⟨h1, h2, h3, h4⟩
    obtain ⟨hj, rfl⟩ := rng_get hd
    refine ⟨cur.length, rfl, by omega, small_log (by omega) (by omega), fun r r0 r1 => ?_⟩
    obtain ⟨k, rfl⟩ := Int.eq_ofNat_of_zero_le r0
    have hk : k < cur.length := by omega
    refine ⟨(k : Int), k, cur[k], rfl, by omega, by omega, ?_, List.getElem?_eq_getElem hk, by rw [h2]; exact szT (by omega), ?_, ?_, ?_, ?_⟩
    · unfold seqIndex?
      simp
      omega
    · rw [List.length_eraseIdx_of_lt hk]; omega
    · rw [List.length_append, h2]; rfl
    · exact fun d hd => h3 d (List.mem_of_mem_eraseIdx hd)
    · intro d hd
      rcases List.mem_append.mp hd with hd | hd
      · exact h4 d hd
      · rcases List.mem_cons.mp hd with hd | hd
        · rw [hd]; exact h3 _ (List.getElem_mem hk)
        · cases hd
  · rintro cur acc ⟨h1, h2, h3, h4⟩
    rw [rngL_len] at h2
    obtain ⟨xs, rfl, hx⟩ := ints_mem h4
    rw [List.length_map] at h2
    exact hp xs h2 hx
end
end KP

set_option Elab.async false
set_option linter.all false
set_option autoImplicit false
set_option maxRecDepth 100000
set_option maxHeartbeats 4000000
namespace KP
open PySem PySem.Spec PyProof.Rows L2 DL
section
variable {P : Program} {w : World} {K : PySem.W.Frag} {mg : Str → Option Value} {base : Heap} {C CI : Addr}
/-! ### _law_compared -/
def plainOf (K : PySem.W.Frag) (C : Addr) (d : D) : Prop := insKnown K d ∧ ∃ T, ty5 d = some T ∧ tyT d = some (.type T) ∧ PySem.W.subIn K (.ref C) (.type T) = some false ∧ PySem.W.notFirst K C (.type T) = true ∧ PySem.W.kitOne K (.type T) (.ref C) = some false
def S_compared (K : PySem.W.Frag) (C : Addr) : SpD := fun ds P _ => ∃ (h t : List Int) (d2 : D) (due : Bool), ds = [ct C h t, d2, .bl due] ∧ ((∃ h2 t2 : List Int, d2 = ct C h2 t2 ∧ due = (decide (h = h2) && decide (t = t2))) ∨ (plainOf K C d2 ∧ due = false)) ∧ P (.bl true)
theorem sc__law_compared : FnScope ["one", "two", "due", "told", "unlike", "answer"] ["one", "two", "due"] (defScope s__law_compared) := ⟨rfl, rfl, rfl, by decide +kernel, rfl, by decide +kernel, by decide +kernel⟩
theorem ok_compared {f : Addr} {fd : FuncData} (F : Fun K "_law_compared" "_law_compared" s__law_compared f fd) (Z : Zs mg) (T_Counted : CtT K mg C) (h_Counted_XeqX : Ed P w K mg base C 1 (S_eqC K C)) : FnOk P w K mg base (L2.CX P w) 3 f fd ["one", "two", "due"] (spOf K (S_compared K C)) := by
  refine fn_mk F sc__law_compared (fun ds P PX h => by obtain ⟨_, _, _, _, rfl, _⟩ := h; rfl) ⟨_, fun cdv A outer s H E hr => (dss_consJ (ds_set (i := 3) sc__law_compared.nd rfl (Or.inl rfl) (f_lst (da_cons (d_owneq (K := K) rfl h_Counted_XeqX (hr.mono (by decide)) (dv 0) (dv 1)) (da_cons (d_anyeq (K := K) rfl h_Counted_XeqX (hr.mono (by decide)) (dv 1) (dv 0)) da_nil))).d)
      (dss_consJ (ds_set (i := 4) sc__law_compared.nd rfl (Or.inl rfl) (f_lst (da_cons (d_ownne (K := K) rfl h_Counted_XeqX (hr.mono (by decide)) (dv 0) (dv 1)) (da_cons (d_anyne (K := K) rfl h_Counted_XeqX (hr.mono (by decide)) (dv 1) (dv 0)) da_nil))).d)
      (dss_consJ (ds_if (dt_not (dt_val (d_callB (b_all rfl) (by rfl) Z.all bt_all (db_cons (f_lc rfl sc__law_compared.nd (di_over (d_opF f_cat (dvb 3) (dvb 4)).d) (blkOk_by (own := [("answer", 5)]) (N := ["one", "two", "due", "told", "unlike", "answer"]) (sc := defScope s__law_compared) (by decide +kernel)) (fun _ _ _ _ _ => (pg_name (i := 5) sc__law_compared.nd rfl (by first | exact Or.inl rfl | exact Or.inr rfl))) (tg_name (i := 5)) (fun _ _ _ _ _ => dts_nil) (fun _ _ _ _ _ => (d_isi (K := K) rfl (by rfl) Z.isinstance (pe_tyN (by rfl) Z.bool bt_bool) (.ty _) (dvb 5)))).d.bo db_nil)))) (dss_one (ds_ret d_bl)) dss_nil)
      (dss_one (ds_ret (d_and (d_cmp (o_eq hr.units) (dvb 3) (f_lst (da_cons (dv 2) (da_cons (dv 2) da_nil))).d.bo) (d_one (d_cmp (o_eq hr.units) (dvb 4) (f_lst (da_cons (d_not (dv 2)) (da_cons (d_not (dv 2)) da_nil))).d.bo)))))))), ?_⟩ (fun ds P PX h => h)
  rintro ds P ⟨h, t, d2, due, rfl, hd, hp⟩
  have o1 : ∀ Q : D → Prop, Q (.bl due) → insOf C (ct C h t) ∧ insKnown K d2 ∧ (∃ u, tyT d2 = some u ∧ PySem.W.notFirst K C u = true) ∧ S_eqC K C [ct C h t, d2] Q X0 := fun Q hq => by
    rcases hd with ⟨h2, t2, rfl, hd⟩ | ⟨⟨hk, T, h5, hT, hs, hn, hki⟩, hd⟩
    · exact ⟨rfl, T_Counted.ins, ⟨_, rfl, nf_self K C⟩, h, t, _, rfl, .inl ⟨h2, t2, rfl, by rw [← hd]; exact hq⟩⟩
    · exact ⟨rfl, hk, ⟨_, hT, hn⟩, h, t, _, rfl, .inr ⟨hk, ⟨_, hT, hki⟩, by rw [← hd]; exact hq⟩⟩
  have a1 : ∀ Q : D → Prop, Q (.bl due) → insOf C (ct C h t) ∧ ((insOf C d2 ∧ insKnown K (ct C h t) ∧ PySem.W.notFirst K C (.ref C) = true ∧ S_eqC K C [d2, ct C h t] Q X0) ∨ (∃ T, ty5 d2 = some T ∧ PySem.W.subIn K (.ref C) (.type T) = some false ∧ S_eqC K C [ct C h t, d2] Q X0)) := fun Q hq => by
    rcases hd with ⟨h2, t2, rfl, hd⟩ | ⟨⟨hk, T, h5, hT, hs, hn, hki⟩, hd⟩
    · refine ⟨rfl, .inl ⟨rfl, T_Counted.ins, nf_self K C, h2, t2, _, rfl, .inl ⟨h, t, rfl, ?_⟩⟩⟩
      have e : (decide (h2 = h) && decide (t2 = t)) = due := by
        rw [hd]
        by_cases c1 : h = h2
        · by_cases c2 : t = t2
          · simp [c1, c2]
          · simp [c1, c2, Ne.symm c2]
        · simp [c1, Ne.symm c1]
      rw [e]; exact hq
    · exact ⟨rfl, .inr ⟨T, h5, hs, h, t, _, rfl, .inr ⟨hk, ⟨_, hT, hki⟩, by rw [← hd]; exact hq⟩⟩⟩
  refine ⟨fun ρ => ρ = [.sh (ct C h t), .sh (d2), .sh (.bl due), .sh (.lst [.bl due, .bl due]), .no, .no], o1 _ (a1 _ ⟨szL (by show 2 ≤ _; decide), rfl⟩), ?_⟩
  rintro ρ rfl
  refine ⟨fun ρ => ρ = [.sh (ct C h t), .sh (d2), .sh (.bl due), .sh (.lst [.bl due, .bl due]), .sh (.lst [.bl (!due), .bl (!due)]), .no], o1 _ (a1 _ ⟨szL (by show 2 ≤ _; decide), rfl⟩), ?_⟩
  rintro ρ rfl
  refine ⟨fun ρ => ρ = [.sh (ct C h t), .sh (d2), .sh (.bl due), .sh (.lst [.bl due, .bl due]), .sh (.lst [.bl (!due), .bl (!due)]), .no], ?_, ?_⟩
  · simp only [seqD, setD, ownD, conD, varD, varB, binD, iopD, subD, fdivD, modD, powD, ltD, leD, gtD, geD, addD, mulD, catD, repD, eqD, neD, isND, notND, consA, nilA, lstD, tupD, callB, callD, lenD, toIntD, toListD, toTupD, ixD, slD, slL, slT, noO, someO, revD, tstD, truD, andT, orT, notT, andV, orV, notV, ifeD, negD, chnD, retD, retN, ifD, nextD, shareD, dropD, augD, appD, extD, stiD, gN, gsNil, gsCons, gT, gLD, asgD, breakD, contD, fldD, prpD, mthD, makD, sfdD, insOf, oopD, oeqD, aeqD, lrgD, lcPopD, isBD, notBD, ogtD, rseD, isiD, tryV, dropX, ogtX, callX, setX, retX, yesT, max2D, min2D, zipD, enumD, overD, rng1D, rng2D, sumD, allD, anyD, lcD_eq, startD, startI, wipeD, List.map_cons, List.map_nil, List.length_cons, List.length_nil, List.replicate_succ, List.replicate_zero, List.cons_append, List.nil_append, List.set_cons_succ, List.set_cons_zero, List.getElem?_cons_zero, List.getElem?_cons_succ, Nat.reduceAdd, Nat.reduceSub, Nat.reduceLT, Option.some.injEq, true_and, and_true, Int.zero_add, List.length_map, at_h, at_t, exists_eq_left']
    refine ⟨szL (by decide), ?_⟩
    refine lc_all (fun _ => .bl true) (by show 4 ≤ _; decide) (fun i d Q hd hi hq => ?_) ?_
    · have e : ∃ c, d = .bl c := by
        have hm := List.mem_of_getElem? hd
        simp only [List.mem_cons, List.not_mem_nil, or_false] at hm
        rcases hm with rfl | rfl | rfl | rfl <;> exact ⟨_, rfl⟩
      obtain ⟨c, rfl⟩ := e
      simp only [seqD, setD, ownD, conD, varD, varB, binD, iopD, subD, fdivD, modD, powD, ltD, leD, gtD, geD, addD, mulD, catD, repD, eqD, neD, isND, notND, consA, nilA, lstD, tupD, callB, callD, lenD, toIntD, toListD, toTupD, ixD, slD, slL, slT, noO, someO, revD, tstD, truD, andT, orT, notT, andV, orV, notV, ifeD, negD, chnD, retD, retN, ifD, nextD, shareD, dropD, augD, appD, extD, stiD, gN, gsNil, gsCons, gT, gLD, asgD, breakD, contD, fldD, prpD, mthD, makD, sfdD, insOf, oopD, oeqD, aeqD, lrgD, lcPopD, isBD, notBD, ogtD, rseD, isiD, tryV, dropX, ogtX, callX, setX, retX, yesT, max2D, min2D, zipD, enumD, overD, rng1D, rng2D, sumD, allD, anyD, lcD_eq, startD, startI, wipeD, List.map_cons, List.map_nil, List.length_cons, List.length_nil, List.replicate_succ, List.replicate_zero, List.cons_append, List.nil_append, List.set_cons_succ, List.set_cons_zero, List.getElem?_cons_zero, List.getElem?_cons_succ, Nat.reduceAdd, Nat.reduceSub, Nat.reduceLT, Option.some.injEq, true_and, and_true, Int.zero_add, List.length_map, at_h, at_t, exists_eq_left']
      exact ⟨trivial, _, _, rfl, kit_bb K, hq⟩
    · refine ⟨[true, true, true, true], rfl, ?_⟩
      simp only [List.all_cons, List.all_nil, _root_.id, Bool.and_self, Bool.not_true, Bool.false_eq_true, if_false]
  rintro ρ rfl
  simp only [seqD, setD, ownD, conD, varD, varB, binD, iopD, subD, fdivD, modD, powD, ltD, leD, gtD, geD, addD, mulD, catD, repD, eqD, neD, isND, notND, consA, nilA, lstD, tupD, callB, callD, lenD, toIntD, toListD, toTupD, ixD, slD, slL, slT, noO, someO, revD, tstD, truD, andT, orT, notT, andV, orV, notV, ifeD, negD, chnD, retD, retN, ifD, nextD, shareD, dropD, augD, appD, extD, stiD, gN, gsNil, gsCons, gT, gLD, asgD, breakD, contD, fldD, prpD, mthD, makD, sfdD, insOf, oopD, oeqD, aeqD, lrgD, lcPopD, isBD, notBD, ogtD, rseD, isiD, tryV, dropX, ogtX, callX, setX, retX, yesT, max2D, min2D, zipD, enumD, overD, rng1D, rng2D, sumD, allD, anyD, lcD_eq, startD, startI, wipeD, List.map_cons, List.map_nil, List.length_cons, List.length_nil, List.replicate_succ, List.replicate_zero, List.cons_append, List.nil_append, List.set_cons_succ, List.set_cons_zero, List.getElem?_cons_zero, List.getElem?_cons_succ, Nat.reduceAdd, Nat.reduceSub, Nat.reduceLT, Option.some.injEq, true_and, and_true, Int.zero_add]
  have bb : ∀ b : Bool, eqvD (.lst [.bl b, .bl b]) (.lst [.bl b, .bl b]) = true := fun b => by
    rw [eqv_lst, eqvs_cons, eqvs_cons, eqvs_nil, eqv_bl]; simp
  have pb : ∀ b : Bool, Pl 64 (.lst [.bl b, .bl b]) := fun b => pl_lst (n := 63) (pl_cons (pl_bl _ _) (pl_cons (pl_bl _ _) pl_nil))
  refine ⟨szL (by decide), pb _, pb _, ?_⟩
  rw [bb, if_pos rfl]
  refine ⟨szL (by decide), pb _, pb _, ?_⟩
  rw [bb]
  exact hp
/-! ### _law_needed, _law_trimmed -/
def S_lneeded : SpD := fun ds P _ => ∃ (fs ps : List Int) (B N : Nat), ds = [L fs, L ps] ∧ Bd B ps ∧ fs.length < 2 ^ N ∧ ps.length ≤ 2 ^ N ∧ ps.length ≤ 4000 ∧ B + (N + 1) * (ps.length + 1) + 1 ≤ 400000 ∧ P (L (needM fs ps))
theorem sc__law_needed : FnScope ["heads", "row", "size"] ["heads", "row"] (defScope s__law_needed) := ⟨rfl, rfl, rfl, by decide +kernel, rfl, by decide +kernel, by decide +kernel⟩
theorem ok_lneeded {f : Addr} {fd : FuncData} (F : Fun K "_law_needed" "_law_needed" s__law_needed f fd) (Z : Zs mg) (h__law_value : Fd P w K mg base "_law_value" 1 ["row", "at"] S_value) : FnOk P w K mg base (L2.CX P w) 2 f fd ["heads", "row"] (spOf K S_lneeded) := by
  refine fn_mk F sc__law_needed (fun ds P PX h => by obtain ⟨t, k, B, n, rfl, _⟩ := h; rfl) ⟨_, fun cdv A outer s H E hr => (dss_cons (ds_set (i := 2) sc__law_needed.nd rfl (Or.inl rfl) (d_callB b_len (by rfl) Z.len bt_len (db_cons (dvb 0) db_nil)))
      (dss_cons (ds_while PassesOwn.never (dw_and (dt_cmp o_gt (dvb 2) d_int.bo) (dw_and1 (dt_cmp (o_eq hr.units) (d_ix (dvb 0) (d_op o_sub (dvb 2) d_int.bo).bo).bo (d_call h__law_value (hr.mono (by decide)) (by rfl) (da_cons (dv 1) (da_cons (d_op o_sub (dvb 2) d_int.bo) da_nil))).bo))).t (dss_one (ds_set (i := 2) sc__law_needed.nd rfl (Or.inl rfl) (d_op o_sub (dvb 2) d_int.bo))))
      (dss_one (ds_ret (f_slice (dvb 0) do_none (do_some (dvb 2))).d)))), ?_⟩ (fun ds P PX h => h)
  rintro ds P ⟨fs, ps, B, N, rfl, hb, hn, hl, h40, hM, hp⟩
  simp only [seqD, setD, ownD, conD, varD, varB, binD, iopD, subD, fdivD, modD, powD, ltD, leD, gtD, geD, addD, mulD, catD, repD, eqD, neD, isND, notND, consA, nilA, lstD, tupD, callB, callD, lenD, toIntD, toListD, toTupD, ixD, slD, slL, slT, noO, someO, revD, tstD, truD, andT, orT, notT, andV, orV, notV, ifeD, negD, chnD, retD, retN, ifD, nextD, shareD, dropD, augD, appD, extD, stiD, gN, gsNil, gsCons, gT, gLD, asgD, breakD, contD, fldD, prpD, mthD, makD, sfdD, insOf, oopD, oeqD, aeqD, lrgD, lcPopD, isBD, notBD, ogtD, rseD, isiD, tryV, dropX, ogtX, callX, setX, retX, yesT, max2D, min2D, zipD, enumD, overD, rng1D, rng2D, sumD, allD, anyD, lcD_eq, startD, startI, wipeD, List.map_cons, List.map_nil, List.length_cons, List.length_nil, List.replicate_succ, List.replicate_zero, List.cons_append, List.nil_append, List.set_cons_succ, List.set_cons_zero, List.getElem?_cons_zero, List.getElem?_cons_succ, Nat.reduceAdd, Nat.reduceSub, Nat.reduceLT, Option.some.injEq, true_and, and_true, Int.zero_add]
  rw [List.length_map]
  refine ⟨fun m ρ => ρ = [.sh (L fs), .sh (L ps), .sh (.int m)] ∧ m ≤ fs.length ∧ dropN (fun k => fs.getD k 0 == valueM ps (k : Nat)) m = needN fs ps, ⟨fs.length, rfl, Nat.le_refl _, rfl⟩, ?_⟩
  rintro m ρ ⟨rfl, hm, ht⟩
  simp only [seqD, setD, ownD, conD, varD, varB, binD, iopD, subD, fdivD, modD, powD, ltD, leD, gtD, geD, addD, mulD, catD, repD, eqD, neD, isND, notND, consA, nilA, lstD, tupD, callB, callD, lenD, toIntD, toListD, toTupD, ixD, slD, slL, slT, noO, someO, revD, tstD, truD, andT, orT, notT, andV, orV, notV, ifeD, negD, chnD, retD, retN, ifD, nextD, shareD, dropD, augD, appD, extD, stiD, gN, gsNil, gsCons, gT, gLD, asgD, breakD, contD, fldD, prpD, mthD, makD, sfdD, insOf, oopD, oeqD, aeqD, lrgD, lcPopD, isBD, notBD, ogtD, rseD, isiD, tryV, dropX, ogtX, callX, setX, retX, yesT, max2D, min2D, zipD, enumD, overD, rng1D, rng2D, sumD, allD, anyD, lcD_eq, startD, startI, wipeD, List.map_cons, List.map_nil, List.length_cons, List.length_nil, List.replicate_succ, List.replicate_zero, List.cons_append, List.nil_append, List.set_cons_succ, List.set_cons_zero, List.getElem?_cons_zero, List.getElem?_cons_succ, Nat.reduceAdd, Nat.reduceSub, Nat.reduceLT, Option.some.injEq, true_and, and_true, Int.zero_add]
  cases m with
  | zero =>
    simp only [show ¬ ((0 : Int) < ((0 : Nat) : Int)) by decide, decide_false, Bool.false_eq_true, if_false]
    rw [cut_take, ← List.map_take]
    have : needM fs ps = fs.take 0 := by unfold needM; rw [← ht]; rfl
    rw [← this]; exact hp
  | succ m =>
    have hlt : m < fs.length := by omega
    have eg : fs[m] = fs.getD m 0 := by rw [List.getD_eq_getElem?_getD, List.getElem?_eq_getElem hlt]; rfl
    simp only [show (0 : Int) < ((m + 1 : Nat) : Int) by omega, decide_true, if_true]
    rw [show ((m + 1 : Nat) : Int) - 1 = (m : Int) by omega]
    refine ⟨_, ix_map _ (List.getElem?_eq_getElem hlt), ps, (m : Int), B, N, rfl, hb, by omega, hl, h40, hM, pl_int _ _, pl_int _ _, ?_⟩
    rw [eqv_int, eg]
    cases hz : (fs.getD m 0 == valueM ps (m : Nat)) with
    | true =>
      rw [if_pos rfl]
      exact ⟨m, Nat.lt_succ_self _, rfl, by omega, by rw [← ht, dropN_step (by exact hz)]⟩
    | false =>
      rw [if_neg Bool.false_ne_true, cut_take, ← List.map_take]
      have : needM fs ps = fs.take (m + 1) := by unfold needM; rw [← ht, dropN_stop (by exact hz)]
      rw [← this]; exact hp
theorem sc__law_trimmed : FnScope ["row", "size"] ["row"] (defScope s__law_trimmed) := ⟨rfl, rfl, rfl, by decide +kernel, rfl, by decide +kernel, by decide +kernel⟩
theorem ok_ltrimmed {f : Addr} {fd : FuncData} (F : Fun K "_law_trimmed" "_law_trimmed" s__law_trimmed f fd) (Z : Zs mg) : FnOk P w K mg base (L2.CX P w) 1 f fd ["row"] (spOf K S_trimmed) := by
  refine fn_mk F sc__law_trimmed (fun ds P PX h => by obtain ⟨ps, rfl, _⟩ := h; rfl) ⟨_, fun cdv A outer s H E hr => (dss_cons (ds_set (i := 1) sc__law_trimmed.nd rfl (Or.inl rfl) (d_callB b_len (by rfl) Z.len bt_len (db_cons (dvb 0) db_nil)))
      (dss_cons (ds_while PassesOwn.never (dw_and (dt_cmp o_gt (dvb 1) d_int.bo) (dw_and1 (dt_cmp (o_eq hr.units) (d_ix (dvb 0) (d_op o_sub (dvb 1) d_int.bo).bo).bo d_int.bo))).t (dss_one (ds_set (i := 1) sc__law_trimmed.nd rfl (Or.inl rfl) (d_op o_sub (dvb 1) d_int.bo))))
      (dss_one (ds_ret (f_slice (dvb 0) do_none (do_some (dvb 1))).d)))), ?_⟩ (fun ds P PX h => h)
  rintro ds P ⟨ps, rfl, hp⟩
  simp only [seqD, setD, ownD, conD, varD, varB, binD, iopD, subD, fdivD, modD, powD, ltD, leD, gtD, geD, addD, mulD, catD, repD, eqD, neD, isND, notND, consA, nilA, lstD, tupD, callB, callD, lenD, toIntD, toListD, toTupD, ixD, slD, slL, slT, noO, someO, revD, tstD, truD, andT, orT, notT, andV, orV, notV, ifeD, negD, chnD, retD, retN, ifD, nextD, shareD, dropD, augD, appD, extD, stiD, gN, gsNil, gsCons, gT, gLD, asgD, breakD, contD, fldD, prpD, mthD, makD, sfdD, insOf, oopD, oeqD, aeqD, lrgD, lcPopD, isBD, notBD, ogtD, rseD, isiD, tryV, dropX, ogtX, callX, setX, retX, yesT, max2D, min2D, zipD, enumD, overD, rng1D, rng2D, sumD, allD, anyD, lcD_eq, startD, startI, wipeD, List.map_cons, List.map_nil, List.length_cons, List.length_nil, List.replicate_succ, List.replicate_zero, List.cons_append, List.nil_append, List.set_cons_succ, List.set_cons_zero, List.getElem?_cons_zero, List.getElem?_cons_succ, Nat.reduceAdd, Nat.reduceSub, Nat.reduceLT, Option.some.injEq, true_and, and_true, Int.zero_add]
  rw [List.length_map]
  refine ⟨fun m ρ => ρ = [.sh (L ps), .sh (.int m)] ∧ m ≤ ps.length ∧ dropN (fun k => ps.getD k 0 == 0) m = trimN ps, ⟨ps.length, rfl, Nat.le_refl _, rfl⟩, ?_⟩
  rintro m ρ ⟨rfl, hm, ht⟩
  simp only [seqD, setD, ownD, conD, varD, varB, binD, iopD, subD, fdivD, modD, powD, ltD, leD, gtD, geD, addD, mulD, catD, repD, eqD, neD, isND, notND, consA, nilA, lstD, tupD, callB, callD, lenD, toIntD, toListD, toTupD, ixD, slD, slL, slT, noO, someO, revD, tstD, truD, andT, orT, notT, andV, orV, notV, ifeD, negD, chnD, retD, retN, ifD, nextD, shareD, dropD, augD, appD, extD, stiD, gN, gsNil, gsCons, gT, gLD, asgD, breakD, contD, fldD, prpD, mthD, makD, sfdD, insOf, oopD, oeqD, aeqD, lrgD, lcPopD, isBD, notBD, ogtD, rseD, isiD, tryV, dropX, ogtX, callX, setX, retX, yesT, max2D, min2D, zipD, enumD, overD, rng1D, rng2D, sumD, allD, anyD, lcD_eq, startD, startI, wipeD, List.map_cons, List.map_nil, List.length_cons, List.length_nil, List.replicate_succ, List.replicate_zero, List.cons_append, List.nil_append, List.set_cons_succ, List.set_cons_zero, List.getElem?_cons_zero, List.getElem?_cons_succ, Nat.reduceAdd, Nat.reduceSub, Nat.reduceLT, Option.some.injEq, true_and, and_true, Int.zero_add]
  cases m with
  | zero =>
    simp only [show ¬ ((0 : Int) < ((0 : Nat) : Int)) by decide, decide_false, Bool.false_eq_true, if_false]
    rw [cut_take, ← List.map_take]
    have : trimM ps = ps.take 0 := by unfold trimM; rw [← ht]; rfl
    rw [← this]; exact hp
  | succ m =>
    have hlt : m < ps.length := by omega
    have eg : ps[m] = ps.getD m 0 := by rw [List.getD_eq_getElem?_getD, List.getElem?_eq_getElem hlt]; rfl
    simp only [show (0 : Int) < ((m + 1 : Nat) : Int) by omega, decide_true, if_true]
    rw [show ((m + 1 : Nat) : Int) - 1 = (m : Int) by omega]
    refine ⟨_, ix_map _ (List.getElem?_eq_getElem hlt), pl_int _ _, pl_int _ _, ?_⟩
    rw [eqv_int, eg]
    cases hz : (ps.getD m 0 == 0) with
    | true =>
      rw [if_pos rfl]
      exact ⟨m, Nat.lt_succ_self _, rfl, by omega, by rw [← ht, dropN_step (by exact hz)]⟩
    | false =>
      rw [if_neg Bool.false_ne_true, cut_take, ← List.map_take]
      have : trimM ps = ps.take (m + 1) := by unfold trimM; rw [← ht, dropN_stop (by exact hz)]
      rw [← this]; exact hp
/-! ### _law_changed -/
def S_changed : SpD := fun ds P _ => ∃ (fs ps : List Int) (B l : Nat), ds = [.deck, L fs, L ps] ∧ Bd B fs ∧ Bd B ps ∧ fs.length ≤ 40 ∧ ps.length ≤ 40 ∧ B ≤ 100000 ∧ ∀ hs rs : List Int, hs.length ≤ 40 → rs.length ≤ 40 → Bd (B + 600) hs → Bd (B + 600) rs → P (.tup [L hs, L rs])
theorem sc__law_changed : FnScope ["deck", "numbers", "row", "way", "at", "k"] ["deck", "numbers", "row"] (defScope s__law_changed) := ⟨rfl, rfl, rfl, by decide +kernel, rfl, by decide +kernel, by decide +kernel⟩
theorem ok_changed {f : Addr} {fd : FuncData} (F : Fun K "_law_changed" "_law_changed" s__law_changed f fd) (Z : Zs mg) (h__law_draw : Fd P w K mg base "_law_draw" 1 ["deck", "many"] S_draw) (h__law_value : Fd P w K mg base "_law_value" 1 ["row", "at"] S_value) (h__law_needed : Fd P w K mg base "_law_needed" 2 ["heads", "row"] S_lneeded) (h__law_trimmed : Fd P w K mg base "_law_trimmed" 1 ["row"] S_trimmed) : FnOk P w K mg base (L2.CX P w) 3 f fd ["deck", "numbers", "row"] (spOf K S_changed) := by
  refine fn_mk F sc__law_changed (fun ds P PX h => by obtain ⟨_, _, _, _, rfl, _⟩ := h; rfl) ⟨_, fun cdv A outer s H E hr => (dss_consJ (ds_set (i := 3) sc__law_changed.nd rfl (Or.inl rfl) (d_call h__law_draw (hr.mono (by decide)) (by rfl) (da_cons (dv 0) (da_cons d_int da_nil))))
      (dss_consJ (ds_if (dw_and (dt_cmp (o_eq hr.units) (dvb 3) d_int.bo) (dw_and1 (dt_cmp o_lt (d_callB b_len (by rfl) Z.len bt_len (db_cons (dvb 1) db_nil)).bo d_int.bo))).t (dss_one (ds_ret (d_tup (da_cons (d_opF f_cat (dvb 1) (f_lc rfl sc__law_changed.nd (di_rng1 (by rfl) Z.range (db_cons (d_op o_add d_int.bo (d_call h__law_draw (hr.mono (by decide)) (by rfl) (da_cons (dv 0) (da_cons d_int da_nil))).bo).bo db_nil)) (blkOk_by (own := [("k", 5)]) (N := ["deck", "numbers", "row", "way", "at", "k"]) (sc := defScope s__law_changed) (by decide +kernel)) (fun _ _ _ _ _ => (pg_name (i := 5) sc__law_changed.nd rfl (by first | exact Or.inl rfl | exact Or.inr rfl))) (tg_name (i := 5)) (fun _ _ _ _ _ => dts_nil) (fun _ _ _ _ _ => (d_call h__law_value (hr.mono (by decide)) (by rfl) (da_cons (dv 2) (da_cons (d_op o_add (d_callB b_len (by rfl) Z.len bt_len (db_cons (dvb 1) db_nil)).bo (dvb 5)) da_nil))))).d.bo).d (da_cons (dv 2) da_nil))))) dss_nil)
      (dss_consJ (ds_if (dw_and (dt_cmp (o_eq hr.units) (dvb 3) d_int.bo) (dw_and1 (dt_cmp o_lt (d_callB b_len (by rfl) Z.len bt_len (db_cons (dvb 2) db_nil)).bo d_int.bo))).t (dss_one (ds_ret (d_tup (da_cons (dv 1) (da_cons (d_opF f_cat (dvb 2) (f_lst (da_cons d_int (da_cons d_int da_nil))).d.bo).d da_nil))))) dss_nil)
      (dss_consJ (ds_if (dw_and (dt_cmp (o_eq hr.units) (dvb 3) d_int.bo) (dw_and1 (dt_cmp (o_ne hr.units) (dvb 1) (f_lst da_nil).d.bo))).t (dss_consJ (ds_set (i := 4) sc__law_changed.nd rfl (Or.inl rfl) (d_call h__law_draw (hr.mono (by decide)) (by rfl) (da_cons (dv 0) (da_cons (d_callB b_len (by rfl) Z.len bt_len (db_cons (dvb 1) db_nil)) da_nil))))
      (dss_one (ds_ret (d_tup (da_cons (d_opF f_cat (d_opF f_cat (f_slice (dvb 1) do_none (do_some (dvb 4))).d.bo (f_lst (da_cons (d_op o_add (d_ix (dvb 1) (dvb 4)).bo (d_ix (f_lst (da_cons d_int (da_cons (d_neg d_int.bo) da_nil))).d.bo (d_call h__law_draw (hr.mono (by decide)) (by rfl) (da_cons (dv 0) (da_cons d_int da_nil))).bo).bo) da_nil)).d.bo).d.bo (f_slice (dvb 1) (do_some (d_op o_add (dvb 4) d_int.bo).bo) do_none).d.bo).d (da_cons (dv 2) da_nil)))))) dss_nil)
      (dss_consJ (ds_if (dw_and (dt_cmp (o_eq hr.units) (dvb 3) d_int.bo) (dw_and1 (dt_cmp (o_ne hr.units) (dvb 2) (f_lst da_nil).d.bo))).t (dss_consJ (ds_set (i := 4) sc__law_changed.nd rfl (Or.inl rfl) (d_call h__law_draw (hr.mono (by decide)) (by rfl) (da_cons (dv 0) (da_cons (d_callB b_len (by rfl) Z.len bt_len (db_cons (dvb 2) db_nil)) da_nil))))
      (dss_one (ds_ret (d_tup (da_cons (dv 1) (da_cons (d_opF f_cat (d_opF f_cat (f_slice (dvb 2) do_none (do_some (dvb 4))).d.bo (f_lst (da_cons (d_op o_add (d_ix (dvb 2) (dvb 4)).bo (d_ix (f_lst (da_cons d_int (da_cons (d_neg d_int.bo) da_nil))).d.bo (d_call h__law_draw (hr.mono (by decide)) (by rfl) (da_cons (dv 0) (da_cons d_int da_nil))).bo).bo) da_nil)).d.bo).d.bo (f_slice (dvb 2) (do_some (d_op o_add (dvb 4) d_int.bo).bo) do_none).d.bo).d da_nil)))))) dss_nil)
      (dss_one (ds_ret (d_tup (da_cons (d_call h__law_needed (hr.mono (by decide)) (by rfl) (da_cons (dv 1) (da_cons (dv 2) da_nil))) (da_cons (d_call h__law_trimmed (hr.mono (by decide)) (by rfl) (da_cons (dv 2) da_nil)) da_nil)))))))))), ?_⟩ (fun ds P PX h => h)
  rintro ds P ⟨fs, ps, B, l, rfl, bf, bp, lf, lp, hB, hp⟩
  refine ⟨fun ρ => ∃ way : Int, ρ = [.sh (.deck), .sh (L fs), .sh (L ps), .sh (.int way), .no, .no], ⟨5, rfl, by decide, small_log (by decide) (by decide), fun way w0 w1 => ⟨way, rfl⟩⟩, ?_⟩
  rintro ρ ⟨way, rfl⟩
  refine ⟨fun ρ => ρ = [.sh (.deck), .sh (L fs), .sh (L ps), .sh (.int way), .no, .no], ?_, ?_⟩
  · simp only [seqD, setD, ownD, conD, varD, varB, binD, iopD, subD, fdivD, modD, powD, ltD, leD, gtD, geD, addD, mulD, catD, repD, eqD, neD, isND, notND, consA, nilA, lstD, tupD, callB, callD, lenD, toIntD, toListD, toTupD, ixD, slD, slL, slT, noO, someO, revD, tstD, truD, andT, orT, notT, andV, orV, notV, ifeD, negD, chnD, retD, retN, ifD, nextD, shareD, dropD, augD, appD, extD, stiD, gN, gsNil, gsCons, gT, gLD, asgD, breakD, contD, fldD, prpD, mthD, makD, sfdD, insOf, oopD, oeqD, aeqD, lrgD, lcPopD, isBD, notBD, ogtD, rseD, isiD, tryV, dropX, ogtX, callX, setX, retX, yesT, max2D, min2D, zipD, enumD, overD, rng1D, rng2D, sumD, allD, anyD, lcD_eq, startD, startI, wipeD, List.map_cons, List.map_nil, List.length_cons, List.length_nil, List.replicate_succ, List.replicate_zero, List.cons_append, List.nil_append, List.set_cons_succ, List.set_cons_zero, List.getElem?_cons_zero, List.getElem?_cons_succ, Nat.reduceAdd, Nat.reduceSub, Nat.reduceLT, Option.some.injEq, true_and, and_true, Int.zero_add, List.length_map, at_h, at_t, exists_eq_left']
    refine ⟨pl_int _ _, pl_int _ _, ?_⟩
    split
    · split
      · rename_i hlt
        have hlt : fs.length < 38 := by have := of_decide_eq_true hlt; omega
        refine ⟨2, rfl, by decide, small_log (by decide) (by decide), fun r r0 r1 => ⟨by omega, by omega, ?_⟩⟩
        have rl : (rngL 0 (1 + r).toNat).length ≤ 2 := by rw [rngL_len]; omega
        refine lc_int (fun i => valueM ps ((fs.length + i : Nat) : Int)) (by omega) (fun i d Q hd hi hq => ?_) ?_
        · obtain ⟨hi, rfl⟩ := rng_get hd
          simp only [seqD, setD, ownD, conD, varD, varB, binD, iopD, subD, fdivD, modD, powD, ltD, leD, gtD, geD, addD, mulD, catD, repD, eqD, neD, isND, notND, consA, nilA, lstD, tupD, callB, callD, lenD, toIntD, toListD, toTupD, ixD, slD, slL, slT, noO, someO, revD, tstD, truD, andT, orT, notT, andV, orV, notV, ifeD, negD, chnD, retD, retN, ifD, nextD, shareD, dropD, augD, appD, extD, stiD, gN, gsNil, gsCons, gT, gLD, asgD, breakD, contD, fldD, prpD, mthD, makD, sfdD, insOf, oopD, oeqD, aeqD, lrgD, lcPopD, isBD, notBD, ogtD, rseD, isiD, tryV, dropX, ogtX, callX, setX, retX, yesT, max2D, min2D, zipD, enumD, overD, rng1D, rng2D, sumD, allD, anyD, lcD_eq, startD, startI, wipeD, List.map_cons, List.map_nil, List.length_cons, List.length_nil, List.replicate_succ, List.replicate_zero, List.cons_append, List.nil_append, List.set_cons_succ, List.set_cons_zero, List.getElem?_cons_zero, List.getElem?_cons_succ, Nat.reduceAdd, Nat.reduceSub, Nat.reduceLT, Option.some.injEq, true_and, and_true, Int.zero_add, List.length_map, at_h, at_t, exists_eq_left']
          rw [show (fs.length : Int) + (i : Int) = ((fs.length + i : Nat) : Int) by omega]
          have m2 : (10 + 1) * (ps.length + 1) ≤ 11 * 41 := Nat.mul_le_mul_left _ (by omega)
          exact ⟨ps, _, B, 10, rfl, bp, by omega, by omega, by omega, by omega, hq⟩
        · unfold L
          simp only []
          rw [← List.map_append]
          refine ⟨by simp only [List.length_map, List.length_range]; exact szL (by omega), szL (by decide), hp _ _ (by simp only [List.length_append, List.length_map, List.length_range]; omega) lp ?_ (bp.mono (by omega))⟩
          refine Bd.app (bf.mono (by omega)) fun x hx => ?_
          obtain ⟨k, hk, rfl⟩ := List.mem_map.mp hx
          have hk := List.mem_range.mp hk
          exact lt2 (value_bd (N := 6) bp (by omega) (by omega)) (by omega)
      · trivial
    · rw [if_neg Bool.false_ne_true]; trivial
  rintro ρ rfl
  refine ⟨fun ρ => ρ = [.sh (.deck), .sh (L fs), .sh (L ps), .sh (.int way), .no, .no], ?_, ?_⟩
  · simp only [seqD, setD, ownD, conD, varD, varB, binD, iopD, subD, fdivD, modD, powD, ltD, leD, gtD, geD, addD, mulD, catD, repD, eqD, neD, isND, notND, consA, nilA, lstD, tupD, callB, callD, lenD, toIntD, toListD, toTupD, ixD, slD, slL, slT, noO, someO, revD, tstD, truD, andT, orT, notT, andV, orV, notV, ifeD, negD, chnD, retD, retN, ifD, nextD, shareD, dropD, augD, appD, extD, stiD, gN, gsNil, gsCons, gT, gLD, asgD, breakD, contD, fldD, prpD, mthD, makD, sfdD, insOf, oopD, oeqD, aeqD, lrgD, lcPopD, isBD, notBD, ogtD, rseD, isiD, tryV, dropX, ogtX, callX, setX, retX, yesT, max2D, min2D, zipD, enumD, overD, rng1D, rng2D, sumD, allD, anyD, lcD_eq, startD, startI, wipeD, List.map_cons, List.map_nil, List.length_cons, List.length_nil, List.replicate_succ, List.replicate_zero, List.cons_append, List.nil_append, List.set_cons_succ, List.set_cons_zero, List.getElem?_cons_zero, List.getElem?_cons_succ, Nat.reduceAdd, Nat.reduceSub, Nat.reduceLT, Option.some.injEq, true_and, and_true, Int.zero_add, List.length_map, at_h, at_t, exists_eq_left']
    refine ⟨pl_int _ _, pl_int _ _, ?_⟩
    split
    · split
      · rename_i hlt
        have hlt : ps.length < 38 := by have := of_decide_eq_true hlt; omega
        rw [show [D.int 0, D.int 0] = [0, 0].map D.int from rfl, ← List.map_append]
        refine ⟨szL (by decide), szL (by omega), szL (by decide), hp _ _ lf (by rw [List.length_append]; show ps.length + 2 ≤ 40; omega) (bf.mono (by omega)) (Bd.app (bp.mono (by omega)) fun x hx => ?_)⟩
        simp only [List.mem_cons, List.not_mem_nil, or_false, or_self] at hx
        rw [hx]
        exact Nat.two_pow_pos _
      · trivial
    · rw [if_neg Bool.false_ne_true]; trivial
  rintro ρ rfl
  refine ⟨fun ρ => ρ = [.sh (.deck), .sh (L fs), .sh (L ps), .sh (.int way), .no, .no], ?_, ?_⟩
  · simp only [seqD, setD, ownD, conD, varD, varB, binD, iopD, subD, fdivD, modD, powD, ltD, leD, gtD, geD, addD, mulD, catD, repD, eqD, neD, isND, notND, consA, nilA, lstD, tupD, callB, callD, lenD, toIntD, toListD, toTupD, ixD, slD, slL, slT, noO, someO, revD, tstD, truD, andT, orT, notT, andV, orV, notV, ifeD, negD, chnD, retD, retN, ifD, nextD, shareD, dropD, augD, appD, extD, stiD, gN, gsNil, gsCons, gT, gLD, asgD, breakD, contD, fldD, prpD, mthD, makD, sfdD, insOf, oopD, oeqD, aeqD, lrgD, lcPopD, isBD, notBD, ogtD, rseD, isiD, tryV, dropX, ogtX, callX, setX, retX, yesT, max2D, min2D, zipD, enumD, overD, rng1D, rng2D, sumD, allD, anyD, lcD_eq, startD, startI, wipeD, List.map_cons, List.map_nil, List.length_cons, List.length_nil, List.replicate_succ, List.replicate_zero, List.cons_append, List.nil_append, List.set_cons_succ, List.set_cons_zero, List.getElem?_cons_zero, List.getElem?_cons_succ, Nat.reduceAdd, Nat.reduceSub, Nat.reduceLT, Option.some.injEq, true_and, and_true, Int.zero_add, List.length_map, at_h, at_t, exists_eq_left']
    refine ⟨pl_int _ _, pl_int _ _, ?_⟩
    split
    · rw [show D.lst [] = .lst (([] : List Int).map D.int) from rfl, eqv_ints]
      refine ⟨szL (by decide), pl_ints _ _, pl_ints _ _, ?_⟩
      split
      · rename_i hne
        have hne : fs ≠ [] := fun z => by rw [z] at hne; exact absurd hne (by decide)
        have h0 : 0 < fs.length := List.length_pos_iff.mpr hne
        refine ⟨fun ρ => ∃ k : Nat, ρ = [.sh (.deck), .sh (L fs), .sh (L ps), .sh (.int way), .sh (.int (k : Nat)), .no] ∧ k < fs.length, ?_, ?_⟩
        · simp only [seqD, setD, ownD, conD, varD, varB, binD, iopD, subD, fdivD, modD, powD, ltD, leD, gtD, geD, addD, mulD, catD, repD, eqD, neD, isND, notND, consA, nilA, lstD, tupD, callB, callD, lenD, toIntD, toListD, toTupD, ixD, slD, slL, slT, noO, someO, revD, tstD, truD, andT, orT, notT, andV, orV, notV, ifeD, negD, chnD, retD, retN, ifD, nextD, shareD, dropD, augD, appD, extD, stiD, gN, gsNil, gsCons, gT, gLD, asgD, breakD, contD, fldD, prpD, mthD, makD, sfdD, insOf, oopD, oeqD, aeqD, lrgD, lcPopD, isBD, notBD, ogtD, rseD, isiD, tryV, dropX, ogtX, callX, setX, retX, yesT, max2D, min2D, zipD, enumD, overD, rng1D, rng2D, sumD, allD, anyD, lcD_eq, startD, startI, wipeD, List.map_cons, List.map_nil, List.length_cons, List.length_nil, List.replicate_succ, List.replicate_zero, List.cons_append, List.nil_append, List.set_cons_succ, List.set_cons_zero, List.getElem?_cons_zero, List.getElem?_cons_succ, Nat.reduceAdd, Nat.reduceSub, Nat.reduceLT, Option.some.injEq, true_and, and_true, Int.zero_add, List.length_map, at_h, at_t, exists_eq_left']
          refine ⟨fs.length, rfl, by omega, small_log (by omega) (by omega), fun r r0 r1 => ⟨r.toNat, ?_, by omega⟩⟩
          rw [Int.toNat_of_nonneg r0]
        rintro ρ ⟨k, rfl, hk⟩
        simp only [seqD, setD, ownD, conD, varD, varB, binD, iopD, subD, fdivD, modD, powD, ltD, leD, gtD, geD, addD, mulD, catD, repD, eqD, neD, isND, notND, consA, nilA, lstD, tupD, callB, callD, lenD, toIntD, toListD, toTupD, ixD, slD, slL, slT, noO, someO, revD, tstD, truD, andT, orT, notT, andV, orV, notV, ifeD, negD, chnD, retD, retN, ifD, nextD, shareD, dropD, augD, appD, extD, stiD, gN, gsNil, gsCons, gT, gLD, asgD, breakD, contD, fldD, prpD, mthD, makD, sfdD, insOf, oopD, oeqD, aeqD, lrgD, lcPopD, isBD, notBD, ogtD, rseD, isiD, tryV, dropX, ogtX, callX, setX, retX, yesT, max2D, min2D, zipD, enumD, overD, rng1D, rng2D, sumD, allD, anyD, lcD_eq, startD, startI, wipeD, List.map_cons, List.map_nil, List.length_cons, List.length_nil, List.replicate_succ, List.replicate_zero, List.cons_append, List.nil_append, List.set_cons_succ, List.set_cons_zero, List.getElem?_cons_zero, List.getElem?_cons_succ, Nat.reduceAdd, Nat.reduceSub, Nat.reduceLT, Option.some.injEq, true_and, and_true, Int.zero_add, List.length_map, at_h, at_t, exists_eq_left']
        refine ⟨_, ix_map _ (List.getElem?_eq_getElem hk), szL (by show 2 ≤ _; decide), 2, rfl, by decide, small_log (by decide) (by decide), fun r r0 r1 => ?_⟩
        obtain ⟨y, ey, c, rfl, hc⟩ := atI2 (a := .int 1) (b := .int (-1)) (fun d => ∃ c : Int, d = .int c ∧ c.natAbs < 2 ^ 1) r0 r1 ⟨_, rfl, by decide⟩ ⟨_, rfl, by decide⟩
        refine ⟨_, ey, ?_⟩
        show 1 ≤ sizeLine ∧ _
        rw [show ((k : Nat) : Int) + 1 = ((k + 1 : Nat) : Int) by omega, cut_map, cut_map, cut_take, cut_drop, show [D.int (fs[k] + c)] = [fs[k] + c].map D.int from rfl, ← List.map_append, ← List.map_append]
        have lk : (fs.take k ++ [fs[k] + c] ++ fs.drop (k + 1)).length = fs.length := by
          simp only [List.length_append, List.length_take, List.length_drop, List.length_cons, List.length_nil]; omega
        have bk : Bd (B + 600) (fs.take k ++ [fs[k] + c] ++ fs.drop (k + 1)) := by
          refine Bd.app (Bd.app ((bf.take k).mono (by omega)) fun x hx => ?_) fun x hx => lt2 (bf x (List.mem_of_mem_drop hx)) (by omega)
          rcases List.mem_cons.mp hx with rfl | hx
          · exact lt2 (bd_add (a := B + 1) (lt2 (bf.get (List.getElem?_eq_getElem hk)) (by omega)) (lt2 hc (by omega))) (by omega)
          · cases hx
        refine ⟨szL (by decide), ?_, ?_, szL (by show 2 ≤ _; decide), hp _ _ (by omega) lp bk (bp.mono (by omega))⟩
        · simp only [List.length_map, List.length_take]; exact szL (by omega)
        · simp only [List.length_map, List.length_append, List.length_take, List.length_drop, List.length_cons, List.length_nil]; exact szL (by omega)
      · trivial
    · rw [if_neg Bool.false_ne_true]; trivial
  rintro ρ rfl
  refine ⟨fun ρ => ρ = [.sh (.deck), .sh (L fs), .sh (L ps), .sh (.int way), .no, .no], ?_, ?_⟩
  · simp only [seqD, setD, ownD, conD, varD, varB, binD, iopD, subD, fdivD, modD, powD, ltD, leD, gtD, geD, addD, mulD, catD, repD, eqD, neD, isND, notND, consA, nilA, lstD, tupD, callB, callD, lenD, toIntD, toListD, toTupD, ixD, slD, slL, slT, noO, someO, revD, tstD, truD, andT, orT, notT, andV, orV, notV, ifeD, negD, chnD, retD, retN, ifD, nextD, shareD, dropD, augD, appD, extD, stiD, gN, gsNil, gsCons, gT, gLD, asgD, breakD, contD, fldD, prpD, mthD, makD, sfdD, insOf, oopD, oeqD, aeqD, lrgD, lcPopD, isBD, notBD, ogtD, rseD, isiD, tryV, dropX, ogtX, callX, setX, retX, yesT, max2D, min2D, zipD, enumD, overD, rng1D, rng2D, sumD, allD, anyD, lcD_eq, startD, startI, wipeD, List.map_cons, List.map_nil, List.length_cons, List.length_nil, List.replicate_succ, List.replicate_zero, List.cons_append, List.nil_append, List.set_cons_succ, List.set_cons_zero, List.getElem?_cons_zero, List.getElem?_cons_succ, Nat.reduceAdd, Nat.reduceSub, Nat.reduceLT, Option.some.injEq, true_and, and_true, Int.zero_add, List.length_map, at_h, at_t, exists_eq_left']
    refine ⟨pl_int _ _, pl_int _ _, ?_⟩
    split
    · rw [show D.lst [] = .lst (([] : List Int).map D.int) from rfl, eqv_ints]
      refine ⟨szL (by decide), pl_ints _ _, pl_ints _ _, ?_⟩
      split
      · rename_i hne
        have hne : ps ≠ [] := fun z => by rw [z] at hne; exact absurd hne (by decide)
        have h0 : 0 < ps.length := List.length_pos_iff.mpr hne
        refine ⟨fun ρ => ∃ k : Nat, ρ = [.sh (.deck), .sh (L fs), .sh (L ps), .sh (.int way), .sh (.int (k : Nat)), .no] ∧ k < ps.length, ?_, ?_⟩
        · simp only [seqD, setD, ownD, conD, varD, varB, binD, iopD, subD, fdivD, modD, powD, ltD, leD, gtD, geD, addD, mulD, catD, repD, eqD, neD, isND, notND, consA, nilA, lstD, tupD, callB, callD, lenD, toIntD, toListD, toTupD, ixD, slD, slL, slT, noO, someO, revD, tstD, truD, andT, orT, notT, andV, orV, notV, ifeD, negD, chnD, retD, retN, ifD, nextD, shareD, dropD, augD, appD, extD, stiD, gN, gsNil, gsCons, gT, gLD, asgD, breakD, contD, fldD, prpD, mthD, makD, sfdD, insOf, oopD, oeqD, aeqD, lrgD, lcPopD, isBD, notBD, ogtD, rseD, isiD, tryV, dropX, ogtX, callX, setX, retX, yesT, max2D, min2D, zipD, enumD, overD, rng1D, rng2D, sumD, allD, anyD, lcD_eq, startD, startI, wipeD, List.map_cons, List.map_nil, List.length_cons, List.length_nil, List.replicate_succ, List.replicate_zero, List.cons_append, List.nil_append, List.set_cons_succ, List.set_cons_zero, List.getElem?_cons_zero, List.getElem?_cons_succ, Nat.reduceAdd, Nat.reduceSub, Nat.reduceLT, Option.some.injEq, true_and, and_true, Int.zero_add, List.length_map, at_h, at_t, exists_eq_left']
          refine ⟨ps.length, rfl, by omega, small_log (by omega) (by omega), fun r r0 r1 => ⟨r.toNat, ?_, by omega⟩⟩
          rw [Int.toNat_of_nonneg r0]
        rintro ρ ⟨k, rfl, hk⟩
        simp only [seqD, setD, ownD, conD, varD, varB, binD, iopD, subD, fdivD, modD, powD, ltD, leD, gtD, geD, addD, mulD, catD, repD, eqD, neD, isND, notND, consA, nilA, lstD, tupD, callB, callD, lenD, toIntD, toListD, toTupD, ixD, slD, slL, slT, noO, someO, revD, tstD, truD, andT, orT, notT, andV, orV, notV, ifeD, negD, chnD, retD, retN, ifD, nextD, shareD, dropD, augD, appD, extD, stiD, gN, gsNil, gsCons, gT, gLD, asgD, breakD, contD, fldD, prpD, mthD, makD, sfdD, insOf, oopD, oeqD, aeqD, lrgD, lcPopD, isBD, notBD, ogtD, rseD, isiD, tryV, dropX, ogtX, callX, setX, retX, yesT, max2D, min2D, zipD, enumD, overD, rng1D, rng2D, sumD, allD, anyD, lcD_eq, startD, startI, wipeD, List.map_cons, List.map_nil, List.length_cons, List.length_nil, List.replicate_succ, List.replicate_zero, List.cons_append, List.nil_append, List.set_cons_succ, List.set_cons_zero, List.getElem?_cons_zero, List.getElem?_cons_succ, Nat.reduceAdd, Nat.reduceSub, Nat.reduceLT, Option.some.injEq, true_and, and_true, Int.zero_add, List.length_map, at_h, at_t, exists_eq_left']
        refine ⟨_, ix_map _ (List.getElem?_eq_getElem hk), szL (by show 2 ≤ _; decide), 2, rfl, by decide, small_log (by decide) (by decide), fun r r0 r1 => ?_⟩
        obtain ⟨y, ey, c, rfl, hc⟩ := atI2 (a := .int 1) (b := .int (-1)) (fun d => ∃ c : Int, d = .int c ∧ c.natAbs < 2 ^ 1) r0 r1 ⟨_, rfl, by decide⟩ ⟨_, rfl, by decide⟩
        refine ⟨_, ey, ?_⟩
        show 1 ≤ sizeLine ∧ _
        rw [show ((k : Nat) : Int) + 1 = ((k + 1 : Nat) : Int) by omega, cut_map, cut_map, cut_take, cut_drop, show [D.int (ps[k] + c)] = [ps[k] + c].map D.int from rfl, ← List.map_append, ← List.map_append]
        have lk : (ps.take k ++ [ps[k] + c] ++ ps.drop (k + 1)).length = ps.length := by
          simp only [List.length_append, List.length_take, List.length_drop, List.length_cons, List.length_nil]; omega
        have bk : Bd (B + 600) (ps.take k ++ [ps[k] + c] ++ ps.drop (k + 1)) := by
          refine Bd.app (Bd.app ((bp.take k).mono (by omega)) fun x hx => ?_) fun x hx => lt2 (bp x (List.mem_of_mem_drop hx)) (by omega)
          rcases List.mem_cons.mp hx with rfl | hx
          · exact lt2 (bd_add (a := B + 1) (lt2 (bp.get (List.getElem?_eq_getElem hk)) (by omega)) (lt2 hc (by omega))) (by omega)
          · cases hx
        refine ⟨szL (by decide), ?_, ?_, szL (by show 2 ≤ _; decide), hp _ _ lf (by omega) (bf.mono (by omega)) bk⟩
        · simp only [List.length_map, List.length_take]; exact szL (by omega)
        · simp only [List.length_map, List.length_append, List.length_take, List.length_drop, List.length_cons, List.length_nil]; exact szL (by omega)
      · trivial
    · rw [if_neg Bool.false_ne_true]; trivial
  rintro ρ rfl
  have m2 : (10 + 1) * (ps.length + 1) ≤ 11 * 41 := Nat.mul_le_mul_left _ (by omega)
  refine ⟨fs, ps, B, 10, rfl, bp, by omega, by omega, by omega, by omega, ps, rfl, szL (by show 2 ≤ _; decide), ?_⟩
  have h1 := needM_len fs ps
  have h2 := trimM_len ps
  exact hp _ _ (by omega) (by omega) ((needM_bd bf).mono (by omega)) ((trimM_bd bp).mono (by omega))
end
end KP

set_option Elab.async false
set_option linter.all false
set_option autoImplicit false
set_option maxRecDepth 100000
set_option maxHeartbeats 4000000
namespace KP
open PySem PySem.Spec PyProof.Rows L2 DL
theorem reify {α : Type} {F : α → D} {R : α → Prop} : ∀ {ys : List D}, (∀ y ∈ ys, ∃ p, y = F p ∧ R p) → ∃ ps : List α, ys = ps.map F ∧ ∀ p ∈ ps, R p
  | [], _ => ⟨[], rfl, fun p hp => by cases hp⟩
  | y :: ys, h => by
    obtain ⟨p, rfl, hp⟩ := h y List.mem_cons_self
    obtain ⟨ps, rfl, hps⟩ := reify (ys := ys) fun e he => h e (List.mem_cons_of_mem _ he)
    exact ⟨p :: ps, rfl, fun q hq => by
      rcases List.mem_cons.mp hq with rfl | hq
      · exact hp
      · exact hps q hq⟩
theorem lc_mapE {α : Type} {F G : α → D} {qs : List α} {gd : TGd} {me : TEd} {ρ : DL.Env} {P : D → Prop} (hl : qs.length ≤ 16000000) (h : ∀ p (Q : D → Prop), p ∈ qs → Q (G p) → gd (F p) ρ fun ρ2 => me ρ2 Q) (hp : P (.lst (qs.map G))) : LcI (qs.map F) gd yesT me ρ P := by
  refine lc_all (fun i => ((qs.map G)[i]?).getD .non) (by rw [List.length_map]; exact hl) (fun i d Q hd hi hq => ?_) ?_
  · obtain ⟨p, hp1, rfl⟩ := map_get hd
    rw [List.getElem?_map, hp1] at hq
    exact h p Q (List.mem_of_getElem? hp1) hq
  · have e : (List.range (qs.map F).length).map (fun i => ((qs.map G)[i]?).getD .non) = qs.map G := by
      refine List.ext_getElem? fun i => ?_
      rw [List.length_map]
      by_cases c : i < qs.length
      · rw [List.getElem?_map, List.getElem?_range c, List.getElem?_map, List.getElem?_eq_getElem c]
        show some (((qs.map G)[i]?).getD .non) = some (G qs[i])
        rw [List.getElem?_map, List.getElem?_eq_getElem c]; rfl
      · rw [List.getElem?_eq_none (by rw [List.length_map, List.length_range]; omega), List.getElem?_eq_none (by rw [List.length_map]; omega)]
    rw [e]; exact hp

abbrev pr := List Int × List Int
def tl (p : pr) : D := .tup [L p.1, L p.2]
def mdC (C : Addr) (p : pr) : D := ct C (needM p.1 (trimM p.2)) (trimM p.2)
def OkP (n : Nat) (p : pr) : Prop := p.1.length ≤ 40 ∧ p.2.length ≤ 40 ∧ Bd (2000 + 600 * n) p.1 ∧ Bd (2000 + 600 * n) p.2
/-- the built-in types and the class -/
def PlT (K : PySem.W.Frag) (C : Addr) : Prop := ∀ T, T ∈ ["NoneType", "int", "str", "list", "tuple"] → PySem.W.subIn K (.ref C) (.type T) = some false ∧ PySem.W.notFirst K C (.type T) = true ∧ PySem.W.kitOne K (.type T) (.ref C) = some false
theorem kit_bt {K : PySem.W.Frag} {C : Addr} {T : String} (h2 : PySem.W.isClsIn K C = true) (h3 : PySem.W.typeIn K (.ref C) = some (.type "type")) (h4 : PySem.W.subIn K (.type T) (.ref C) = some false) (h5 : (Value.type T == Value.ref C) = false) : PySem.W.kitOne K (.type T) (.ref C) = some false := by
  unfold PySem.W.kitOne PySem.W.kitCls
  have e2 : ((PySem.W.clsIn K C).isSome && PySem.W.typeIn K (.ref C) == some (.type "type")) = true := by
    have h2' : (PySem.W.clsIn K C).isSome = true := h2
    rw [h2', h3] <;> rfl
  rw [h5, if_neg Bool.false_ne_true]
  show (if ((PySem.W.clsIn K C).isSome && PySem.W.typeIn K (.ref C) == some (.type "type")) = true then PySem.W.subIn K (.type T) (.ref C) else none) = some false
  rw [if_pos e2]
  exact h4
theorem pl2 (a b : List Int) : Pl 64 (.tup [L a, L b]) := pl_tup (n := 63) (pl_cons (pl_ints 62 _) (pl_cons (pl_ints 62 _) pl_nil))
theorem eq2 (a b a' b' : List Int) : eqvD (.tup [L a, L b]) (.tup [L a', L b']) = (decide (a = a') && decide (b = b')) := by
  rw [eqv_tup, eqvs_cons, eqvs_cons, eqvs_nil, eqv_ints, eqv_ints, Bool.and_true]
theorem need_trim (fs ps : List Int) : needM fs (trimM ps) = needM fs ps := by
  unfold needM needN
  have e : (fun k : Nat => fs.getD k 0 == valueM (trimM ps) (k : Nat)) = (fun k : Nat => fs.getD k 0 == valueM ps (k : Nat)) := by
    funext k; rw [value_trim]
  rw [e]
section
variable {P : Program} {w : World} {K : PySem.W.Frag} {mg : Str → Option Value} {base : Heap} {C CI : Addr}
theorem ok_polyF {f : Addr} {fd : FuncData} (F : Fun K "poly" "Counted.poly" s_Counted_poly f fd) (Z : Zs mg) (T_Counted : CtT K mg C) : FnOk P w K mg base (L2.CX P w) 1 f fd ["self"] (spOfF K (S_poly C)) := by
  refine fn_mkF F sc_Counted_poly (fun ds P h => by obtain ⟨t, k, rfl, _⟩ := h; rfl) ⟨_, fun cdv A outer s H E hr => (pss_one (ps_ret (f_callTy t_list (by rfl) Z.list bt_list (db_cons (d_fld T_Counted.cls T_Counted.n_tail (dvb 0)).bo db_nil)))), ?_⟩
  rintro ds P ⟨h, t, rfl, hp⟩
  simp only [seqD, setD, ownD, conD, varD, varB, binD, iopD, subD, fdivD, modD, powD, ltD, leD, gtD, geD, addD, mulD, catD, repD, eqD, neD, isND, notND, consA, nilA, lstD, tupD, callB, callD, lenD, toIntD, toListD, toTupD, ixD, slD, slL, slT, noO, someO, revD, tstD, truD, andT, orT, notT, andV, orV, notV, ifeD, negD, chnD, retD, retN, ifD, nextD, shareD, dropD, augD, appD, extD, stiD, gN, gsNil, gsCons, gT, gLD, asgD, breakD, contD, fldD, prpD, mthD, makD, sfdD, insOf, oopD, oeqD, aeqD, lrgD, lcPopD, isBD, notBD, ogtD, rseD, isiD, tryV, dropX, ogtX, callX, setX, retX, yesT, max2D, min2D, zipD, enumD, overD, rng1D, rng2D, sumD, allD, anyD, lcD_eq, startD, startI, wipeD, List.map_cons, List.map_nil, List.length_cons, List.length_nil, List.replicate_succ, List.replicate_zero, List.cons_append, List.nil_append, List.set_cons_succ, List.set_cons_zero, List.getElem?_cons_zero, List.getElem?_cons_succ, Nat.reduceAdd, Nat.reduceSub, Nat.reduceLT, Option.some.injEq, true_and, and_true, Int.zero_add, List.length_map, at_h, at_t, exists_eq_left', ct]
  exact hp
theorem ok_firstsF {f : Addr} {fd : FuncData} (F : Fun K "firsts" "Counted.firsts" s_Counted_firsts f fd) (Z : Zs mg) (T_Counted : CtT K mg C) : FnOk P w K mg base (L2.CX P w) 1 f fd ["self"] (spOfF K (S_firsts C)) := by
  refine fn_mkF F sc_Counted_firsts (fun ds P h => by obtain ⟨t, k, rfl, _⟩ := h; rfl) ⟨_, fun cdv A outer s H E hr => (pss_one (ps_ret (f_callTy t_list (by rfl) Z.list bt_list (db_cons (d_fld T_Counted.cls T_Counted.n_head (dvb 0)).bo db_nil)))), ?_⟩
  rintro ds P ⟨h, t, rfl, hp⟩
  simp only [seqD, setD, ownD, conD, varD, varB, binD, iopD, subD, fdivD, modD, powD, ltD, leD, gtD, geD, addD, mulD, catD, repD, eqD, neD, isND, notND, consA, nilA, lstD, tupD, callB, callD, lenD, toIntD, toListD, toTupD, ixD, slD, slL, slT, noO, someO, revD, tstD, truD, andT, orT, notT, andV, orV, notV, ifeD, negD, chnD, retD, retN, ifD, nextD, shareD, dropD, augD, appD, extD, stiD, gN, gsNil, gsCons, gT, gLD, asgD, breakD, contD, fldD, prpD, mthD, makD, sfdD, insOf, oopD, oeqD, aeqD, lrgD, lcPopD, isBD, notBD, ogtD, rseD, isiD, tryV, dropX, ogtX, callX, setX, retX, yesT, max2D, min2D, zipD, enumD, overD, rng1D, rng2D, sumD, allD, anyD, lcD_eq, startD, startI, wipeD, List.map_cons, List.map_nil, List.length_cons, List.length_nil, List.replicate_succ, List.replicate_zero, List.cons_append, List.nil_append, List.set_cons_succ, List.set_cons_zero, List.getElem?_cons_zero, List.getElem?_cons_succ, Nat.reduceAdd, Nat.reduceSub, Nat.reduceLT, Option.some.injEq, true_and, and_true, Int.zero_add, List.length_map, at_h, at_t, exists_eq_left', ct]
  exact hp
theorem sc_law : FnScope ["script", "deck", "data", "k", "numbers", "row", "made", "one", "two", "left", "right", "thing", "told"] ["script"] (defScope s_law) := ⟨rfl, rfl, rfl, by decide +kernel, rfl, by decide +kernel, by decide +kernel⟩
theorem ok_law {f : Addr} {fd : FuncData} (F : Fun K "law" "law" s_law f fd) (Z : Zs mg) (T_Counted : CtT K mg C) (T_pl : PlT K C)
    (h__law_deck : Fd P w K mg base "_law_deck" 1 ["script"] S_deck)
    (h__law_draw : Fd P w K mg base "_law_draw" 1 ["deck", "many"] S_draw)
    (h__law_lists : Fd P w K mg base "_law_lists" 4 ["deck", "most"] S_lists)
    (h__law_order : Fd P w K mg base "_law_order" 2 ["deck", "many"] S_order)
    (h__law_needed : Fd P w K mg base "_law_needed" 2 ["heads", "row"] S_lneeded)
    (h__law_trimmed : Fd P w K mg base "_law_trimmed" 1 ["row"] S_trimmed)
    (h__law_changed : Fd P w K mg base "_law_changed" 3 ["deck", "numbers", "row"] S_changed)
    (h__law_compared : Fd P w K mg base "_law_compared" 3 ["one", "two", "due"] (S_compared K C))
    (h_Counted_poly : Pd P w K mg base C "poly" 1 (S_poly C)) (hF_Counted_poly : PdF P w K mg base C "poly" 1 (S_poly C)) (hF_Counted_firsts : PdF P w K mg base C "firsts" 1 (S_firsts C))
    (h_Counted_XgetitemX : Gd P w K mg base C 4 ["self", "n"] (S_getitem C CI))
    (h_Counted : Cd P w K mg base "Counted" C 4 ["self", "firsts", "poly"] (S_init C)) : FnOk P w K mg base (L2.CX P w) 7 f fd ["script"] (spLaw K) := by
  refine law_mk F sc_law (by decide) rfl ⟨_, fun cdv A outer s H E hr => ⟨(ps_set (i := 1) sc_law.nd rfl (Or.inl rfl) (d_call h__law_deck (hr.mono (by decide)) (by rfl) (da_cons (dv 0) da_nil))), (dss_consJ (ds_own (i := 2) sc_law.nd rfl (Or.inl rfl) (f_lst (da_cons (d_call h__law_lists (hr.mono (by decide)) (by rfl) (da_cons (dv 1) (da_cons d_int da_nil))) da_nil)))
      (dss_consJ (ds_for PassesOwn.never rfl (di_rng1 (by rfl) Z.range (db_cons (d_op o_add d_int.bo (d_call h__law_draw (hr.mono (by decide)) (by rfl) (da_cons (dv 1) (da_cons d_int da_nil))).bo).bo db_nil)) (dg_name (i := 3) sc_law.nd rfl (Or.inl rfl)) (dss_consJ (ds_asg (d_ix (dvb 2) (d_call h__law_draw (hr.mono (by decide)) (by rfl) (da_cons (dv 1) (da_cons (d_callB b_len (by rfl) Z.len bt_len (db_cons (dvb 2) db_nil)) da_nil))).bo) (dg_tup (n := 2) rfl (dgs_cons (dg_name (i := 4) sc_law.nd rfl (Or.inl rfl)) (dgs_cons (dg_name (i := 5) sc_law.nd rfl (Or.inl rfl)) dgs_nil))))
      (dss_one (ds_if (dt_cmp (o_eq hr.units) (d_call h__law_draw (hr.mono (by decide)) (by rfl) (da_cons (dv 1) (da_cons d_int da_nil))).bo d_int.bo) (dss_one (ds_app (i := 2) (pe_bm PySem.F.plainAttrs_list PySem.F.slot_list_append PySem.F.type_list_append mt_append (pv 2) (da_cons (d_call h__law_lists (hr.mono (by decide)) (by rfl) (da_cons (dv 1) (da_cons d_int da_nil))) da_nil)))) (dss_one (ds_app (i := 2) (pe_bm PySem.F.plainAttrs_list PySem.F.slot_list_append PySem.F.type_list_append mt_append (pv 2) (da_cons (d_call h__law_changed (hr.mono (by decide)) (by rfl) (da_cons (dv 1) (da_cons (dv 4) (da_cons (dv 5) da_nil)))) da_nil))))))))
      (dss_consJ (ds_share 2 (ds_setLc (i := 6) rfl sc_law.nd rfl rfl (sw_true rfl rfl rfl (by decide +kernel)) (di_over (dv 2)) (blkOk_by (own := [("numbers", 4), ("row", 5)]) (N := ["script", "deck", "data", "k", "numbers", "row", "made", "one", "two", "left", "right", "thing", "told"]) (sc := defScope s_law) (by decide +kernel)) (fun _ _ _ _ _ => (pg_tup (n := 2) rfl (pgs_cons (pg_name (i := 4) sc_law.nd rfl (by first | exact Or.inl rfl | exact Or.inr rfl)) (pgs_cons (pg_name (i := 5) sc_law.nd rfl (by first | exact Or.inl rfl | exact Or.inr rfl)) pgs_nil)))) (tg_tup (n := 2) (tgs_cons (tg_name (i := 4)) (tgs_cons (tg_name (i := 5)) tgs_nil))) (fun _ _ _ _ _ => dts_nil) (fun _ _ _ _ _ => (d_make h_Counted (hr.mono (by decide)) (by rfl) (da_cons (f_callTy t_list (by rfl) Z.list bt_list (db_cons (dvb 4) db_nil)).d (da_cons (f_callTy t_list (by rfl) Z.list bt_list (db_cons (dvb 5) db_nil)).d da_nil))).d)))
      (dss_consJ (ds_for PassesOwn.never rfl (di_over (d_opF f_rep (d_call h__law_order (hr.mono (by decide)) (by rfl) (da_cons (dv 1) (da_cons (d_callB b_len (by rfl) Z.len bt_len (db_cons (dvb 6) db_nil)) da_nil))).bo d_int.bo).d) (dg_name (i := 7) sc_law.nd rfl (Or.inl rfl)) (dss_consJ (ds_for PassesOwn.never rfl (di_over (d_call h__law_order (hr.mono (by decide)) (by rfl) (da_cons (dv 1) (da_cons (d_callB b_len (by rfl) Z.len bt_len (db_cons (dvb 6) db_nil)) da_nil)))) (dg_name (i := 8) sc_law.nd rfl (Or.inl rfl)) (dss_consJ (ds_set (i := 9) sc_law.nd rfl (Or.inl rfl) (d_tup (da_cons (d_call h__law_needed (hr.mono (by decide)) (by rfl) (da_cons (d_ix (d_ix (dvb 2) (dvb 7)).bo d_int.bo) (da_cons (d_ix (d_ix (dvb 2) (dvb 7)).bo d_int.bo) da_nil))) (da_cons (d_call h__law_trimmed (hr.mono (by decide)) (by rfl) (da_cons (d_ix (d_ix (dvb 2) (dvb 7)).bo d_int.bo) da_nil)) da_nil))))
      (dss_consJ (ds_set (i := 10) sc_law.nd rfl (Or.inl rfl) (d_tup (da_cons (d_call h__law_needed (hr.mono (by decide)) (by rfl) (da_cons (d_ix (d_ix (dvb 2) (dvb 8)).bo d_int.bo) (da_cons (d_ix (d_ix (dvb 2) (dvb 8)).bo d_int.bo) da_nil))) (da_cons (d_call h__law_trimmed (hr.mono (by decide)) (by rfl) (da_cons (d_ix (d_ix (dvb 2) (dvb 8)).bo d_int.bo) da_nil)) da_nil))))
      (dss_one (ds_if (dt_not (dt_val (d_call h__law_compared (hr.mono (by decide)) (by rfl) (da_cons (d_ix (dvb 6) (dvb 7)) (da_cons (d_ix (dvb 6) (dvb 8)) (da_cons (d_cmp (o_eq hr.units) (dvb 9) (dvb 10)) da_nil)))))) (dss_one (ds_ret d_bl)) dss_nil)))))
      (dss_consJ (ds_asg (d_ix (dvb 2) (dvb 7)) (dg_tup (n := 2) rfl (dgs_cons (dg_name (i := 4) sc_law.nd rfl (Or.inl rfl)) (dgs_cons (dg_name (i := 5) sc_law.nd rfl (Or.inl rfl)) dgs_nil))))
      (dss_consJ (ds_for PassesOwn.never rfl (di_over (f_lst (da_cons d_non (da_cons d_int (da_cons (d_ownget h_Counted_XgetitemX (hr.mono (by decide)) (d_ix (dvb 6) (dvb 7)) d_int) (da_cons d_str (da_cons (f_lst da_nil).d (da_cons (dv 4) (da_cons (dv 5) (da_cons (d_tup (da_cons (dv 4) (da_cons (dv 5) da_nil))) (da_cons (d_prop T_Counted.cls h_Counted_poly (hr.mono (by decide)) (d_ix (dvb 6) (dvb 7))) da_nil)))))))))).d) (dg_name (i := 11) sc_law.nd rfl (Or.inl rfl)) (dss_one (ds_if (dt_not (dt_val (d_call h__law_compared (hr.mono (by decide)) (by rfl) (da_cons (d_ix (dvb 6) (dvb 7)) (da_cons (dv 11) (da_cons d_bl da_nil)))))) (dss_one (ds_ret d_bl)) dss_nil)))
      (dss_consJ (ds_own (i := 12) sc_law.nd rfl (Or.inl rfl) (f_prop T_Counted.cls hF_Counted_firsts (hr.mono (by decide)) (d_ix (dvb 6) (dvb 7))))
      (dss_consJ (ds_app (i := 12) (pe_bm PySem.F.plainAttrs_list PySem.F.slot_list_append PySem.F.type_list_append mt_append (pv 12) (da_cons d_int da_nil)))
      (dss_consJ (ds_own (i := 12) sc_law.nd rfl (Or.inl rfl) (f_prop T_Counted.cls hF_Counted_poly (hr.mono (by decide)) (d_ix (dvb 6) (dvb 7))))
      (dss_one (ds_app (i := 12) (pe_bm PySem.F.plainAttrs_list PySem.F.slot_list_append PySem.F.type_list_append mt_append (pv 12) (da_cons d_int da_nil)))))))))))
      (dss_one (ds_ret d_bl))))))⟩, ?_⟩
  intro xs hxs
  refine ⟨fun ρ => ∃ (a : Addr) (ps : List pr), ρ = [.sh (.scr xs), .sh (.deck), .ow a (.lst (ps.map tl)), .no, .no, .no, .no, .no, .no, .no, .no, .no, .no] ∧ ps.length = 1 ∧ ∀ p ∈ ps, OkP 0 p, ?_, ?_⟩
  · simp only [seqD, setD, ownD, conD, varD, varB, binD, iopD, subD, fdivD, modD, powD, ltD, leD, gtD, geD, addD, mulD, catD, repD, eqD, neD, isND, notND, consA, nilA, lstD, tupD, callB, callD, lenD, toIntD, toListD, toTupD, ixD, slD, slL, slT, noO, someO, revD, tstD, truD, andT, orT, notT, andV, orV, notV, ifeD, negD, chnD, retD, retN, ifD, nextD, shareD, dropD, augD, appD, extD, stiD, gN, gsNil, gsCons, gT, gLD, asgD, breakD, contD, fldD, prpD, mthD, makD, sfdD, insOf, oopD, oeqD, aeqD, lrgD, lcPopD, isBD, notBD, ogtD, rseD, isiD, tryV, dropX, ogtX, callX, setX, retX, yesT, max2D, min2D, zipD, enumD, overD, rng1D, rng2D, sumD, allD, anyD, lcD_eq, startD, startI, wipeD, List.map_cons, List.map_nil, List.length_cons, List.length_nil, List.replicate_succ, List.replicate_zero, List.cons_append, List.nil_append, List.set_cons_succ, List.set_cons_zero, List.getElem?_cons_zero, List.getElem?_cons_succ, Nat.reduceAdd, Nat.reduceSub, Nat.reduceLT, Option.some.injEq, true_and, and_true, Int.zero_add, List.length_map, at_h, at_t, exists_eq_left']
    refine ⟨38, rfl, by decide, by decide, fun hs rs l1 l2 b1 b2 => ⟨szL (by decide), fun a => ⟨a, [(hs, rs)], rfl, rfl, fun p hp => ?_⟩⟩⟩
    rcases List.mem_cons.mp hp with rfl | hp
    · exact ⟨by show hs.length ≤ 40; omega, by show rs.length ≤ 40; omega, b1.mono (by decide), b2.mono (by decide)⟩
    · cases hp
  rintro ρ ⟨a, ps, rfl, hl, hp⟩
  refine ⟨fun ρ => ∃ (a : Addr) (ps : List pr) (x y z : Cell), ρ = [.sh (.scr xs), .sh (.deck), .ow a (.lst (ps.map tl)), x, y, z, .no, .no, .no, .no, .no, .no, .no] ∧ 0 < ps.length ∧ ps.length ≤ 5 ∧ ∀ p ∈ ps, OkP 4 p, ?_, ?_⟩
  · simp only [seqD, setD, ownD, conD, varD, varB, binD, iopD, subD, fdivD, modD, powD, ltD, leD, gtD, geD, addD, mulD, catD, repD, eqD, neD, isND, notND, consA, nilA, lstD, tupD, callB, callD, lenD, toIntD, toListD, toTupD, ixD, slD, slL, slT, noO, someO, revD, tstD, truD, andT, orT, notT, andV, orV, notV, ifeD, negD, chnD, retD, retN, ifD, nextD, shareD, dropD, augD, appD, extD, stiD, gN, gsNil, gsCons, gT, gLD, asgD, breakD, contD, fldD, prpD, mthD, makD, sfdD, insOf, oopD, oeqD, aeqD, lrgD, lcPopD, isBD, notBD, ogtD, rseD, isiD, tryV, dropX, ogtX, callX, setX, retX, yesT, max2D, min2D, zipD, enumD, overD, rng1D, rng2D, sumD, allD, anyD, lcD_eq, startD, startI, wipeD, List.map_cons, List.map_nil, List.length_cons, List.length_nil, List.replicate_succ, List.replicate_zero, List.cons_append, List.nil_append, List.set_cons_succ, List.set_cons_zero, List.getElem?_cons_zero, List.getElem?_cons_succ, Nat.reduceAdd, Nat.reduceSub, Nat.reduceLT, Option.some.injEq, true_and, and_true, Int.zero_add, List.length_map, at_h, at_t, exists_eq_left']
    refine ⟨4, rfl, by decide, small_log (by decide) (by decide), fun r r0 r1 => ⟨by omega, by omega, ?_⟩⟩
    refine ⟨fun i ρ => ∃ (a : Addr) (ps : List pr) (x y z : Cell), ρ = [.sh (.scr xs), .sh (.deck), .ow a (.lst (ps.map tl)), x, y, z, .no, .no, .no, .no, .no, .no, .no] ∧ ps.length = i + 1 ∧ ∀ p ∈ ps, OkP i p, ⟨a, ps, _, _, _, rfl, hl, hp⟩, ?_, ?_⟩
    · rintro i d ρ hd ⟨a, ps, x, y, z, rfl, hl, hp⟩
      obtain ⟨hi, rfl⟩ := rng_get hd
      have hi4 : i < 4 := by omega
      simp only [seqD, setD, ownD, conD, varD, varB, binD, iopD, subD, fdivD, modD, powD, ltD, leD, gtD, geD, addD, mulD, catD, repD, eqD, neD, isND, notND, consA, nilA, lstD, tupD, callB, callD, lenD, toIntD, toListD, toTupD, ixD, slD, slL, slT, noO, someO, revD, tstD, truD, andT, orT, notT, andV, orV, notV, ifeD, negD, chnD, retD, retN, ifD, nextD, shareD, dropD, augD, appD, extD, stiD, gN, gsNil, gsCons, gT, gLD, asgD, breakD, contD, fldD, prpD, mthD, makD, sfdD, insOf, oopD, oeqD, aeqD, lrgD, lcPopD, isBD, notBD, ogtD, rseD, isiD, tryV, dropX, ogtX, callX, setX, retX, yesT, max2D, min2D, zipD, enumD, overD, rng1D, rng2D, sumD, allD, anyD, lcD_eq, startD, startI, wipeD, List.map_cons, List.map_nil, List.length_cons, List.length_nil, List.replicate_succ, List.replicate_zero, List.cons_append, List.nil_append, List.set_cons_succ, List.set_cons_zero, List.getElem?_cons_zero, List.getElem?_cons_succ, Nat.reduceAdd, Nat.reduceSub, Nat.reduceLT, Option.some.injEq, true_and, and_true, Int.zero_add, List.length_map, at_h, at_t, exists_eq_left']
      refine ⟨fun ρ => ∃ (p : pr), ρ = [.sh (.scr xs), .sh (.deck), .ow a (.lst (ps.map tl)), .sh (.int (i : Nat)), .sh (L p.1), .sh (L p.2), .no, .no, .no, .no, .no, .no, .no] ∧ OkP i p, ?_, ?_⟩
      · refine ⟨(ps.length : Nat), by rw [List.length_map], by omega, small_log (by omega) (by omega), fun r r0 r1 => ?_⟩
        obtain ⟨k, rfl⟩ := Int.eq_ofNat_of_zero_le r0
        have hk : k < ps.length := by omega
        exact ⟨_, ix_map tl (List.getElem?_eq_getElem hk), rfl, rfl, ps[k], rfl, hp _ (List.getElem_mem hk)⟩
      rintro ρ ⟨p, rfl, h1, h2, h3, h4⟩
      simp only [seqD, setD, ownD, conD, varD, varB, binD, iopD, subD, fdivD, modD, powD, ltD, leD, gtD, geD, addD, mulD, catD, repD, eqD, neD, isND, notND, consA, nilA, lstD, tupD, callB, callD, lenD, toIntD, toListD, toTupD, ixD, slD, slL, slT, noO, someO, revD, tstD, truD, andT, orT, notT, andV, orV, notV, ifeD, negD, chnD, retD, retN, ifD, nextD, shareD, dropD, augD, appD, extD, stiD, gN, gsNil, gsCons, gT, gLD, asgD, breakD, contD, fldD, prpD, mthD, makD, sfdD, insOf, oopD, oeqD, aeqD, lrgD, lcPopD, isBD, notBD, ogtD, rseD, isiD, tryV, dropX, ogtX, callX, setX, retX, yesT, max2D, min2D, zipD, enumD, overD, rng1D, rng2D, sumD, allD, anyD, lcD_eq, startD, startI, wipeD, List.map_cons, List.map_nil, List.length_cons, List.length_nil, List.replicate_succ, List.replicate_zero, List.cons_append, List.nil_append, List.set_cons_succ, List.set_cons_zero, List.getElem?_cons_zero, List.getElem?_cons_succ, Nat.reduceAdd, Nat.reduceSub, Nat.reduceLT, Option.some.injEq, true_and, and_true, Int.zero_add, List.length_map, at_h, at_t, exists_eq_left']
      refine ⟨6, rfl, by decide, small_log (by decide) (by decide), fun r r0 r1 => ⟨pl_int _ _, pl_int _ _, ?_⟩⟩
      have fin : ∀ q : pr, OkP (i + 1) q → ∀ p ∈ ps ++ [q], OkP (i + 1) p := fun q hq p hp1 => by
        rcases List.mem_append.mp hp1 with h | h
        · obtain ⟨g1, g2, g3, g4⟩ := hp p h
          exact ⟨g1, g2, g3.mono (by omega), g4.mono (by omega)⟩
        · rcases List.mem_cons.mp h with rfl | h
          · exact hq
          · cases h
      have el : ∀ q : pr, List.map tl ps ++ [tl q] = List.map tl (ps ++ [q]) := fun q => by rw [List.map_append]; rfl
      split
      · refine ⟨38, rfl, by decide, by decide, fun hs rs l1 l2 b1 b2 => ⟨szT (by omega), a, ps ++ [(hs, rs)], _, _, _, by rw [← el]; rfl, by rw [List.length_append, hl]; rfl, fin _ ⟨by show hs.length ≤ 40; omega, by show rs.length ≤ 40; omega, b1.mono (by omega), b2.mono (by omega)⟩⟩⟩
      · refine ⟨p.1, p.2, 2000 + 600 * i, 0, rfl, h3, h4, h1, h2, by omega, fun hs rs l1 l2 b1 b2 => ⟨szT (by omega), a, ps ++ [(hs, rs)], _, _, _, by rw [← el]; rfl, by rw [List.length_append, hl]; rfl, fin _ ⟨l1, l2, b1.mono (by omega), b2.mono (by omega)⟩⟩⟩
    · rintro ρ ⟨a, ps, x, y, z, rfl, hl, hp⟩
      rw [rngL_len] at hl hp
      exact ⟨a, ps, x, y, z, rfl, by omega, by omega, fun p hm => by
        obtain ⟨g1, g2, g3, g4⟩ := hp p hm
        exact ⟨g1, g2, g3.mono (by omega), g4.mono (by omega)⟩⟩
  rintro ρ ⟨a, ps, x, y, z, rfl, h0, h5, hp⟩
  refine ⟨fun ρ => ∃ (x y z : Cell), ρ = [.sh (.scr xs), .sh (.deck), .sh (.lst (ps.map tl)), x, y, z, .sh (.lst (ps.map (mdC C))), .no, .no, .no, .no, .no, .no], ?_, ?_⟩
  · simp only [seqD, setD, ownD, conD, varD, varB, binD, iopD, subD, fdivD, modD, powD, ltD, leD, gtD, geD, addD, mulD, catD, repD, eqD, neD, isND, notND, consA, nilA, lstD, tupD, callB, callD, lenD, toIntD, toListD, toTupD, ixD, slD, slL, slT, noO, someO, revD, tstD, truD, andT, orT, notT, andV, orV, notV, ifeD, negD, chnD, retD, retN, ifD, nextD, shareD, dropD, augD, appD, extD, stiD, gN, gsNil, gsCons, gT, gLD, asgD, breakD, contD, fldD, prpD, mthD, makD, sfdD, insOf, oopD, oeqD, aeqD, lrgD, lcPopD, isBD, notBD, ogtD, rseD, isiD, tryV, dropX, ogtX, callX, setX, retX, yesT, max2D, min2D, zipD, enumD, overD, rng1D, rng2D, sumD, allD, anyD, lcD_eq, startD, startI, wipeD, List.map_cons, List.map_nil, List.length_cons, List.length_nil, List.replicate_succ, List.replicate_zero, List.cons_append, List.nil_append, List.set_cons_succ, List.set_cons_zero, List.getElem?_cons_zero, List.getElem?_cons_succ, Nat.reduceAdd, Nat.reduceSub, Nat.reduceLT, Option.some.injEq, true_and, and_true, Int.zero_add, List.length_map, at_h, at_t, exists_eq_left']
    refine lc_mapE (G := mdC C) (by omega) (fun p Q hp1 hq => ?_) ⟨_, _, _, rfl⟩
    obtain ⟨g1, g2, g3, g4⟩ := hp p hp1
    simp only [seqD, setD, ownD, conD, varD, varB, binD, iopD, subD, fdivD, modD, powD, ltD, leD, gtD, geD, addD, mulD, catD, repD, eqD, neD, isND, notND, consA, nilA, lstD, tupD, callB, callD, lenD, toIntD, toListD, toTupD, ixD, slD, slL, slT, noO, someO, revD, tstD, truD, andT, orT, notT, andV, orV, notV, ifeD, negD, chnD, retD, retN, ifD, nextD, shareD, dropD, augD, appD, extD, stiD, gN, gsNil, gsCons, gT, gLD, asgD, breakD, contD, fldD, prpD, mthD, makD, sfdD, insOf, oopD, oeqD, aeqD, lrgD, lcPopD, isBD, notBD, ogtD, rseD, isiD, tryV, dropX, ogtX, callX, setX, retX, yesT, max2D, min2D, zipD, enumD, overD, rng1D, rng2D, sumD, allD, anyD, lcD_eq, startD, startI, wipeD, List.map_cons, List.map_nil, List.length_cons, List.length_nil, List.replicate_succ, List.replicate_zero, List.cons_append, List.nil_append, List.set_cons_succ, List.set_cons_zero, List.getElem?_cons_zero, List.getElem?_cons_succ, Nat.reduceAdd, Nat.reduceSub, Nat.reduceLT, Option.some.injEq, true_and, and_true, Int.zero_add, List.length_map, at_h, at_t, exists_eq_left', tl]
    have m2 : (10 + 1) * (p.2.length + 1) ≤ 11 * 41 := Nat.mul_le_mul_left _ (by omega)
    exact ⟨p.1, p.2, 2000 + 600 * 4, 10, rfl, g4, by omega, by omega, by omega, by omega, hq⟩
  rintro ρ ⟨x, y, z, rfl⟩
  have ord : ∀ (n : Nat) (os : List Int) (i : Nat) (d : D), (∀ x ∈ os, 0 ≤ x ∧ x < (ps.length : Nat)) → ((List.replicate n (os.map D.int)).flatten)[i]? = some d → ∃ (k : Nat) (p : pr), d = .int (k : Nat) ∧ ps[k]? = some p ∧ OkP 4 p := fun n os i d ho hd => by
    obtain ⟨l, hl1, hl2⟩ := List.mem_flatten.mp (List.mem_of_getElem? hd)
    rw [(List.mem_replicate.mp hl1).2] at hl2
    obtain ⟨x, hx, rfl⟩ := List.mem_map.mp hl2
    obtain ⟨x0, x1⟩ := ho x hx
    obtain ⟨k, rfl⟩ := Int.eq_ofNat_of_zero_le x0
    have hk : k < ps.length := by omega
    exact ⟨k, ps[k], rfl, List.getElem?_eq_getElem hk, hp _ (List.getElem_mem hk)⟩
  have ned : ∀ (p : pr), OkP 4 p → ∀ Q : D → Prop, Q (L (needM p.1 (trimM p.2))) → S_lneeded [L p.1, L p.2] Q X0 := fun p ⟨h1, h2, h3, h4⟩ Q hq => by
    have m2 : (10 + 1) * (p.2.length + 1) ≤ 11 * 41 := Nat.mul_le_mul_left _ (by omega)
    exact ⟨p.1, p.2, 2000 + 600 * 4, 10, rfl, h4, by omega, by omega, by omega, by omega, by rw [← need_trim]; exact hq⟩
  refine ⟨fun ρ => True, ?_, fun _ _ => rfl⟩
  simp only [seqD, setD, ownD, conD, varD, varB, binD, iopD, subD, fdivD, modD, powD, ltD, leD, gtD, geD, addD, mulD, catD, repD, eqD, neD, isND, notND, consA, nilA, lstD, tupD, callB, callD, lenD, toIntD, toListD, toTupD, ixD, slD, slL, slT, noO, someO, revD, tstD, truD, andT, orT, notT, andV, orV, notV, ifeD, negD, chnD, retD, retN, ifD, nextD, shareD, dropD, augD, appD, extD, stiD, gN, gsNil, gsCons, gT, gLD, asgD, breakD, contD, fldD, prpD, mthD, makD, sfdD, insOf, oopD, oeqD, aeqD, lrgD, lcPopD, isBD, notBD, ogtD, rseD, isiD, tryV, dropX, ogtX, callX, setX, retX, yesT, max2D, min2D, zipD, enumD, overD, rng1D, rng2D, sumD, allD, anyD, lcD_eq, startD, startI, wipeD, List.map_cons, List.map_nil, List.length_cons, List.length_nil, List.replicate_succ, List.replicate_zero, List.cons_append, List.nil_append, List.set_cons_succ, List.set_cons_zero, List.getElem?_cons_zero, List.getElem?_cons_succ, Nat.reduceAdd, Nat.reduceSub, Nat.reduceLT, Option.some.injEq, true_and, and_true, Int.zero_add, List.length_map, at_h, at_t, exists_eq_left']
  refine ⟨ps.length, by rw [List.length_map], by omega, fun os lo ho => ⟨by decide, by decide, szL (by rw [List.length_map, lo]; show ps.length * 2 ≤ _; omega), ?_⟩⟩
  refine ⟨fun _ ρ => ∃ (c3 c4 c5 c7 c8 c9 c10 c11 c12 : Cell), ρ = [.sh (.scr xs), .sh (.deck), .sh (.lst (ps.map tl)), c3, c4, c5, .sh (.lst (ps.map (mdC C))), c7, c8, c9, c10, c11, c12], ⟨_, _, _, _, _, _, _, _, _, rfl⟩, ?_, fun _ _ => trivial⟩
  rintro i d ρ hd ⟨c3, c4, c5, c7, c8, c9, c10, c11, c12, rfl⟩
  obtain ⟨k, p, rfl, hk, ok⟩ := ord _ _ _ _ ho hd
  simp only [seqD, setD, ownD, conD, varD, varB, binD, iopD, subD, fdivD, modD, powD, ltD, leD, gtD, geD, addD, mulD, catD, repD, eqD, neD, isND, notND, consA, nilA, lstD, tupD, callB, callD, lenD, toIntD, toListD, toTupD, ixD, slD, slL, slT, noO, someO, revD, tstD, truD, andT, orT, notT, andV, orV, notV, ifeD, negD, chnD, retD, retN, ifD, nextD, shareD, dropD, augD, appD, extD, stiD, gN, gsNil, gsCons, gT, gLD, asgD, breakD, contD, fldD, prpD, mthD, makD, sfdD, insOf, oopD, oeqD, aeqD, lrgD, lcPopD, isBD, notBD, ogtD, rseD, isiD, tryV, dropX, ogtX, callX, setX, retX, yesT, max2D, min2D, zipD, enumD, overD, rng1D, rng2D, sumD, allD, anyD, lcD_eq, startD, startI, wipeD, List.map_cons, List.map_nil, List.length_cons, List.length_nil, List.replicate_succ, List.replicate_zero, List.cons_append, List.nil_append, List.set_cons_succ, List.set_cons_zero, List.getElem?_cons_zero, List.getElem?_cons_succ, Nat.reduceAdd, Nat.reduceSub, Nat.reduceLT, Option.some.injEq, true_and, and_true, Int.zero_add, List.length_map, at_h, at_t, exists_eq_left']
  refine ⟨fun ρ => ∃ (c3 c4 c5 c8 c9 c10 c11 c12 : Cell), ρ = [.sh (.scr xs), .sh (.deck), .sh (.lst (ps.map tl)), c3, c4, c5, .sh (.lst (ps.map (mdC C))), .sh (.int (k : Nat)), c8, c9, c10, c11, c12], ?_, ?_⟩
  · refine ⟨ps.length, by rw [List.length_map], by omega, fun os2 lo2 ho2 => ?_⟩
    refine ⟨fun _ ρ => ∃ (c3 c4 c5 c8 c9 c10 c11 c12 : Cell), ρ = [.sh (.scr xs), .sh (.deck), .sh (.lst (ps.map tl)), c3, c4, c5, .sh (.lst (ps.map (mdC C))), .sh (.int (k : Nat)), c8, c9, c10, c11, c12], ⟨_, _, _, _, _, _, _, _, rfl⟩, ?_, ?_⟩
    · rintro j d ρ hd ⟨c3, c4, c5, c8, c9, c10, c11, c12, rfl⟩
      obtain ⟨m, q, rfl, hm, oq⟩ := ord 1 _ _ _ ho2 (by rw [List.replicate_one, List.flatten_singleton]; exact hd)
      simp only [seqD, setD, ownD, conD, varD, varB, binD, iopD, subD, fdivD, modD, powD, ltD, leD, gtD, geD, addD, mulD, catD, repD, eqD, neD, isND, notND, consA, nilA, lstD, tupD, callB, callD, lenD, toIntD, toListD, toTupD, ixD, slD, slL, slT, noO, someO, revD, tstD, truD, andT, orT, notT, andV, orV, notV, ifeD, negD, chnD, retD, retN, ifD, nextD, shareD, dropD, augD, appD, extD, stiD, gN, gsNil, gsCons, gT, gLD, asgD, breakD, contD, fldD, prpD, mthD, makD, sfdD, insOf, oopD, oeqD, aeqD, lrgD, lcPopD, isBD, notBD, ogtD, rseD, isiD, tryV, dropX, ogtX, callX, setX, retX, yesT, max2D, min2D, zipD, enumD, overD, rng1D, rng2D, sumD, allD, anyD, lcD_eq, startD, startI, wipeD, List.map_cons, List.map_nil, List.length_cons, List.length_nil, List.replicate_succ, List.replicate_zero, List.cons_append, List.nil_append, List.set_cons_succ, List.set_cons_zero, List.getElem?_cons_zero, List.getElem?_cons_succ, Nat.reduceAdd, Nat.reduceSub, Nat.reduceLT, Option.some.injEq, true_and, and_true, Int.zero_add, List.length_map, at_h, at_t, exists_eq_left']
      refine ⟨fun ρ => ρ = [.sh (.scr xs), .sh (.deck), .sh (.lst (ps.map tl)), c3, c4, c5, .sh (.lst (ps.map (mdC C))), .sh (.int (k : Nat)), .sh (.int (m : Nat)), .sh (.tup [L (needM p.1 (trimM p.2)), L (trimM p.2)]), c10, c11, c12], ?_, ?_⟩
      · refine ⟨_, ix_map tl hk, ?_⟩
        simp only [seqD, setD, ownD, conD, varD, varB, binD, iopD, subD, fdivD, modD, powD, ltD, leD, gtD, geD, addD, mulD, catD, repD, eqD, neD, isND, notND, consA, nilA, lstD, tupD, callB, callD, lenD, toIntD, toListD, toTupD, ixD, slD, slL, slT, noO, someO, revD, tstD, truD, andT, orT, notT, andV, orV, notV, ifeD, negD, chnD, retD, retN, ifD, nextD, shareD, dropD, augD, appD, extD, stiD, gN, gsNil, gsCons, gT, gLD, asgD, breakD, contD, fldD, prpD, mthD, makD, sfdD, insOf, oopD, oeqD, aeqD, lrgD, lcPopD, isBD, notBD, ogtD, rseD, isiD, tryV, dropX, ogtX, callX, setX, retX, yesT, max2D, min2D, zipD, enumD, overD, rng1D, rng2D, sumD, allD, anyD, lcD_eq, startD, startI, wipeD, List.map_cons, List.map_nil, List.length_cons, List.length_nil, List.replicate_succ, List.replicate_zero, List.cons_append, List.nil_append, List.set_cons_succ, List.set_cons_zero, List.getElem?_cons_zero, List.getElem?_cons_succ, Nat.reduceAdd, Nat.reduceSub, Nat.reduceLT, Option.some.injEq, true_and, and_true, Int.zero_add, List.length_map, at_h, at_t, exists_eq_left', tl]
        refine ⟨_, rfl, _, ix_map tl hk, ?_⟩
        simp only [seqD, setD, ownD, conD, varD, varB, binD, iopD, subD, fdivD, modD, powD, ltD, leD, gtD, geD, addD, mulD, catD, repD, eqD, neD, isND, notND, consA, nilA, lstD, tupD, callB, callD, lenD, toIntD, toListD, toTupD, ixD, slD, slL, slT, noO, someO, revD, tstD, truD, andT, orT, notT, andV, orV, notV, ifeD, negD, chnD, retD, retN, ifD, nextD, shareD, dropD, augD, appD, extD, stiD, gN, gsNil, gsCons, gT, gLD, asgD, breakD, contD, fldD, prpD, mthD, makD, sfdD, insOf, oopD, oeqD, aeqD, lrgD, lcPopD, isBD, notBD, ogtD, rseD, isiD, tryV, dropX, ogtX, callX, setX, retX, yesT, max2D, min2D, zipD, enumD, overD, rng1D, rng2D, sumD, allD, anyD, lcD_eq, startD, startI, wipeD, List.map_cons, List.map_nil, List.length_cons, List.length_nil, List.replicate_succ, List.replicate_zero, List.cons_append, List.nil_append, List.set_cons_succ, List.set_cons_zero, List.getElem?_cons_zero, List.getElem?_cons_succ, Nat.reduceAdd, Nat.reduceSub, Nat.reduceLT, Option.some.injEq, true_and, and_true, Int.zero_add, List.length_map, at_h, at_t, exists_eq_left', tl]
        refine ⟨_, rfl, ned p ok _ ?_⟩
        refine ⟨_, ix_map tl hk, ?_⟩
        simp only [seqD, setD, ownD, conD, varD, varB, binD, iopD, subD, fdivD, modD, powD, ltD, leD, gtD, geD, addD, mulD, catD, repD, eqD, neD, isND, notND, consA, nilA, lstD, tupD, callB, callD, lenD, toIntD, toListD, toTupD, ixD, slD, slL, slT, noO, someO, revD, tstD, truD, andT, orT, notT, andV, orV, notV, ifeD, negD, chnD, retD, retN, ifD, nextD, shareD, dropD, augD, appD, extD, stiD, gN, gsNil, gsCons, gT, gLD, asgD, breakD, contD, fldD, prpD, mthD, makD, sfdD, insOf, oopD, oeqD, aeqD, lrgD, lcPopD, isBD, notBD, ogtD, rseD, isiD, tryV, dropX, ogtX, callX, setX, retX, yesT, max2D, min2D, zipD, enumD, overD, rng1D, rng2D, sumD, allD, anyD, lcD_eq, startD, startI, wipeD, List.map_cons, List.map_nil, List.length_cons, List.length_nil, List.replicate_succ, List.replicate_zero, List.cons_append, List.nil_append, List.set_cons_succ, List.set_cons_zero, List.getElem?_cons_zero, List.getElem?_cons_succ, Nat.reduceAdd, Nat.reduceSub, Nat.reduceLT, Option.some.injEq, true_and, and_true, Int.zero_add, List.length_map, at_h, at_t, exists_eq_left', tl]
        exact ⟨_, rfl, p.2, rfl, szL (by decide), rfl⟩
      rintro ρ rfl
      refine ⟨fun ρ => ρ = [.sh (.scr xs), .sh (.deck), .sh (.lst (ps.map tl)), c3, c4, c5, .sh (.lst (ps.map (mdC C))), .sh (.int (k : Nat)), .sh (.int (m : Nat)), .sh (.tup [L (needM p.1 (trimM p.2)), L (trimM p.2)]), .sh (.tup [L (needM q.1 (trimM q.2)), L (trimM q.2)]), c11, c12], ?_, ?_⟩
      · simp only [seqD, setD, ownD, conD, varD, varB, binD, iopD, subD, fdivD, modD, powD, ltD, leD, gtD, geD, addD, mulD, catD, repD, eqD, neD, isND, notND, consA, nilA, lstD, tupD, callB, callD, lenD, toIntD, toListD, toTupD, ixD, slD, slL, slT, noO, someO, revD, tstD, truD, andT, orT, notT, andV, orV, notV, ifeD, negD, chnD, retD, retN, ifD, nextD, shareD, dropD, augD, appD, extD, stiD, gN, gsNil, gsCons, gT, gLD, asgD, breakD, contD, fldD, prpD, mthD, makD, sfdD, insOf, oopD, oeqD, aeqD, lrgD, lcPopD, isBD, notBD, ogtD, rseD, isiD, tryV, dropX, ogtX, callX, setX, retX, yesT, max2D, min2D, zipD, enumD, overD, rng1D, rng2D, sumD, allD, anyD, lcD_eq, startD, startI, wipeD, List.map_cons, List.map_nil, List.length_cons, List.length_nil, List.replicate_succ, List.replicate_zero, List.cons_append, List.nil_append, List.set_cons_succ, List.set_cons_zero, List.getElem?_cons_zero, List.getElem?_cons_succ, Nat.reduceAdd, Nat.reduceSub, Nat.reduceLT, Option.some.injEq, true_and, and_true, Int.zero_add, List.length_map, at_h, at_t, exists_eq_left']
        refine ⟨_, ix_map tl hm, ?_⟩
        simp only [seqD, setD, ownD, conD, varD, varB, binD, iopD, subD, fdivD, modD, powD, ltD, leD, gtD, geD, addD, mulD, catD, repD, eqD, neD, isND, notND, consA, nilA, lstD, tupD, callB, callD, lenD, toIntD, toListD, toTupD, ixD, slD, slL, slT, noO, someO, revD, tstD, truD, andT, orT, notT, andV, orV, notV, ifeD, negD, chnD, retD, retN, ifD, nextD, shareD, dropD, augD, appD, extD, stiD, gN, gsNil, gsCons, gT, gLD, asgD, breakD, contD, fldD, prpD, mthD, makD, sfdD, insOf, oopD, oeqD, aeqD, lrgD, lcPopD, isBD, notBD, ogtD, rseD, isiD, tryV, dropX, ogtX, callX, setX, retX, yesT, max2D, min2D, zipD, enumD, overD, rng1D, rng2D, sumD, allD, anyD, lcD_eq, startD, startI, wipeD, List.map_cons, List.map_nil, List.length_cons, List.length_nil, List.replicate_succ, List.replicate_zero, List.cons_append, List.nil_append, List.set_cons_succ, List.set_cons_zero, List.getElem?_cons_zero, List.getElem?_cons_succ, Nat.reduceAdd, Nat.reduceSub, Nat.reduceLT, Option.some.injEq, true_and, and_true, Int.zero_add, List.length_map, at_h, at_t, exists_eq_left', tl]
        refine ⟨_, rfl, _, ix_map tl hm, ?_⟩
        simp only [seqD, setD, ownD, conD, varD, varB, binD, iopD, subD, fdivD, modD, powD, ltD, leD, gtD, geD, addD, mulD, catD, repD, eqD, neD, isND, notND, consA, nilA, lstD, tupD, callB, callD, lenD, toIntD, toListD, toTupD, ixD, slD, slL, slT, noO, someO, revD, tstD, truD, andT, orT, notT, andV, orV, notV, ifeD, negD, chnD, retD, retN, ifD, nextD, shareD, dropD, augD, appD, extD, stiD, gN, gsNil, gsCons, gT, gLD, asgD, breakD, contD, fldD, prpD, mthD, makD, sfdD, insOf, oopD, oeqD, aeqD, lrgD, lcPopD, isBD, notBD, ogtD, rseD, isiD, tryV, dropX, ogtX, callX, setX, retX, yesT, max2D, min2D, zipD, enumD, overD, rng1D, rng2D, sumD, allD, anyD, lcD_eq, startD, startI, wipeD, List.map_cons, List.map_nil, List.length_cons, List.length_nil, List.replicate_succ, List.replicate_zero, List.cons_append, List.nil_append, List.set_cons_succ, List.set_cons_zero, List.getElem?_cons_zero, List.getElem?_cons_succ, Nat.reduceAdd, Nat.reduceSub, Nat.reduceLT, Option.some.injEq, true_and, and_true, Int.zero_add, List.length_map, at_h, at_t, exists_eq_left', tl]
        refine ⟨_, rfl, ned q oq _ ?_⟩
        refine ⟨_, ix_map tl hm, ?_⟩
        simp only [seqD, setD, ownD, conD, varD, varB, binD, iopD, subD, fdivD, modD, powD, ltD, leD, gtD, geD, addD, mulD, catD, repD, eqD, neD, isND, notND, consA, nilA, lstD, tupD, callB, callD, lenD, toIntD, toListD, toTupD, ixD, slD, slL, slT, noO, someO, revD, tstD, truD, andT, orT, notT, andV, orV, notV, ifeD, negD, chnD, retD, retN, ifD, nextD, shareD, dropD, augD, appD, extD, stiD, gN, gsNil, gsCons, gT, gLD, asgD, breakD, contD, fldD, prpD, mthD, makD, sfdD, insOf, oopD, oeqD, aeqD, lrgD, lcPopD, isBD, notBD, ogtD, rseD, isiD, tryV, dropX, ogtX, callX, setX, retX, yesT, max2D, min2D, zipD, enumD, overD, rng1D, rng2D, sumD, allD, anyD, lcD_eq, startD, startI, wipeD, List.map_cons, List.map_nil, List.length_cons, List.length_nil, List.replicate_succ, List.replicate_zero, List.cons_append, List.nil_append, List.set_cons_succ, List.set_cons_zero, List.getElem?_cons_zero, List.getElem?_cons_succ, Nat.reduceAdd, Nat.reduceSub, Nat.reduceLT, Option.some.injEq, true_and, and_true, Int.zero_add, List.length_map, at_h, at_t, exists_eq_left', tl]
        exact ⟨_, rfl, q.2, rfl, szL (by decide), rfl⟩
      rintro ρ rfl
      simp only [seqD, setD, ownD, conD, varD, varB, binD, iopD, subD, fdivD, modD, powD, ltD, leD, gtD, geD, addD, mulD, catD, repD, eqD, neD, isND, notND, consA, nilA, lstD, tupD, callB, callD, lenD, toIntD, toListD, toTupD, ixD, slD, slL, slT, noO, someO, revD, tstD, truD, andT, orT, notT, andV, orV, notV, ifeD, negD, chnD, retD, retN, ifD, nextD, shareD, dropD, augD, appD, extD, stiD, gN, gsNil, gsCons, gT, gLD, asgD, breakD, contD, fldD, prpD, mthD, makD, sfdD, insOf, oopD, oeqD, aeqD, lrgD, lcPopD, isBD, notBD, ogtD, rseD, isiD, tryV, dropX, ogtX, callX, setX, retX, yesT, max2D, min2D, zipD, enumD, overD, rng1D, rng2D, sumD, allD, anyD, lcD_eq, startD, startI, wipeD, List.map_cons, List.map_nil, List.length_cons, List.length_nil, List.replicate_succ, List.replicate_zero, List.cons_append, List.nil_append, List.set_cons_succ, List.set_cons_zero, List.getElem?_cons_zero, List.getElem?_cons_succ, Nat.reduceAdd, Nat.reduceSub, Nat.reduceLT, Option.some.injEq, true_and, and_true, Int.zero_add, List.length_map, at_h, at_t, exists_eq_left']
      refine ⟨_, ix_map (mdC C) hk, _, ix_map (mdC C) hm, pl2 _ _, pl2 _ _, ?_⟩
      refine ⟨_, _, _, _, rfl, .inl ⟨_, _, rfl, eq2 _ _ _ _⟩, ?_⟩
      simp only [Bool.not_true, Bool.false_eq_true, if_false]
      exact ⟨_, _, _, _, _, _, _, _, rfl⟩
    · rintro ρ h
      exact h
  rintro ρ ⟨c3, c4, c5, c8, c9, c10, c11, c12, rfl⟩
  refine ⟨fun ρ => ∃ (c3 c8 c9 c10 c11 c12 : Cell), ρ = [.sh (.scr xs), .sh (.deck), .sh (.lst (ps.map tl)), c3, .sh (L p.1), .sh (L p.2), .sh (.lst (ps.map (mdC C))), .sh (.int (k : Nat)), c8, c9, c10, c11, c12], ?_, ?_⟩
  · simp only [seqD, setD, ownD, conD, varD, varB, binD, iopD, subD, fdivD, modD, powD, ltD, leD, gtD, geD, addD, mulD, catD, repD, eqD, neD, isND, notND, consA, nilA, lstD, tupD, callB, callD, lenD, toIntD, toListD, toTupD, ixD, slD, slL, slT, noO, someO, revD, tstD, truD, andT, orT, notT, andV, orV, notV, ifeD, negD, chnD, retD, retN, ifD, nextD, shareD, dropD, augD, appD, extD, stiD, gN, gsNil, gsCons, gT, gLD, asgD, breakD, contD, fldD, prpD, mthD, makD, sfdD, insOf, oopD, oeqD, aeqD, lrgD, lcPopD, isBD, notBD, ogtD, rseD, isiD, tryV, dropX, ogtX, callX, setX, retX, yesT, max2D, min2D, zipD, enumD, overD, rng1D, rng2D, sumD, allD, anyD, lcD_eq, startD, startI, wipeD, List.map_cons, List.map_nil, List.length_cons, List.length_nil, List.replicate_succ, List.replicate_zero, List.cons_append, List.nil_append, List.set_cons_succ, List.set_cons_zero, List.getElem?_cons_zero, List.getElem?_cons_succ, Nat.reduceAdd, Nat.reduceSub, Nat.reduceLT, Option.some.injEq, true_and, and_true, Int.zero_add, List.length_map, at_h, at_t, exists_eq_left']
    refine ⟨_, ix_map tl hk, ?_⟩
    simp only [seqD, setD, ownD, conD, varD, varB, binD, iopD, subD, fdivD, modD, powD, ltD, leD, gtD, geD, addD, mulD, catD, repD, eqD, neD, isND, notND, consA, nilA, lstD, tupD, callB, callD, lenD, toIntD, toListD, toTupD, ixD, slD, slL, slT, noO, someO, revD, tstD, truD, andT, orT, notT, andV, orV, notV, ifeD, negD, chnD, retD, retN, ifD, nextD, shareD, dropD, augD, appD, extD, stiD, gN, gsNil, gsCons, gT, gLD, asgD, breakD, contD, fldD, prpD, mthD, makD, sfdD, insOf, oopD, oeqD, aeqD, lrgD, lcPopD, isBD, notBD, ogtD, rseD, isiD, tryV, dropX, ogtX, callX, setX, retX, yesT, max2D, min2D, zipD, enumD, overD, rng1D, rng2D, sumD, allD, anyD, lcD_eq, startD, startI, wipeD, List.map_cons, List.map_nil, List.length_cons, List.length_nil, List.replicate_succ, List.replicate_zero, List.cons_append, List.nil_append, List.set_cons_succ, List.set_cons_zero, List.getElem?_cons_zero, List.getElem?_cons_succ, Nat.reduceAdd, Nat.reduceSub, Nat.reduceLT, Option.some.injEq, true_and, and_true, Int.zero_add, List.length_map, at_h, at_t, exists_eq_left', tl]
    exact ⟨_, _, _, _, _, _, rfl⟩
  rintro ρ ⟨c3, c8, c9, c10, c11, c12, rfl⟩
  obtain ⟨h1, h2, h3, h4⟩ := ok
  have m2 : (10 + 1) * ((trimM p.2).length + 1) ≤ 11 * 41 := Nat.mul_le_mul_left _ (by have := trimM_len p.2; omega)
  refine ⟨fun ρ => ∃ (c11 : Cell), ρ = [.sh (.scr xs), .sh (.deck), .sh (.lst (ps.map tl)), c3, .sh (L p.1), .sh (L p.2), .sh (.lst (ps.map (mdC C))), .sh (.int (k : Nat)), c8, c9, c10, c11, c12], ?_, ?_⟩
  · simp only [seqD, setD, ownD, conD, varD, varB, binD, iopD, subD, fdivD, modD, powD, ltD, leD, gtD, geD, addD, mulD, catD, repD, eqD, neD, isND, notND, consA, nilA, lstD, tupD, callB, callD, lenD, toIntD, toListD, toTupD, ixD, slD, slL, slT, noO, someO, revD, tstD, truD, andT, orT, notT, andV, orV, notV, ifeD, negD, chnD, retD, retN, ifD, nextD, shareD, dropD, augD, appD, extD, stiD, gN, gsNil, gsCons, gT, gLD, asgD, breakD, contD, fldD, prpD, mthD, makD, sfdD, insOf, oopD, oeqD, aeqD, lrgD, lcPopD, isBD, notBD, ogtD, rseD, isiD, tryV, dropX, ogtX, callX, setX, retX, yesT, max2D, min2D, zipD, enumD, overD, rng1D, rng2D, sumD, allD, anyD, lcD_eq, startD, startI, wipeD, List.map_cons, List.map_nil, List.length_cons, List.length_nil, List.replicate_succ, List.replicate_zero, List.cons_append, List.nil_append, List.set_cons_succ, List.set_cons_zero, List.getElem?_cons_zero, List.getElem?_cons_succ, Nat.reduceAdd, Nat.reduceSub, Nat.reduceLT, Option.some.injEq, true_and, and_true, Int.zero_add, List.length_map, at_h, at_t, exists_eq_left']
    refine ⟨_, ix_map (mdC C) hk, rfl, ?_⟩
    refine ⟨_, _, 0, rfl, fun z => absurd z (by decide), fun _ => ⟨2000 + 600 * 4, 10, trimM_bd h4, by decide, by omega, by omega, by omega, ?_⟩⟩
    simp only [seqD, setD, ownD, conD, varD, varB, binD, iopD, subD, fdivD, modD, powD, ltD, leD, gtD, geD, addD, mulD, catD, repD, eqD, neD, isND, notND, consA, nilA, lstD, tupD, callB, callD, lenD, toIntD, toListD, toTupD, ixD, slD, slL, slT, noO, someO, revD, tstD, truD, andT, orT, notT, andV, orV, notV, ifeD, negD, chnD, retD, retN, ifD, nextD, shareD, dropD, augD, appD, extD, stiD, gN, gsNil, gsCons, gT, gLD, asgD, breakD, contD, fldD, prpD, mthD, makD, sfdD, insOf, oopD, oeqD, aeqD, lrgD, lcPopD, isBD, notBD, ogtD, rseD, isiD, tryV, dropX, ogtX, callX, setX, retX, yesT, max2D, min2D, zipD, enumD, overD, rng1D, rng2D, sumD, allD, anyD, lcD_eq, startD, startI, wipeD, List.map_cons, List.map_nil, List.length_cons, List.length_nil, List.replicate_succ, List.replicate_zero, List.cons_append, List.nil_append, List.set_cons_succ, List.set_cons_zero, List.getElem?_cons_zero, List.getElem?_cons_succ, Nat.reduceAdd, Nat.reduceSub, Nat.reduceLT, Option.some.injEq, true_and, and_true, Int.zero_add, List.length_map, at_h, at_t, exists_eq_left']
    refine ⟨szL (by decide), szL (by decide), _, ix_map (mdC C) hk, rfl, _, _, rfl, szL (by decide), ?_⟩
    refine ⟨fun i ρ => ∃ (c11 : Cell), ρ = [.sh (.scr xs), .sh (.deck), .sh (.lst (ps.map tl)), c3, .sh (L p.1), .sh (L p.2), .sh (.lst (ps.map (mdC C))), .sh (.int (k : Nat)), c8, c9, c10, c11, c12], ⟨_, rfl⟩, ?_, fun ρ h => h⟩
    rintro i d ρ hd ⟨c11, rfl⟩
    have pd : plainOf K C d := by
      have hm := List.mem_of_getElem? hd
      simp only [List.mem_cons, List.not_mem_nil, or_false] at hm
      rcases hm with rfl | rfl | rfl | rfl | rfl | rfl | rfl | rfl | rfl
      · exact ⟨trivial, "NoneType", rfl, rfl, T_pl _ (by decide)⟩
      · exact ⟨trivial, "int", rfl, rfl, T_pl _ (by decide)⟩
      · exact ⟨trivial, "int", rfl, rfl, T_pl _ (by decide)⟩
      · exact ⟨trivial, "str", rfl, rfl, T_pl _ (by decide)⟩
      · exact ⟨trivial, "list", rfl, rfl, T_pl _ (by decide)⟩
      · exact ⟨trivial, "list", rfl, rfl, T_pl _ (by decide)⟩
      · exact ⟨trivial, "list", rfl, rfl, T_pl _ (by decide)⟩
      · exact ⟨trivial, "tuple", rfl, rfl, T_pl _ (by decide)⟩
      · exact ⟨trivial, "list", rfl, rfl, T_pl _ (by decide)⟩
    simp only [seqD, setD, ownD, conD, varD, varB, binD, iopD, subD, fdivD, modD, powD, ltD, leD, gtD, geD, addD, mulD, catD, repD, eqD, neD, isND, notND, consA, nilA, lstD, tupD, callB, callD, lenD, toIntD, toListD, toTupD, ixD, slD, slL, slT, noO, someO, revD, tstD, truD, andT, orT, notT, andV, orV, notV, ifeD, negD, chnD, retD, retN, ifD, nextD, shareD, dropD, augD, appD, extD, stiD, gN, gsNil, gsCons, gT, gLD, asgD, breakD, contD, fldD, prpD, mthD, makD, sfdD, insOf, oopD, oeqD, aeqD, lrgD, lcPopD, isBD, notBD, ogtD, rseD, isiD, tryV, dropX, ogtX, callX, setX, retX, yesT, max2D, min2D, zipD, enumD, overD, rng1D, rng2D, sumD, allD, anyD, lcD_eq, startD, startI, wipeD, List.map_cons, List.map_nil, List.length_cons, List.length_nil, List.replicate_succ, List.replicate_zero, List.cons_append, List.nil_append, List.set_cons_succ, List.set_cons_zero, List.getElem?_cons_zero, List.getElem?_cons_succ, Nat.reduceAdd, Nat.reduceSub, Nat.reduceLT, Option.some.injEq, true_and, and_true, Int.zero_add, List.length_map, at_h, at_t, exists_eq_left']
    refine ⟨_, ix_map (mdC C) hk, _, _, d, false, rfl, .inr ⟨pd, rfl⟩, ?_⟩
    simp only [Bool.not_true, Bool.false_eq_true, if_false]
    exact ⟨_, rfl⟩
  rintro ρ ⟨c11, rfl⟩
  refine ⟨fun ρ => ∃ (a : Addr) (l : List Int), ρ = [.sh (.scr xs), .sh (.deck), .sh (.lst (ps.map tl)), c3, .sh (L p.1), .sh (L p.2), .sh (.lst (ps.map (mdC C))), .sh (.int (k : Nat)), c8, c9, c10, c11, .ow a (L l)] ∧ l.length ≤ 40, ?_, ?_⟩
  · simp only [seqD, setD, ownD, conD, varD, varB, binD, iopD, subD, fdivD, modD, powD, ltD, leD, gtD, geD, addD, mulD, catD, repD, eqD, neD, isND, notND, consA, nilA, lstD, tupD, callB, callD, lenD, toIntD, toListD, toTupD, ixD, slD, slL, slT, noO, someO, revD, tstD, truD, andT, orT, notT, andV, orV, notV, ifeD, negD, chnD, retD, retN, ifD, nextD, shareD, dropD, augD, appD, extD, stiD, gN, gsNil, gsCons, gT, gLD, asgD, breakD, contD, fldD, prpD, mthD, makD, sfdD, insOf, oopD, oeqD, aeqD, lrgD, lcPopD, isBD, notBD, ogtD, rseD, isiD, tryV, dropX, ogtX, callX, setX, retX, yesT, max2D, min2D, zipD, enumD, overD, rng1D, rng2D, sumD, allD, anyD, lcD_eq, startD, startI, wipeD, List.map_cons, List.map_nil, List.length_cons, List.length_nil, List.replicate_succ, List.replicate_zero, List.cons_append, List.nil_append, List.set_cons_succ, List.set_cons_zero, List.getElem?_cons_zero, List.getElem?_cons_succ, Nat.reduceAdd, Nat.reduceSub, Nat.reduceLT, Option.some.injEq, true_and, and_true, Int.zero_add, List.length_map, at_h, at_t, exists_eq_left']
    refine ⟨_, ix_map (mdC C) hk, rfl, _, _, rfl, fun a => ⟨a, _, rfl, ?_⟩⟩
    have := needM_len p.1 (trimM p.2)
    omega
  rintro ρ ⟨a, l, rfl, hl⟩
  refine ⟨fun ρ => ∃ (c12 : Cell), ρ = [.sh (.scr xs), .sh (.deck), .sh (.lst (ps.map tl)), c3, .sh (L p.1), .sh (L p.2), .sh (.lst (ps.map (mdC C))), .sh (.int (k : Nat)), c8, c9, c10, c11, c12], ?_, ?_⟩
  · simp only [seqD, setD, ownD, conD, varD, varB, binD, iopD, subD, fdivD, modD, powD, ltD, leD, gtD, geD, addD, mulD, catD, repD, eqD, neD, isND, notND, consA, nilA, lstD, tupD, callB, callD, lenD, toIntD, toListD, toTupD, ixD, slD, slL, slT, noO, someO, revD, tstD, truD, andT, orT, notT, andV, orV, notV, ifeD, negD, chnD, retD, retN, ifD, nextD, shareD, dropD, augD, appD, extD, stiD, gN, gsNil, gsCons, gT, gLD, asgD, breakD, contD, fldD, prpD, mthD, makD, sfdD, insOf, oopD, oeqD, aeqD, lrgD, lcPopD, isBD, notBD, ogtD, rseD, isiD, tryV, dropX, ogtX, callX, setX, retX, yesT, max2D, min2D, zipD, enumD, overD, rng1D, rng2D, sumD, allD, anyD, lcD_eq, startD, startI, wipeD, List.map_cons, List.map_nil, List.length_cons, List.length_nil, List.replicate_succ, List.replicate_zero, List.cons_append, List.nil_append, List.set_cons_succ, List.set_cons_zero, List.getElem?_cons_zero, List.getElem?_cons_succ, Nat.reduceAdd, Nat.reduceSub, Nat.reduceLT, Option.some.injEq, true_and, and_true, Int.zero_add, List.length_map, at_h, at_t, exists_eq_left']
    exact ⟨szT (by omega), _, rfl⟩
  rintro ρ ⟨c12, rfl⟩
  refine ⟨fun ρ => ∃ (a : Addr) (l : List Int), ρ = [.sh (.scr xs), .sh (.deck), .sh (.lst (ps.map tl)), c3, .sh (L p.1), .sh (L p.2), .sh (.lst (ps.map (mdC C))), .sh (.int (k : Nat)), c8, c9, c10, c11, .ow a (L l)] ∧ l.length ≤ 40, ?_, ?_⟩
  · simp only [seqD, setD, ownD, conD, varD, varB, binD, iopD, subD, fdivD, modD, powD, ltD, leD, gtD, geD, addD, mulD, catD, repD, eqD, neD, isND, notND, consA, nilA, lstD, tupD, callB, callD, lenD, toIntD, toListD, toTupD, ixD, slD, slL, slT, noO, someO, revD, tstD, truD, andT, orT, notT, andV, orV, notV, ifeD, negD, chnD, retD, retN, ifD, nextD, shareD, dropD, augD, appD, extD, stiD, gN, gsNil, gsCons, gT, gLD, asgD, breakD, contD, fldD, prpD, mthD, makD, sfdD, insOf, oopD, oeqD, aeqD, lrgD, lcPopD, isBD, notBD, ogtD, rseD, isiD, tryV, dropX, ogtX, callX, setX, retX, yesT, max2D, min2D, zipD, enumD, overD, rng1D, rng2D, sumD, allD, anyD, lcD_eq, startD, startI, wipeD, List.map_cons, List.map_nil, List.length_cons, List.length_nil, List.replicate_succ, List.replicate_zero, List.cons_append, List.nil_append, List.set_cons_succ, List.set_cons_zero, List.getElem?_cons_zero, List.getElem?_cons_succ, Nat.reduceAdd, Nat.reduceSub, Nat.reduceLT, Option.some.injEq, true_and, and_true, Int.zero_add, List.length_map, at_h, at_t, exists_eq_left']
    refine ⟨_, ix_map (mdC C) hk, rfl, _, _, rfl, fun a => ⟨a, _, rfl, ?_⟩⟩
    have := trimM_len p.2
    omega
  rintro ρ ⟨a, l, rfl, hl⟩
  simp only [seqD, setD, ownD, conD, varD, varB, binD, iopD, subD, fdivD, modD, powD, ltD, leD, gtD, geD, addD, mulD, catD, repD, eqD, neD, isND, notND, consA, nilA, lstD, tupD, callB, callD, lenD, toIntD, toListD, toTupD, ixD, slD, slL, slT, noO, someO, revD, tstD, truD, andT, orT, notT, andV, orV, notV, ifeD, negD, chnD, retD, retN, ifD, nextD, shareD, dropD, augD, appD, extD, stiD, gN, gsNil, gsCons, gT, gLD, asgD, breakD, contD, fldD, prpD, mthD, makD, sfdD, insOf, oopD, oeqD, aeqD, lrgD, lcPopD, isBD, notBD, ogtD, rseD, isiD, tryV, dropX, ogtX, callX, setX, retX, yesT, max2D, min2D, zipD, enumD, overD, rng1D, rng2D, sumD, allD, anyD, lcD_eq, startD, startI, wipeD, List.map_cons, List.map_nil, List.length_cons, List.length_nil, List.replicate_succ, List.replicate_zero, List.cons_append, List.nil_append, List.set_cons_succ, List.set_cons_zero, List.getElem?_cons_zero, List.getElem?_cons_succ, Nat.reduceAdd, Nat.reduceSub, Nat.reduceLT, Option.some.injEq, true_and, and_true, Int.zero_add, List.length_map, at_h, at_t, exists_eq_left']
  exact ⟨szT (by omega), _, _, _, _, _, _, _, _, _, rfl⟩
end
end KP

set_option Elab.async false
set_option linter.all false
set_option autoImplicit false
set_option maxRecDepth 100000
set_option maxHeartbeats 8000000
namespace KP
open PySem PySem.Spec PyProof.Rows L2 DL
theorem sc_PlanError_XinitX : FnScope ["self", "value"] ["self", "value"] (defScope s_PlanError_XinitX) := ⟨rfl, rfl, rfl, by decide +kernel, rfl, by decide +kernel, by decide +kernel⟩
theorem exm_self {K : PySem.W.Frag} {S : Addr} (h1 : PySem.W.subIn K (.ref S) (.type "BaseException") = some true) (h2 : PySem.W.isClsIn K S = true) (h3 : PySem.W.typeIn K (.ref S) = some (.type "type")) (h4 : PySem.W.subIn K (.ref S) (.ref S) = some true) :
    PySem.W.exmOne K (.ref S) (.ref S) = some true := by
  have e1 : (PySem.W.subIn K (.ref S) (.type "BaseException") == some true) = true := by rw [h1] <;> rfl
  have e2 : ((PySem.W.clsIn K S).isSome && PySem.W.typeIn K (.ref S) == some (.type "type")) = true := by
    have h2' : (PySem.W.clsIn K S).isSome = true := h2
    rw [h2', h3] <;> rfl
  show (if (PySem.W.subIn K (.ref S) (.type "BaseException") == some true) = true then (if ((PySem.W.clsIn K S).isSome && PySem.W.typeIn K (.ref S) == some (.type "type")) = true then PySem.W.subIn K (.ref S) (.ref S) else none) else none) = some true
  rw [if_pos e1, if_pos e2]
  exact h4

theorem all_mk {P : Program} {w : World} {K : PySem.W.Frag} {h : Heap} {mg : Str → Option Value} {fa : Addr} (X : K.In h) (G : h.Ns mainGlobals mg) (hfa : mg "law" = some (.ref fa))
    {fI : Addr}
    {oc_eI kV_eI dc_eI pm_eI cd_eI ct_eI : Value} {od_eI an_eI : Option Addr} {sl_eI : Array (Option Value)}
    {cInvalidNumber : Addr} {nm_InvalidNumber q_InvalidNumber : Str} {N_InvalidNumber : Addr} {bs_InvalidNumber bm_InvalidNumber : List Value} {sn_InvalidNumber : List Str} {sub_InvalidNumber : List Value} {ab_InvalidNumber : Bool} {col_InvalidNumber : Option Bool} {dd_InvalidNumber : Option Addr} {k0_InvalidNumber k1_InvalidNumber k2_InvalidNumber k3_InvalidNumber k5_InvalidNumber : Option Value}
    {cC : Addr}
    {f_choose : Addr}
    {oc_choose kV_choose dc_choose pm_choose cd_choose ct_choose : Value} {od_choose an_choose : Option Addr} {sl_choose : Array (Option Value)}
    {f_value_at : Addr}
    {oc_value_at kV_value_at dc_value_at pm_value_at cd_value_at ct_value_at : Value} {od_value_at an_value_at : Option Addr} {sl_value_at : Array (Option Value)}
    {f_trimmed : Addr}
    {oc_trimmed kV_trimmed dc_trimmed pm_trimmed cd_trimmed ct_trimmed : Value} {od_trimmed an_trimmed : Option Addr} {sl_trimmed : Array (Option Value)}
    {f_number_at : Addr}
    {oc_number_at kV_number_at dc_number_at pm_number_at cd_number_at ct_number_at : Value} {od_number_at an_number_at : Option Addr} {sl_number_at : Array (Option Value)}
    {f_needed : Addr}
    {oc_needed kV_needed dc_needed pm_needed cd_needed ct_needed : Value} {od_needed an_needed : Option Addr} {sl_needed : Array (Option Value)}
    {f_Counted_XinitX : Addr}
    {oc_Counted_XinitX kV_Counted_XinitX dc_Counted_XinitX pm_Counted_XinitX cd_Counted_XinitX ct_Counted_XinitX : Value} {od_Counted_XinitX an_Counted_XinitX : Option Addr} {sl_Counted_XinitX : Array (Option Value)}
    {f_Counted_begin : Addr}
    {p_Counted_begin : Addr} {rs_Counted_begin : List Value}
    {oc_Counted_begin kV_Counted_begin dc_Counted_begin pm_Counted_begin cd_Counted_begin ct_Counted_begin : Value} {od_Counted_begin an_Counted_begin : Option Addr} {sl_Counted_begin : Array (Option Value)}
    {f_Counted_firsts : Addr}
    {p_Counted_firsts : Addr} {rs_Counted_firsts : List Value}
    {oc_Counted_firsts kV_Counted_firsts dc_Counted_firsts pm_Counted_firsts cd_Counted_firsts ct_Counted_firsts : Value} {od_Counted_firsts an_Counted_firsts : Option Addr} {sl_Counted_firsts : Array (Option Value)}
    {f_Counted_poly : Addr}
    {p_Counted_poly : Addr} {rs_Counted_poly : List Value}
    {oc_Counted_poly kV_Counted_poly dc_Counted_poly pm_Counted_poly cd_Counted_poly ct_Counted_poly : Value} {od_Counted_poly an_Counted_poly : Option Addr} {sl_Counted_poly : Array (Option Value)}
    {f_Counted_XgetitemX : Addr}
    {oc_Counted_XgetitemX kV_Counted_XgetitemX dc_Counted_XgetitemX pm_Counted_XgetitemX cd_Counted_XgetitemX ct_Counted_XgetitemX : Value} {od_Counted_XgetitemX an_Counted_XgetitemX : Option Addr} {sl_Counted_XgetitemX : Array (Option Value)}
    {f_Counted_XeqX : Addr}
    {oc_Counted_XeqX kV_Counted_XeqX dc_Counted_XeqX pm_Counted_XeqX cd_Counted_XeqX ct_Counted_XeqX : Value} {od_Counted_XeqX an_Counted_XeqX : Option Addr} {sl_Counted_XeqX : Array (Option Value)}
    {f__law_deck : Addr}
    {oc__law_deck kV__law_deck dc__law_deck pm__law_deck cd__law_deck ct__law_deck : Value} {od__law_deck an__law_deck : Option Addr} {sl__law_deck : Array (Option Value)}
    {f__law_draw : Addr}
    {oc__law_draw kV__law_draw dc__law_draw pm__law_draw cd__law_draw ct__law_draw : Value} {od__law_draw an__law_draw : Option Addr} {sl__law_draw : Array (Option Value)}
    {f__law_great : Addr}
    {oc__law_great kV__law_great dc__law_great pm__law_great cd__law_great ct__law_great : Value} {od__law_great an__law_great : Option Addr} {sl__law_great : Array (Option Value)}
    {f__law_list : Addr}
    {oc__law_list kV__law_list dc__law_list pm__law_list cd__law_list ct__law_list : Value} {od__law_list an__law_list : Option Addr} {sl__law_list : Array (Option Value)}
    {f__law_value : Addr}
    {oc__law_value kV__law_value dc__law_value pm__law_value cd__law_value ct__law_value : Value} {od__law_value an__law_value : Option Addr} {sl__law_value : Array (Option Value)}
    {f__law_lists : Addr}
    {oc__law_lists kV__law_lists dc__law_lists pm__law_lists cd__law_lists ct__law_lists : Value} {od__law_lists an__law_lists : Option Addr} {sl__law_lists : Array (Option Value)}
    {f__law_order : Addr}
    {oc__law_order kV__law_order dc__law_order pm__law_order cd__law_order ct__law_order : Value} {od__law_order an__law_order : Option Addr} {sl__law_order : Array (Option Value)}
    {f__law_needed : Addr}
    {oc__law_needed kV__law_needed dc__law_needed pm__law_needed cd__law_needed ct__law_needed : Value} {od__law_needed an__law_needed : Option Addr} {sl__law_needed : Array (Option Value)}
    {f__law_trimmed : Addr}
    {oc__law_trimmed kV__law_trimmed dc__law_trimmed pm__law_trimmed cd__law_trimmed ct__law_trimmed : Value} {od__law_trimmed an__law_trimmed : Option Addr} {sl__law_trimmed : Array (Option Value)}
    {f__law_changed : Addr}
    {oc__law_changed kV__law_changed dc__law_changed pm__law_changed cd__law_changed ct__law_changed : Value} {od__law_changed an__law_changed : Option Addr} {sl__law_changed : Array (Option Value)}
    {f__law_compared : Addr}
    {oc__law_compared kV__law_compared dc__law_compared pm__law_compared cd__law_compared ct__law_compared : Value} {od__law_compared an__law_compared : Option Addr} {sl__law_compared : Array (Option Value)}
    {f_law : Addr}
    {oc_law kV_law dc_law pm_law cd_law ct_law : Value} {od_law an_law : Option Addr} {sl_law : Array (Option Value)}
    (z_len : PySem.W.nsIn K mainGlobals "len" = some none)
    (z_sum : PySem.W.nsIn K mainGlobals "sum" = some none)
    (z_all : PySem.W.nsIn K mainGlobals "all" = some none)
    (z_any : PySem.W.nsIn K mainGlobals "any" = some none)
    (z_max : PySem.W.nsIn K mainGlobals "max" = some none)
    (z_min : PySem.W.nsIn K mainGlobals "min" = some none)
    (z_int : PySem.W.nsIn K mainGlobals "int" = some none)
    (z_list : PySem.W.nsIn K mainGlobals "list" = some none)
    (z_tuple : PySem.W.nsIn K mainGlobals "tuple" = some none)
    (z_bool : PySem.W.nsIn K mainGlobals "bool" = some none)
    (z_str : PySem.W.nsIn K mainGlobals "str" = some none)
    (z_range : PySem.W.nsIn K mainGlobals "range" = some none)
    (z_zip : PySem.W.nsIn K mainGlobals "zip" = some none)
    (z_enumerate : PySem.W.nsIn K mainGlobals "enumerate" = some none)
    (z_isinstance : PySem.W.nsIn K mainGlobals "isinstance" = some none)
    (z_sorted : PySem.W.nsIn K mainGlobals "sorted" = some none)
    (a_InvalidNumber : PySem.W.nsIn K mainGlobals "InvalidNumber" = some (some (.ref cInvalidNumber)))
    (x_InvalidNumber : K.lookup cInvalidNumber = some (excClassObj nm_InvalidNumber q_InvalidNumber cInvalidNumber N_InvalidNumber bs_InvalidNumber bm_InvalidNumber true sn_InvalidNumber sub_InvalidNumber ab_InvalidNumber col_InvalidNumber dd_InvalidNumber k0_InvalidNumber k1_InvalidNumber k2_InvalidNumber k3_InvalidNumber k5_InvalidNumber "ValueError.__new__"))
    (v_InvalidNumber : PySem.HandSPX.refsVE bm_InvalidNumber = true)
    (sa_InvalidNumber : PySem.W.findIn K (.ref cInvalidNumber) "__setattr__" = some (some (.builtin "object.__setattr__")))
    (ex_InvalidNumber : PySem.W.subIn K (.ref cInvalidNumber) (.type "BaseException") = some true)
    (ty_InvalidNumber : PySem.W.typeIn K (.ref cInvalidNumber) = some (.type "type"))
    (kc_InvalidNumber : PySem.W.keepIn K (.ref cInvalidNumber) = true)
    (nv_InvalidNumber : PySem.W.findIn K (.ref cInvalidNumber) "value" = some none)
    (in_InvalidNumber : PySem.W.findIn K (.ref cInvalidNumber) "__init__" = some (some (.ref fI)))
    (ga_InvalidNumber : PySem.W.findIn K (.ref cInvalidNumber) "__getattribute__" = some (some (.builtin "BaseException.__getattribute__")))
    (gg_InvalidNumber : PySem.W.findIn K (.ref cInvalidNumber) "__getattr__" = some none)
    (hd_InvalidNumber : PySem.W.hasDictIn K cInvalidNumber = true)
    (ic_InvalidNumber : PySem.W.isClsIn K cInvalidNumber = true)
    (sc_InvalidNumber : PySem.W.subIn K (.ref cInvalidNumber) (.ref cInvalidNumber) = some true)
    (l_eI : K.lookup fI = some ⟨oc_eI, od_eI, .func (PySem.W.fnOf "__init__" "PlanError.__init__" (defArgs s_PlanError_XinitX) (defBody s_PlanError_XinitX) (defScope s_PlanError_XinitX) .none kV_eI dc_eI pm_eI an_eI cd_eI ct_eI), sl_eI⟩)
    (c_eI : PySem.W.codeIn K cd_eI "PlanError.__init__" = true)
    (k_eI : PySem.W.keepIn K (.ref fI) = true)
    (t_eI : PySem.W.typeIn K (.ref fI) = some (.type "function"))
    (a_Counted : PySem.W.nsIn K mainGlobals "Counted" = some (some (.ref cC)))
    (pg_Counted : PySem.W.plainGet K cC Str.empty = true)
    (hd_Counted : PySem.W.hasDictIn K cC = true)
    (po_Counted : PySem.W.plainOver K cC = true)
    (sa_Counted : PySem.W.findIn K (.ref cC) "__setattr__" = some (some (.builtin "object.__setattr__")))
    (mk_Counted : PySem.W.makesIn K cC = true)
    (kc_Counted : PySem.W.keepIn K (.ref cC) = true)
    (ha_Counted : PySem.W.findIn K (.ref cC) "__class__" = some (some (.builtin "object.__class__")))
    (hn_Counted : PySem.W.specialIn K (.builtin "object.__class__") "__get__" = some (some (.builtin "getset_descriptor.__get__")))
    (ht_Counted : PySem.W.takesIn K (.builtin "object.__class__") = some true)
    (hm_Counted : PySem.W.mroIn K cC (.type "object") = some true)
    (n_Counted_head : PySem.W.findIn K (.ref cC) "head" = some none)
    (n_Counted_tail : PySem.W.findIn K (.ref cC) "tail" = some none)
    (su_NoneType : PySem.W.subIn K (.ref cC) (.type "NoneType") = some false)
    (nf_NoneType : PySem.W.notFirst K cC (.type "NoneType") = true)
    (kb_NoneType : PySem.W.subIn K (.type "NoneType") (.ref cC) = some false)
    (su_int : PySem.W.subIn K (.ref cC) (.type "int") = some false)
    (nf_int : PySem.W.notFirst K cC (.type "int") = true)
    (kb_int : PySem.W.subIn K (.type "int") (.ref cC) = some false)
    (su_str : PySem.W.subIn K (.ref cC) (.type "str") = some false)
    (nf_str : PySem.W.notFirst K cC (.type "str") = true)
    (kb_str : PySem.W.subIn K (.type "str") (.ref cC) = some false)
    (su_list : PySem.W.subIn K (.ref cC) (.type "list") = some false)
    (nf_list : PySem.W.notFirst K cC (.type "list") = true)
    (kb_list : PySem.W.subIn K (.type "list") (.ref cC) = some false)
    (su_tuple : PySem.W.subIn K (.ref cC) (.type "tuple") = some false)
    (nf_tuple : PySem.W.notFirst K cC (.type "tuple") = true)
    (kb_tuple : PySem.W.subIn K (.type "tuple") (.ref cC) = some false)
    (ic_Counted : PySem.W.isClsIn K cC = true)
    (ty_Counted : PySem.W.typeIn K (.ref cC) = some (.type "type"))
    (ne_Counted : PySem.W.findIn K (.ref cC) "__ne__" = some (some (.builtin "object.__ne__")))
    (a_choose : PySem.W.nsIn K mainGlobals "choose" = some (some (.ref f_choose)))
    (l_choose : K.lookup f_choose = some ⟨oc_choose, od_choose, .func (PySem.W.fnOf "choose" "choose" (defArgs s_choose) (defBody s_choose) (defScope s_choose) .none kV_choose dc_choose pm_choose an_choose cd_choose ct_choose), sl_choose⟩)
    (c_choose : PySem.W.codeIn K cd_choose "choose" = true)
    (k_choose : PySem.W.keepIn K (.ref f_choose) = true)
    (a_value_at : PySem.W.nsIn K mainGlobals "value_at" = some (some (.ref f_value_at)))
    (l_value_at : K.lookup f_value_at = some ⟨oc_value_at, od_value_at, .func (PySem.W.fnOf "value_at" "value_at" (defArgs s_value_at) (defBody s_value_at) (defScope s_value_at) .none kV_value_at dc_value_at pm_value_at an_value_at cd_value_at ct_value_at), sl_value_at⟩)
    (c_value_at : PySem.W.codeIn K cd_value_at "value_at" = true)
    (k_value_at : PySem.W.keepIn K (.ref f_value_at) = true)
    (a_trimmed : PySem.W.nsIn K mainGlobals "trimmed" = some (some (.ref f_trimmed)))
    (l_trimmed : K.lookup f_trimmed = some ⟨oc_trimmed, od_trimmed, .func (PySem.W.fnOf "trimmed" "trimmed" (defArgs s_trimmed) (defBody s_trimmed) (defScope s_trimmed) .none kV_trimmed dc_trimmed pm_trimmed an_trimmed cd_trimmed ct_trimmed), sl_trimmed⟩)
    (c_trimmed : PySem.W.codeIn K cd_trimmed "trimmed" = true)
    (k_trimmed : PySem.W.keepIn K (.ref f_trimmed) = true)
    (a_number_at : PySem.W.nsIn K mainGlobals "number_at" = some (some (.ref f_number_at)))
    (l_number_at : K.lookup f_number_at = some ⟨oc_number_at, od_number_at, .func (PySem.W.fnOf "number_at" "number_at" (defArgs s_number_at) (defBody s_number_at) (defScope s_number_at) .none kV_number_at dc_number_at pm_number_at an_number_at cd_number_at ct_number_at), sl_number_at⟩)
    (c_number_at : PySem.W.codeIn K cd_number_at "number_at" = true)
    (k_number_at : PySem.W.keepIn K (.ref f_number_at) = true)
    (a_needed : PySem.W.nsIn K mainGlobals "needed" = some (some (.ref f_needed)))
    (l_needed : K.lookup f_needed = some ⟨oc_needed, od_needed, .func (PySem.W.fnOf "needed" "needed" (defArgs s_needed) (defBody s_needed) (defScope s_needed) .none kV_needed dc_needed pm_needed an_needed cd_needed ct_needed), sl_needed⟩)
    (c_needed : PySem.W.codeIn K cd_needed "needed" = true)
    (k_needed : PySem.W.keepIn K (.ref f_needed) = true)
    (a_Counted_XinitX : PySem.W.findIn K (.ref cC) "__init__" = some (some (.ref f_Counted_XinitX)))
    (i_Counted_XinitX : PySem.W.isFn K (.ref f_Counted_XinitX) = true)
    (l_Counted_XinitX : K.lookup f_Counted_XinitX = some ⟨oc_Counted_XinitX, od_Counted_XinitX, .func (PySem.W.fnOf "__init__" "Counted.__init__" (defArgs s_Counted_XinitX) (defBody s_Counted_XinitX) (defScope s_Counted_XinitX) .none kV_Counted_XinitX dc_Counted_XinitX pm_Counted_XinitX an_Counted_XinitX cd_Counted_XinitX ct_Counted_XinitX), sl_Counted_XinitX⟩)
    (c_Counted_XinitX : PySem.W.codeIn K cd_Counted_XinitX "Counted.__init__" = true)
    (k_Counted_XinitX : PySem.W.keepIn K (.ref f_Counted_XinitX) = true)
    (a_Counted_begin : PySem.W.findIn K (.ref cC) "begin" = some (some (.ref p_Counted_begin)))
    (g_Counted_begin : PySem.W.specialIn K (.ref p_Counted_begin) "__get__" = some (some (.builtin "property.__get__")))
    (t_Counted_begin : PySem.W.takesIn K (.ref p_Counted_begin) = some true)
    (r_Counted_begin : PySem.W.recIn K p_Counted_begin "property" = some (.ref f_Counted_begin :: rs_Counted_begin))
    (l_Counted_begin : K.lookup f_Counted_begin = some ⟨oc_Counted_begin, od_Counted_begin, .func (PySem.W.fnOf "begin" "Counted.begin" (defArgs s_Counted_begin) (defBody s_Counted_begin) (defScope s_Counted_begin) .none kV_Counted_begin dc_Counted_begin pm_Counted_begin an_Counted_begin cd_Counted_begin ct_Counted_begin), sl_Counted_begin⟩)
    (c_Counted_begin : PySem.W.codeIn K cd_Counted_begin "Counted.begin" = true)
    (k_Counted_begin : PySem.W.keepIn K (.ref f_Counted_begin) = true)
    (a_Counted_firsts : PySem.W.findIn K (.ref cC) "firsts" = some (some (.ref p_Counted_firsts)))
    (g_Counted_firsts : PySem.W.specialIn K (.ref p_Counted_firsts) "__get__" = some (some (.builtin "property.__get__")))
    (t_Counted_firsts : PySem.W.takesIn K (.ref p_Counted_firsts) = some true)
    (r_Counted_firsts : PySem.W.recIn K p_Counted_firsts "property" = some (.ref f_Counted_firsts :: rs_Counted_firsts))
    (l_Counted_firsts : K.lookup f_Counted_firsts = some ⟨oc_Counted_firsts, od_Counted_firsts, .func (PySem.W.fnOf "firsts" "Counted.firsts" (defArgs s_Counted_firsts) (defBody s_Counted_firsts) (defScope s_Counted_firsts) .none kV_Counted_firsts dc_Counted_firsts pm_Counted_firsts an_Counted_firsts cd_Counted_firsts ct_Counted_firsts), sl_Counted_firsts⟩)
    (c_Counted_firsts : PySem.W.codeIn K cd_Counted_firsts "Counted.firsts" = true)
    (k_Counted_firsts : PySem.W.keepIn K (.ref f_Counted_firsts) = true)
    (a_Counted_poly : PySem.W.findIn K (.ref cC) "poly" = some (some (.ref p_Counted_poly)))
    (g_Counted_poly : PySem.W.specialIn K (.ref p_Counted_poly) "__get__" = some (some (.builtin "property.__get__")))
    (t_Counted_poly : PySem.W.takesIn K (.ref p_Counted_poly) = some true)
    (r_Counted_poly : PySem.W.recIn K p_Counted_poly "property" = some (.ref f_Counted_poly :: rs_Counted_poly))
    (l_Counted_poly : K.lookup f_Counted_poly = some ⟨oc_Counted_poly, od_Counted_poly, .func (PySem.W.fnOf "poly" "Counted.poly" (defArgs s_Counted_poly) (defBody s_Counted_poly) (defScope s_Counted_poly) .none kV_Counted_poly dc_Counted_poly pm_Counted_poly an_Counted_poly cd_Counted_poly ct_Counted_poly), sl_Counted_poly⟩)
    (c_Counted_poly : PySem.W.codeIn K cd_Counted_poly "Counted.poly" = true)
    (k_Counted_poly : PySem.W.keepIn K (.ref f_Counted_poly) = true)
    (a_Counted_XgetitemX : PySem.W.findIn K (.ref cC) "__getitem__" = some (some (.ref f_Counted_XgetitemX)))
    (i_Counted_XgetitemX : PySem.W.isFn K (.ref f_Counted_XgetitemX) = true)
    (l_Counted_XgetitemX : K.lookup f_Counted_XgetitemX = some ⟨oc_Counted_XgetitemX, od_Counted_XgetitemX, .func (PySem.W.fnOf "__getitem__" "Counted.__getitem__" (defArgs s_Counted_XgetitemX) (defBody s_Counted_XgetitemX) (defScope s_Counted_XgetitemX) .none kV_Counted_XgetitemX dc_Counted_XgetitemX pm_Counted_XgetitemX an_Counted_XgetitemX cd_Counted_XgetitemX ct_Counted_XgetitemX), sl_Counted_XgetitemX⟩)
    (c_Counted_XgetitemX : PySem.W.codeIn K cd_Counted_XgetitemX "Counted.__getitem__" = true)
    (k_Counted_XgetitemX : PySem.W.keepIn K (.ref f_Counted_XgetitemX) = true)
    (fi_Counted_XgetitemX : PySem.W.fnIn K f_Counted_XgetitemX = true)
    (a_Counted_XeqX : PySem.W.findIn K (.ref cC) "__eq__" = some (some (.ref f_Counted_XeqX)))
    (i_Counted_XeqX : PySem.W.isFn K (.ref f_Counted_XeqX) = true)
    (l_Counted_XeqX : K.lookup f_Counted_XeqX = some ⟨oc_Counted_XeqX, od_Counted_XeqX, .func (PySem.W.fnOf "__eq__" "Counted.__eq__" (defArgs s_Counted_XeqX) (defBody s_Counted_XeqX) (defScope s_Counted_XeqX) .none kV_Counted_XeqX dc_Counted_XeqX pm_Counted_XeqX an_Counted_XeqX cd_Counted_XeqX ct_Counted_XeqX), sl_Counted_XeqX⟩)
    (c_Counted_XeqX : PySem.W.codeIn K cd_Counted_XeqX "Counted.__eq__" = true)
    (k_Counted_XeqX : PySem.W.keepIn K (.ref f_Counted_XeqX) = true)
    (a__law_deck : PySem.W.nsIn K mainGlobals "_law_deck" = some (some (.ref f__law_deck)))
    (l__law_deck : K.lookup f__law_deck = some ⟨oc__law_deck, od__law_deck, .func (PySem.W.fnOf "_law_deck" "_law_deck" (defArgs s__law_deck) (defBody s__law_deck) (defScope s__law_deck) .none kV__law_deck dc__law_deck pm__law_deck an__law_deck cd__law_deck ct__law_deck), sl__law_deck⟩)
    (c__law_deck : PySem.W.codeIn K cd__law_deck "_law_deck" = true)
    (k__law_deck : PySem.W.keepIn K (.ref f__law_deck) = true)
    (a__law_draw : PySem.W.nsIn K mainGlobals "_law_draw" = some (some (.ref f__law_draw)))
    (l__law_draw : K.lookup f__law_draw = some ⟨oc__law_draw, od__law_draw, .func (PySem.W.fnOf "_law_draw" "_law_draw" (defArgs s__law_draw) (defBody s__law_draw) (defScope s__law_draw) .none kV__law_draw dc__law_draw pm__law_draw an__law_draw cd__law_draw ct__law_draw), sl__law_draw⟩)
    (c__law_draw : PySem.W.codeIn K cd__law_draw "_law_draw" = true)
    (k__law_draw : PySem.W.keepIn K (.ref f__law_draw) = true)
    (a__law_great : PySem.W.nsIn K mainGlobals "_law_great" = some (some (.ref f__law_great)))
    (l__law_great : K.lookup f__law_great = some ⟨oc__law_great, od__law_great, .func (PySem.W.fnOf "_law_great" "_law_great" (defArgs s__law_great) (defBody s__law_great) (defScope s__law_great) .none kV__law_great dc__law_great pm__law_great an__law_great cd__law_great ct__law_great), sl__law_great⟩)
    (c__law_great : PySem.W.codeIn K cd__law_great "_law_great" = true)
    (k__law_great : PySem.W.keepIn K (.ref f__law_great) = true)
    (a__law_list : PySem.W.nsIn K mainGlobals "_law_list" = some (some (.ref f__law_list)))
    (l__law_list : K.lookup f__law_list = some ⟨oc__law_list, od__law_list, .func (PySem.W.fnOf "_law_list" "_law_list" (defArgs s__law_list) (defBody s__law_list) (defScope s__law_list) .none kV__law_list dc__law_list pm__law_list an__law_list cd__law_list ct__law_list), sl__law_list⟩)
    (c__law_list : PySem.W.codeIn K cd__law_list "_law_list" = true)
    (k__law_list : PySem.W.keepIn K (.ref f__law_list) = true)
    (a__law_value : PySem.W.nsIn K mainGlobals "_law_value" = some (some (.ref f__law_value)))
    (l__law_value : K.lookup f__law_value = some ⟨oc__law_value, od__law_value, .func (PySem.W.fnOf "_law_value" "_law_value" (defArgs s__law_value) (defBody s__law_value) (defScope s__law_value) .none kV__law_value dc__law_value pm__law_value an__law_value cd__law_value ct__law_value), sl__law_value⟩)
    (c__law_value : PySem.W.codeIn K cd__law_value "_law_value" = true)
    (k__law_value : PySem.W.keepIn K (.ref f__law_value) = true)
    (a__law_lists : PySem.W.nsIn K mainGlobals "_law_lists" = some (some (.ref f__law_lists)))
    (l__law_lists : K.lookup f__law_lists = some ⟨oc__law_lists, od__law_lists, .func (PySem.W.fnOf "_law_lists" "_law_lists" (defArgs s__law_lists) (defBody s__law_lists) (defScope s__law_lists) .none kV__law_lists dc__law_lists pm__law_lists an__law_lists cd__law_lists ct__law_lists), sl__law_lists⟩)
    (c__law_lists : PySem.W.codeIn K cd__law_lists "_law_lists" = true)
    (k__law_lists : PySem.W.keepIn K (.ref f__law_lists) = true)
    (a__law_order : PySem.W.nsIn K mainGlobals "_law_order" = some (some (.ref f__law_order)))
    (l__law_order : K.lookup f__law_order = some ⟨oc__law_order, od__law_order, .func (PySem.W.fnOf "_law_order" "_law_order" (defArgs s__law_order) (defBody s__law_order) (defScope s__law_order) .none kV__law_order dc__law_order pm__law_order an__law_order cd__law_order ct__law_order), sl__law_order⟩)
    (c__law_order : PySem.W.codeIn K cd__law_order "_law_order" = true)
    (k__law_order : PySem.W.keepIn K (.ref f__law_order) = true)
    (a__law_needed : PySem.W.nsIn K mainGlobals "_law_needed" = some (some (.ref f__law_needed)))
    (l__law_needed : K.lookup f__law_needed = some ⟨oc__law_needed, od__law_needed, .func (PySem.W.fnOf "_law_needed" "_law_needed" (defArgs s__law_needed) (defBody s__law_needed) (defScope s__law_needed) .none kV__law_needed dc__law_needed pm__law_needed an__law_needed cd__law_needed ct__law_needed), sl__law_needed⟩)
    (c__law_needed : PySem.W.codeIn K cd__law_needed "_law_needed" = true)
    (k__law_needed : PySem.W.keepIn K (.ref f__law_needed) = true)
    (a__law_trimmed : PySem.W.nsIn K mainGlobals "_law_trimmed" = some (some (.ref f__law_trimmed)))
    (l__law_trimmed : K.lookup f__law_trimmed = some ⟨oc__law_trimmed, od__law_trimmed, .func (PySem.W.fnOf "_law_trimmed" "_law_trimmed" (defArgs s__law_trimmed) (defBody s__law_trimmed) (defScope s__law_trimmed) .none kV__law_trimmed dc__law_trimmed pm__law_trimmed an__law_trimmed cd__law_trimmed ct__law_trimmed), sl__law_trimmed⟩)
    (c__law_trimmed : PySem.W.codeIn K cd__law_trimmed "_law_trimmed" = true)
    (k__law_trimmed : PySem.W.keepIn K (.ref f__law_trimmed) = true)
    (a__law_changed : PySem.W.nsIn K mainGlobals "_law_changed" = some (some (.ref f__law_changed)))
    (l__law_changed : K.lookup f__law_changed = some ⟨oc__law_changed, od__law_changed, .func (PySem.W.fnOf "_law_changed" "_law_changed" (defArgs s__law_changed) (defBody s__law_changed) (defScope s__law_changed) .none kV__law_changed dc__law_changed pm__law_changed an__law_changed cd__law_changed ct__law_changed), sl__law_changed⟩)
    (c__law_changed : PySem.W.codeIn K cd__law_changed "_law_changed" = true)
    (k__law_changed : PySem.W.keepIn K (.ref f__law_changed) = true)
    (a__law_compared : PySem.W.nsIn K mainGlobals "_law_compared" = some (some (.ref f__law_compared)))
    (l__law_compared : K.lookup f__law_compared = some ⟨oc__law_compared, od__law_compared, .func (PySem.W.fnOf "_law_compared" "_law_compared" (defArgs s__law_compared) (defBody s__law_compared) (defScope s__law_compared) .none kV__law_compared dc__law_compared pm__law_compared an__law_compared cd__law_compared ct__law_compared), sl__law_compared⟩)
    (c__law_compared : PySem.W.codeIn K cd__law_compared "_law_compared" = true)
    (k__law_compared : PySem.W.keepIn K (.ref f__law_compared) = true)
    (a_law : PySem.W.nsIn K mainGlobals "law" = some (some (.ref f_law)))
    (l_law : K.lookup f_law = some ⟨oc_law, od_law, .func (PySem.W.fnOf "law" "law" (defArgs s_law) (defBody s_law) (defScope s_law) .none kV_law dc_law pm_law an_law cd_law ct_law), sl_law⟩)
    (c_law : PySem.W.codeIn K cd_law "law" = true)
    (k_law : PySem.W.keepIn K (.ref f_law) = true)
    : ∃ fd : FuncData, (∀ (s : Shared) (v : Value), BindsTo s fd ⟨[v], []⟩ [("script", v)]) ∧ ∀ base : Heap, K.In base → base.Ns mainGlobals mg → FnOk P w K mg base (L2.CX P w) 7 fa fd ["script"] (spLaw K) := by
  have e := hfa.symm.trans (PySem.W.mg_of X G a_law)
  cases e
  refine ⟨PySem.W.fnOf "law" "law" (defArgs s_law) (defBody s_law) (defScope s_law) .none kV_law dc_law pm_law an_law cd_law ct_law, fun s v => .of_eq rfl, fun base _ _ => ?_⟩
  have Z : Zs mg := ⟨PySem.W.mg_none_of X G z_len, PySem.W.mg_none_of X G z_sum, PySem.W.mg_none_of X G z_all, PySem.W.mg_none_of X G z_any, PySem.W.mg_none_of X G z_max, PySem.W.mg_none_of X G z_min, PySem.W.mg_none_of X G z_int, PySem.W.mg_none_of X G z_list, PySem.W.mg_none_of X G z_tuple, PySem.W.mg_none_of X G z_bool, PySem.W.mg_none_of X G z_str, PySem.W.mg_none_of X G z_range, PySem.W.mg_none_of X G z_zip, PySem.W.mg_none_of X G z_enumerate, PySem.W.mg_none_of X G z_isinstance, PySem.W.mg_none_of X G z_sorted⟩
  have F_eI := fun_mk (st := s_PlanError_XinitX) l_eI c_eI k_eI
  have b_eI := F_eI.binds (ps := ["self", "value"]) fun _ _ _ _ _ _ us hl => match us, hl with | [_, _], _ => rfl
  have O_InvalidNumber : OexC K cInvalidNumber := ⟨⟨_, _, _, _, _, _, _, _, _, _, _, _, _, _, _, x_InvalidNumber, v_InvalidNumber⟩, sa_InvalidNumber, ex_InvalidNumber, ty_InvalidNumber, kc_InvalidNumber⟩
  have X_InvalidNumber : XcT P w K mg base "InvalidNumber" cInvalidNumber := ⟨O_InvalidNumber, nv_InvalidNumber, PySem.W.mg_of X G a_InvalidNumber, fI, _, in_InvalidNumber, t_eI, exc_init F_eI sc_PlanError_XinitX O_InvalidNumber nv_InvalidNumber rfl rfl rfl, b_eI⟩
  have Cl_Counted : Cls K cC := ⟨pg_Counted, hd_Counted, po_Counted, sa_Counted⟩
  have In_Counted : InsT K cC := ⟨Cl_Counted, ha_Counted, hn_Counted, ht_Counted, hm_Counted⟩
  have T_Counted : CtT K mg cC := ⟨Cl_Counted, PySem.W.mg_of X G a_Counted, n_Counted_head, n_Counted_tail, In_Counted⟩
  have T_pl : PlT K cC := fun T hT => by
    simp only [List.mem_cons, List.not_mem_nil, or_false] at hT
    rcases hT with rfl | rfl | rfl | rfl | rfl
    · exact ⟨su_NoneType, nf_NoneType, kit_bt ic_Counted ty_Counted kb_NoneType rfl⟩
    · exact ⟨su_int, nf_int, kit_bt ic_Counted ty_Counted kb_int rfl⟩
    · exact ⟨su_str, nf_str, kit_bt ic_Counted ty_Counted kb_str rfl⟩
    · exact ⟨su_list, nf_list, kit_bt ic_Counted ty_Counted kb_list rfl⟩
    · exact ⟨su_tuple, nf_tuple, kit_bt ic_Counted ty_Counted kb_tuple rfl⟩
  have F_choose := fun_mk (st := s_choose) l_choose c_choose k_choose
  have b_choose := F_choose.binds (ps := ["top", "bottom"]) fun _ _ _ _ _ _ us hl => match us, hl with | [_, _], _ => rfl
  have h_choose : Fd P w K mg base "choose" 1 ["top", "bottom"] S_choose := ⟨_, _, ok_choose F_choose Z, PySem.W.mg_of X G a_choose, k_choose, b_choose⟩
  have F_value_at := fun_mk (st := s_value_at) l_value_at c_value_at k_value_at
  have b_value_at := F_value_at.binds (ps := ["poly", "n"]) fun _ _ _ _ _ _ us hl => match us, hl with | [_, _], _ => rfl
  have h_value_at : Fd P w K mg base "value_at" 2 ["poly", "n"] S_value_at := ⟨_, _, ok_value_at F_value_at Z h_choose, PySem.W.mg_of X G a_value_at, k_value_at, b_value_at⟩
  have F_trimmed := fun_mk (st := s_trimmed) l_trimmed c_trimmed k_trimmed
  have b_trimmed := F_trimmed.binds (ps := ["poly"]) fun _ _ _ _ _ _ us hl => match us, hl with | [_], _ => rfl
  have h_trimmed : Fd P w K mg base "trimmed" 1 ["poly"] S_trimmed := ⟨_, _, ok_trimmed F_trimmed Z, PySem.W.mg_of X G a_trimmed, k_trimmed, b_trimmed⟩
  have F_number_at := fun_mk (st := s_number_at) l_number_at c_number_at k_number_at
  have b_number_at := F_number_at.binds (ps := ["firsts", "poly", "n"]) fun _ _ _ _ _ _ us hl => match us, hl with | [_, _, _], _ => rfl
  have h_number_at : Fd P w K mg base "number_at" 3 ["firsts", "poly", "n"] S_number_at := ⟨_, _, ok_number_at F_number_at Z h_value_at, PySem.W.mg_of X G a_number_at, k_number_at, b_number_at⟩
  have F_needed := fun_mk (st := s_needed) l_needed c_needed k_needed
  have b_needed := F_needed.binds (ps := ["firsts", "poly"]) fun _ _ _ _ _ _ us hl => match us, hl with | [_, _], _ => rfl
  have h_needed : Fd P w K mg base "needed" 3 ["firsts", "poly"] S_needed := ⟨_, _, ok_needed F_needed Z h_value_at, PySem.W.mg_of X G a_needed, k_needed, b_needed⟩
  have F_Counted_XinitX := fun_mk (st := s_Counted_XinitX) l_Counted_XinitX c_Counted_XinitX k_Counted_XinitX
  have b_Counted_XinitX := F_Counted_XinitX.binds (ps := ["self", "firsts", "poly"]) fun _ _ _ _ _ _ us hl => match us, hl with | [_, _, _], _ => rfl
  have h_Counted : Cd P w K mg base "Counted" cC 4 ["self", "firsts", "poly"] (S_init cC) := ⟨_, _, ok_init F_Counted_XinitX Z T_Counted h_trimmed h_needed, ⟨mk_Counted, a_Counted_XinitX, i_Counted_XinitX, kc_Counted⟩, PySem.W.mg_of X G a_Counted, b_Counted_XinitX⟩
  have F_Counted_begin := fun_mk (st := s_Counted_begin) l_Counted_begin c_Counted_begin k_Counted_begin
  have b_Counted_begin := F_Counted_begin.binds (ps := ["self"]) fun _ _ _ _ _ _ us hl => match us, hl with | [_], _ => rfl
  have h_Counted_begin : Pd P w K mg base cC "begin" 1 (S_begin cC) := ⟨p_Counted_begin, f_Counted_begin, _, ok_begin F_Counted_begin Z T_Counted, ⟨a_Counted_begin, g_Counted_begin, t_Counted_begin, _, r_Counted_begin⟩, b_Counted_begin⟩
  have F_Counted_firsts := fun_mk (st := s_Counted_firsts) l_Counted_firsts c_Counted_firsts k_Counted_firsts
  have b_Counted_firsts := F_Counted_firsts.binds (ps := ["self"]) fun _ _ _ _ _ _ us hl => match us, hl with | [_], _ => rfl
  have h_Counted_firsts : Pd P w K mg base cC "firsts" 1 (S_firsts cC) := ⟨p_Counted_firsts, f_Counted_firsts, _, ok_firsts F_Counted_firsts Z T_Counted, ⟨a_Counted_firsts, g_Counted_firsts, t_Counted_firsts, _, r_Counted_firsts⟩, b_Counted_firsts⟩
  have hF_Counted_firsts : PdF P w K mg base cC "firsts" 1 (S_firsts cC) := ⟨p_Counted_firsts, f_Counted_firsts, _, ok_firstsF F_Counted_firsts Z T_Counted, ⟨a_Counted_firsts, g_Counted_firsts, t_Counted_firsts, _, r_Counted_firsts⟩, b_Counted_firsts⟩
  have F_Counted_poly := fun_mk (st := s_Counted_poly) l_Counted_poly c_Counted_poly k_Counted_poly
  have b_Counted_poly := F_Counted_poly.binds (ps := ["self"]) fun _ _ _ _ _ _ us hl => match us, hl with | [_], _ => rfl
  have h_Counted_poly : Pd P w K mg base cC "poly" 1 (S_poly cC) := ⟨p_Counted_poly, f_Counted_poly, _, ok_poly F_Counted_poly Z T_Counted, ⟨a_Counted_poly, g_Counted_poly, t_Counted_poly, _, r_Counted_poly⟩, b_Counted_poly⟩
  have hF_Counted_poly : PdF P w K mg base cC "poly" 1 (S_poly cC) := ⟨p_Counted_poly, f_Counted_poly, _, ok_polyF F_Counted_poly Z T_Counted, ⟨a_Counted_poly, g_Counted_poly, t_Counted_poly, _, r_Counted_poly⟩, b_Counted_poly⟩
  have F_Counted_XgetitemX := fun_mk (st := s_Counted_XgetitemX) l_Counted_XgetitemX c_Counted_XgetitemX k_Counted_XgetitemX
  have b_Counted_XgetitemX := F_Counted_XgetitemX.binds (ps := ["self", "n"]) fun _ _ _ _ _ _ us hl => match us, hl with | [_, _], _ => rfl
  have h_Counted_XgetitemX : Gd P w K mg base cC 4 ["self", "n"] (S_getitem cC cInvalidNumber) := ⟨f_Counted_XgetitemX, _, ok_getitem F_Counted_XgetitemX Z T_Counted X_InvalidNumber h_number_at, a_Counted_XgetitemX, fi_Counted_XgetitemX, i_Counted_XgetitemX, b_Counted_XgetitemX⟩
  have F_Counted_XeqX := fun_mk (st := s_Counted_XeqX) l_Counted_XeqX c_Counted_XeqX k_Counted_XeqX
  have b_Counted_XeqX := F_Counted_XeqX.binds (ps := ["self", "other"]) fun _ _ _ _ _ _ us hl => match us, hl with | [_, _], _ => rfl
  have h_Counted_XeqX : Ed P w K mg base cC 1 (S_eqC K cC) := ⟨f_Counted_XeqX, _, ok_eqC F_Counted_XeqX Z T_Counted, a_Counted_XeqX, i_Counted_XeqX, ne_Counted, hm_Counted, b_Counted_XeqX⟩
  have F__law_deck := fun_mk (st := s__law_deck) l__law_deck c__law_deck k__law_deck
  have b__law_deck := F__law_deck.binds (ps := ["script"]) fun _ _ _ _ _ _ us hl => match us, hl with | [_], _ => rfl
  have h__law_deck : Fd P w K mg base "_law_deck" 1 ["script"] S_deck := ⟨_, _, ok_deck F__law_deck Z, PySem.W.mg_of X G a__law_deck, k__law_deck, b__law_deck⟩
  have F__law_draw := fun_mk (st := s__law_draw) l__law_draw c__law_draw k__law_draw
  have b__law_draw := F__law_draw.binds (ps := ["deck", "many"]) fun _ _ _ _ _ _ us hl => match us, hl with | [_, _], _ => rfl
  have h__law_draw : Fd P w K mg base "_law_draw" 1 ["deck", "many"] S_draw := ⟨_, _, ok_draw F__law_draw Z, PySem.W.mg_of X G a__law_draw, k__law_draw, b__law_draw⟩
  have F__law_great := fun_mk (st := s__law_great) l__law_great c__law_great k__law_great
  have b__law_great := F__law_great.binds (ps := ["deck", "many"]) fun _ _ _ _ _ _ us hl => match us, hl with | [_, _], _ => rfl
  have h__law_great : Fd P w K mg base "_law_great" 2 ["deck", "many"] S_great := ⟨_, _, ok_great F__law_great Z h__law_draw, PySem.W.mg_of X G a__law_great, k__law_great, b__law_great⟩
  have F__law_list := fun_mk (st := s__law_list) l__law_list c__law_list k__law_list
  have b__law_list := F__law_list.binds (ps := ["deck", "most"]) fun _ _ _ _ _ _ us hl => match us, hl with | [_, _], _ => rfl
  have h__law_list : Fd P w K mg base "_law_list" 3 ["deck", "most"] S_list := ⟨_, _, ok_list F__law_list Z h__law_draw h__law_great, PySem.W.mg_of X G a__law_list, k__law_list, b__law_list⟩
  have F__law_value := fun_mk (st := s__law_value) l__law_value c__law_value k__law_value
  have b__law_value := F__law_value.binds (ps := ["row", "at"]) fun _ _ _ _ _ _ us hl => match us, hl with | [_, _], _ => rfl
  have h__law_value : Fd P w K mg base "_law_value" 1 ["row", "at"] S_value := ⟨_, _, ok_value F__law_value Z, PySem.W.mg_of X G a__law_value, k__law_value, b__law_value⟩
  have F__law_lists := fun_mk (st := s__law_lists) l__law_lists c__law_lists k__law_lists
  have b__law_lists := F__law_lists.binds (ps := ["deck", "most"]) fun _ _ _ _ _ _ us hl => match us, hl with | [_, _], _ => rfl
  have h__law_lists : Fd P w K mg base "_law_lists" 4 ["deck", "most"] S_lists := ⟨_, _, ok_lists F__law_lists Z h__law_draw h__law_list h__law_value, PySem.W.mg_of X G a__law_lists, k__law_lists, b__law_lists⟩
  have F__law_order := fun_mk (st := s__law_order) l__law_order c__law_order k__law_order
  have b__law_order := F__law_order.binds (ps := ["deck", "many"]) fun _ _ _ _ _ _ us hl => match us, hl with | [_, _], _ => rfl
  have h__law_order : Fd P w K mg base "_law_order" 2 ["deck", "many"] S_order := ⟨_, _, ok_order F__law_order Z h__law_draw, PySem.W.mg_of X G a__law_order, k__law_order, b__law_order⟩
  have F__law_needed := fun_mk (st := s__law_needed) l__law_needed c__law_needed k__law_needed
  have b__law_needed := F__law_needed.binds (ps := ["heads", "row"]) fun _ _ _ _ _ _ us hl => match us, hl with | [_, _], _ => rfl
  have h__law_needed : Fd P w K mg base "_law_needed" 2 ["heads", "row"] S_lneeded := ⟨_, _, ok_lneeded F__law_needed Z h__law_value, PySem.W.mg_of X G a__law_needed, k__law_needed, b__law_needed⟩
  have F__law_trimmed := fun_mk (st := s__law_trimmed) l__law_trimmed c__law_trimmed k__law_trimmed
  have b__law_trimmed := F__law_trimmed.binds (ps := ["row"]) fun _ _ _ _ _ _ us hl => match us, hl with | [_], _ => rfl
  have h__law_trimmed : Fd P w K mg base "_law_trimmed" 1 ["row"] S_trimmed := ⟨_, _, ok_ltrimmed F__law_trimmed Z, PySem.W.mg_of X G a__law_trimmed, k__law_trimmed, b__law_trimmed⟩
  have F__law_changed := fun_mk (st := s__law_changed) l__law_changed c__law_changed k__law_changed
  have b__law_changed := F__law_changed.binds (ps := ["deck", "numbers", "row"]) fun _ _ _ _ _ _ us hl => match us, hl with | [_, _, _], _ => rfl
  have h__law_changed : Fd P w K mg base "_law_changed" 3 ["deck", "numbers", "row"] S_changed := ⟨_, _, ok_changed F__law_changed Z h__law_draw h__law_value h__law_needed h__law_trimmed, PySem.W.mg_of X G a__law_changed, k__law_changed, b__law_changed⟩
  have F__law_compared := fun_mk (st := s__law_compared) l__law_compared c__law_compared k__law_compared
  have b__law_compared := F__law_compared.binds (ps := ["one", "two", "due"]) fun _ _ _ _ _ _ us hl => match us, hl with | [_, _, _], _ => rfl
  have h__law_compared : Fd P w K mg base "_law_compared" 3 ["one", "two", "due"] (S_compared K cC) := ⟨_, _, ok_compared F__law_compared Z T_Counted h_Counted_XeqX, PySem.W.mg_of X G a__law_compared, k__law_compared, b__law_compared⟩
  have F_law := fun_mk (st := s_law) l_law c_law k_law
  exact ok_law F_law Z T_Counted T_pl h__law_deck h__law_draw h__law_lists h__law_order h__law_needed h__law_trimmed h__law_changed h__law_compared h_Counted_poly hF_Counted_poly hF_Counted_firsts h_Counted_XgetitemX h_Counted
theorem walk {l : PySem.W.OpenLaw} {q : Program} {loose : List Str} {XP : (Str → Option Value) → Heap → Prop} {YP : World → Heap → Prop} {d : DefRec} {K : Params → PySem.W.Frag} (hn : l.most = some 63) (hdf : d.params.defaults = [])
    (hY : ∀ (w : World) (h : Heap), YP w h → (K w.params).In h)
    (F : ∀ (w : World) (mg : Str → Option Value) (fa : Addr) (h : Heap), (K w.params).In h → h.Ns mainGlobals mg → mg d.name = some (.ref fa) →
      ∃ fd : FuncData, (∀ (s : Shared) (u : Value), BindsTo s fd ⟨[u], []⟩ [("script", u)]) ∧ ∀ base : Heap, (K w.params).In base → base.Ns mainGlobals mg → FnOk l.prog w (K w.params) mg base (L2.CX l.prog w) 7 fa fd ["script"] (spLaw (K w.params))) :
    PySem.W.WalkO q loose XP YP l.row.toRowW d [] (fun f vs => PySem.call f vs) :=
  L2.walk_of (n := 63) (k := 7) (x := "script") (CX := fun w => L2.CX l.prog w) (sp := fun w => spLaw (K w.params)) hn (by decide) hdf ⟨rfl, by decide, by decide⟩ hY F (fun _ H a ns hl ho hS => ⟨a, ns, rfl, hl, ho, hS, fun _ => rfl⟩) fun _ _ _ _ _ z => by
    obtain ⟨_, _, _, _, _, _, _, _, _, _, _, _, z⟩ := z
    exact z.elim
end KP
open PySem PySem.W PyProof.Rows in
set_option maxRecDepth 100000 in
set_option maxHeartbeats 0 in
theorem PySem.Challenge.cw_plandays_k74_counted_that_are_equal_holds : PySem.Challenge.rw_plandays_k74_counted_that_are_equal.Holds := by
  w_on; o_law; k_head; (case hw => w_witness2)
  k_fill
  refine KP.walk (l := PySem.Challenge.rw_plandays_k74_counted_that_are_equal) rfl rfl (fun w h Y => PySem.W.kIn_of Y) ?F
  case F =>
    intro w mg fa h KX G hmg
    refine' KP.all_mk KX G hmg ?z_len ?z_sum ?z_all ?z_any ?z_max ?z_min ?z_int ?z_list ?z_tuple ?z_bool ?z_str ?z_range ?z_zip ?z_enumerate ?z_isinstance ?z_sorted ?a_InvalidNumber ?x_InvalidNumber ?v_InvalidNumber ?sa_InvalidNumber ?ex_InvalidNumber ?ty_InvalidNumber ?kc_InvalidNumber ?nv_InvalidNumber ?in_InvalidNumber ?ga_InvalidNumber ?gg_InvalidNumber ?hd_InvalidNumber ?ic_InvalidNumber ?sc_InvalidNumber ?l_eI ?c_eI ?k_eI ?t_eI ?a_Counted ?pg_Counted ?hd_Counted ?po_Counted ?sa_Counted ?mk_Counted ?kc_Counted ?ha_Counted ?hn_Counted ?ht_Counted ?hm_Counted ?n_Counted_head ?n_Counted_tail ?su_NoneType ?nf_NoneType ?kb_NoneType ?su_int ?nf_int ?kb_int ?su_str ?nf_str ?kb_str ?su_list ?nf_list ?kb_list ?su_tuple ?nf_tuple ?kb_tuple ?ic_Counted ?ty_Counted ?ne_Counted ?a_choose ?l_choose ?c_choose ?k_choose ?a_value_at ?l_value_at ?c_value_at ?k_value_at ?a_trimmed ?l_trimmed ?c_trimmed ?k_trimmed ?a_number_at ?l_number_at ?c_number_at ?k_number_at ?a_needed ?l_needed ?c_needed ?k_needed ?a_Counted_XinitX ?i_Counted_XinitX ?l_Counted_XinitX ?c_Counted_XinitX ?k_Counted_XinitX ?a_Counted_begin ?g_Counted_begin ?t_Counted_begin ?r_Counted_begin ?l_Counted_begin ?c_Counted_begin ?k_Counted_begin ?a_Counted_firsts ?g_Counted_firsts ?t_Counted_firsts ?r_Counted_firsts ?l_Counted_firsts ?c_Counted_firsts ?k_Counted_firsts ?a_Counted_poly ?g_Counted_poly ?t_Counted_poly ?r_Counted_poly ?l_Counted_poly ?c_Counted_poly ?k_Counted_poly ?a_Counted_XgetitemX ?i_Counted_XgetitemX ?l_Counted_XgetitemX ?c_Counted_XgetitemX ?k_Counted_XgetitemX ?fi_Counted_XgetitemX ?a_Counted_XeqX ?i_Counted_XeqX ?l_Counted_XeqX ?c_Counted_XeqX ?k_Counted_XeqX ?a__law_deck ?l__law_deck ?c__law_deck ?k__law_deck ?a__law_draw ?l__law_draw ?c__law_draw ?k__law_draw ?a__law_great ?l__law_great ?c__law_great ?k__law_great ?a__law_list ?l__law_list ?c__law_list ?k__law_list ?a__law_value ?l__law_value ?c__law_value ?k__law_value ?a__law_lists ?l__law_lists ?c__law_lists ?k__law_lists ?a__law_order ?l__law_order ?c__law_order ?k__law_order ?a__law_needed ?l__law_needed ?c__law_needed ?k__law_needed ?a__law_trimmed ?l__law_trimmed ?c__law_trimmed ?k__law_trimmed ?a__law_changed ?l__law_changed ?c__law_changed ?k__law_changed ?a__law_compared ?l__law_compared ?c__law_compared ?k__law_compared ?a_law ?l_law ?c_law ?k_law
    (case z_len => k_is)
    (case z_sum => k_is)
    (case z_all => k_is)
    (case z_any => k_is)
    (case z_max => k_is)
    (case z_min => k_is)
    (case z_int => k_is)
    (case z_list => k_is)
    (case z_tuple => k_is)
    (case z_bool => k_is)
    (case z_str => k_is)
    (case z_range => k_is)
    (case z_zip => k_is)
    (case z_enumerate => k_is)
    (case z_isinstance => k_is)
    (case z_sorted => k_is)
    (case a_InvalidNumber => k_is)
    (case x_InvalidNumber => k_is)
    (case v_InvalidNumber => first | decide +kernel | k_is)
    (case sa_InvalidNumber => k_is)
    (case ex_InvalidNumber => k_is)
    (case ty_InvalidNumber => k_is)
    (case kc_InvalidNumber => k_is)
    (case nv_InvalidNumber => k_is)
    (case in_InvalidNumber => k_is)
    (case ga_InvalidNumber => k_is)
    (case gg_InvalidNumber => k_is)
    (case hd_InvalidNumber => k_is)
    (case ic_InvalidNumber => k_is)
    (case sc_InvalidNumber => k_is)
    (case l_eI => k_is)
    (case c_eI => k_is)
    (case k_eI => k_is)
    (case t_eI => k_is)
    (case a_Counted => k_is)
    (case pg_Counted => k_is)
    (case hd_Counted => k_is)
    (case po_Counted => k_is)
    (case sa_Counted => k_is)
    (case mk_Counted => k_is)
    (case kc_Counted => k_is)
    (case ha_Counted => k_is)
    (case hn_Counted => k_is)
    (case ht_Counted => k_is)
    (case hm_Counted => k_is)
    (case n_Counted_head => k_is)
    (case n_Counted_tail => k_is)
    (case su_NoneType => k_is)
    (case nf_NoneType => k_is)
    (case kb_NoneType => k_is)
    (case su_int => k_is)
    (case nf_int => k_is)
    (case kb_int => k_is)
    (case su_str => k_is)
    (case nf_str => k_is)
    (case kb_str => k_is)
    (case su_list => k_is)
    (case nf_list => k_is)
    (case kb_list => k_is)
    (case su_tuple => k_is)
    (case nf_tuple => k_is)
    (case kb_tuple => k_is)
    (case ic_Counted => k_is)
    (case ty_Counted => k_is)
    (case ne_Counted => k_is)
    (case a_choose => k_is)
    (case l_choose => k_is)
    (case c_choose => k_is)
    (case k_choose => k_is)
    (case a_value_at => k_is)
    (case l_value_at => k_is)
    (case c_value_at => k_is)
    (case k_value_at => k_is)
    (case a_trimmed => k_is)
    (case l_trimmed => k_is)
    (case c_trimmed => k_is)
    (case k_trimmed => k_is)
    (case a_number_at => k_is)
    (case l_number_at => k_is)
    (case c_number_at => k_is)
    (case k_number_at => k_is)
    (case a_needed => k_is)
    (case l_needed => k_is)
    (case c_needed => k_is)
    (case k_needed => k_is)
    (case a_Counted_XinitX => k_is)
    (case i_Counted_XinitX => k_is)
    (case l_Counted_XinitX => k_is)
    (case c_Counted_XinitX => k_is)
    (case k_Counted_XinitX => k_is)
    (case a_Counted_begin => k_is)
    (case g_Counted_begin => k_is)
    (case t_Counted_begin => k_is)
    (case r_Counted_begin => k_is)
    (case l_Counted_begin => k_is)
    (case c_Counted_begin => k_is)
    (case k_Counted_begin => k_is)
    (case a_Counted_firsts => k_is)
    (case g_Counted_firsts => k_is)
    (case t_Counted_firsts => k_is)
    (case r_Counted_firsts => k_is)
    (case l_Counted_firsts => k_is)
    (case c_Counted_firsts => k_is)
    (case k_Counted_firsts => k_is)
    (case a_Counted_poly => k_is)
    (case g_Counted_poly => k_is)
    (case t_Counted_poly => k_is)
    (case r_Counted_poly => k_is)
    (case l_Counted_poly => k_is)
    (case c_Counted_poly => k_is)
    (case k_Counted_poly => k_is)
    (case a_Counted_XgetitemX => k_is)
    (case i_Counted_XgetitemX => k_is)
    (case l_Counted_XgetitemX => k_is)
    (case c_Counted_XgetitemX => k_is)
    (case k_Counted_XgetitemX => k_is)
    (case fi_Counted_XgetitemX => k_is)
    (case a_Counted_XeqX => k_is)
    (case i_Counted_XeqX => k_is)
    (case l_Counted_XeqX => k_is)
    (case c_Counted_XeqX => k_is)
    (case k_Counted_XeqX => k_is)
    (case a__law_deck => k_is)
    (case l__law_deck => k_is)
    (case c__law_deck => k_is)
    (case k__law_deck => k_is)
    (case a__law_draw => k_is)
    (case l__law_draw => k_is)
    (case c__law_draw => k_is)
    (case k__law_draw => k_is)
    (case a__law_great => k_is)
    (case l__law_great => k_is)
    (case c__law_great => k_is)
    (case k__law_great => k_is)
    (case a__law_list => k_is)
    (case l__law_list => k_is)
    (case c__law_list => k_is)
    (case k__law_list => k_is)
    (case a__law_value => k_is)
    (case l__law_value => k_is)
    (case c__law_value => k_is)
    (case k__law_value => k_is)
    (case a__law_lists => k_is)
    (case l__law_lists => k_is)
    (case c__law_lists => k_is)
    (case k__law_lists => k_is)
    (case a__law_order => k_is)
    (case l__law_order => k_is)
    (case c__law_order => k_is)
    (case k__law_order => k_is)
    (case a__law_needed => k_is)
    (case l__law_needed => k_is)
    (case c__law_needed => k_is)
    (case k__law_needed => k_is)
    (case a__law_trimmed => k_is)
    (case l__law_trimmed => k_is)
    (case c__law_trimmed => k_is)
    (case k__law_trimmed => k_is)
    (case a__law_changed => k_is)
    (case l__law_changed => k_is)
    (case c__law_changed => k_is)
    (case k__law_changed => k_is)
    (case a__law_compared => k_is)
    (case l__law_compared => k_is)
    (case c__law_compared => k_is)
    (case k__law_compared => k_is)
    (case a_law => k_is)
    (case l_law => k_is)
    (case c_law => k_is)
    (case k_law => k_is)

