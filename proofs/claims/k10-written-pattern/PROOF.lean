import PyProof.Rows.All
import Wide.All
import OpenK.AllK
import Wide.FinOn
import HandS.ForMost
import HandS.Flow
import HandS.Style
import HandS.StrMore
import HandS.TupAny
import HandS.TupLe
import HandS.IsInst
import HandS.Flt
import HandS.RaiseMore
import PySem.Challenge.RW_surespan_k10_written_pattern
set_option Elab.async false
set_option linter.all false
set_option maxRecDepth 100000
set_option maxHeartbeats 4000000
/-! Sw1: a pure semantics of values for a part of Python (data D, slots Rho), and its tie to the readings of HandS. -/
namespace Sw
open PySem PySem.Spec PyProof.Rows L2

inductive D where
  | non | bl (b : Bool) | int (i : Int) | str (s : List Nat) | lst (xs : List D) | tup (xs : List D) | scr (xs : List Int)

mutual
inductive Rep (K : PySem.W.Frag) (F : Hp) : V → D → Prop where
  | non : Rep K F .non .non
  | bl (b : Bool) : Rep K F (.bl b) (.bl b)
  | int (i : Int) : Rep K F (.int i) (.int i)
  | str (s : List Nat) : Rep K F (.str ⟨s.toArray⟩) (.str s)
  | lst {a : Addr} {vs : List V} {ds : List D} : F a = some (.lst vs) → Reps K F vs ds → Rep K F (.ref a) (.lst ds)
  | scr {a : Addr} {xs : List Int} : SqL K F a (xs.map V.int) → Rep K F (.ref a) (.scr xs)
  | tup {a : Addr} {vs : List V} {ds : List D} : SqT K F a vs → Reps K F vs ds → Rep K F (.ref a) (.tup ds)
inductive Reps (K : PySem.W.Frag) (F : Hp) : List V → List D → Prop where
  | nil : Reps K F [] []
  | cons {v : V} {d : D} {vs : List V} {ds : List D} : Rep K F v d → Reps K F vs ds → Reps K F (v :: vs) (d :: ds)
end

theorem same_t {K : PySem.W.Frag} {H H' : Hp} {a : Addr} {xs : List V} (e : Same H H') (h : SqT K H a xs) : SqT K H' a xs := by
  rcases h with (h | ⟨o, h⟩) | h
  · exact .inl (.inl (e _ _ h))
  · exact .inl (.inr ⟨o, e _ _ h⟩)
  · exact .inr h

mutual
theorem Rep.mono {K : PySem.W.Frag} {F F' : Hp} (e : Same F F') : ∀ {v : V} {d : D}, Rep K F v d → Rep K F' v d
  | _, _, .non => .non
  | _, _, .bl b => .bl b
  | _, _, .int i => .int i
  | _, _, .str s => .str s
  | _, _, .lst h r => .lst (e _ _ h) (Reps.mono e r)
  | _, _, .scr h => .scr (e.seq h)
  | _, _, .tup h r => .tup (same_t e h) (Reps.mono e r)
theorem Reps.mono {K : PySem.W.Frag} {F F' : Hp} (e : Same F F') : ∀ {vs : List V} {ds : List D}, Reps K F vs ds → Reps K F' vs ds
  | _, _, .nil => .nil
  | _, _, .cons h r => .cons (Rep.mono e h) (Reps.mono e r)
end
theorem Reps.len {K : PySem.W.Frag} {F : Hp} : ∀ {vs : List V} {ds : List D}, Reps K F vs ds → vs.length = ds.length
  | _, _, .nil => rfl
  | _, _, .cons _ r => by rw [List.length_cons, List.length_cons, Reps.len r]
theorem Reps.get {K : PySem.W.Frag} {F : Hp} : ∀ {vs : List V} {ds : List D} {i : Nat} {v : V}, Reps K F vs ds → vs[i]? = some v → ∃ d, ds[i]? = some d ∧ Rep K F v d
  | _, _, _, _, .nil, h => by simp at h
  | _, _, 0, _, .cons r _, h => by simp at h; subst h; exact ⟨_, rfl, r⟩
  | _, _, i + 1, v, .cons _ t, h => by
    obtain ⟨d, h1, h2⟩ := Reps.get (i := i) (v := v) t (by simpa using h)
    exact ⟨d, by simpa using h1, h2⟩
theorem Reps.get' {K : PySem.W.Frag} {F : Hp} : ∀ {vs : List V} {ds : List D} {i : Nat} {d : D}, Reps K F vs ds → ds[i]? = some d → ∃ v, vs[i]? = some v ∧ Rep K F v d
  | _, _, _, _, .nil, h => by simp at h
  | _, _, 0, _, .cons r _, h => by simp at h; subst h; exact ⟨_, rfl, r⟩
  | _, _, i + 1, v, .cons _ t, h => by
    obtain ⟨d, h1, h2⟩ := Reps.get' (i := i) (d := v) t (by simpa using h)
    exact ⟨d, by simpa using h1, h2⟩
theorem Reps.append {K : PySem.W.Frag} {F : Hp} : ∀ {vs us : List V} {ds es : List D}, Reps K F vs ds → Reps K F us es → Reps K F (vs ++ us) (ds ++ es)
  | _, _, _, _, .nil, s => s
  | _, _, _, _, .cons r t, s => .cons r (Reps.append t s)
theorem Reps.take {K : PySem.W.Frag} {F : Hp} : ∀ {vs : List V} {ds : List D} (n : Nat), Reps K F vs ds → Reps K F (vs.take n) (ds.take n)
  | _, _, 0, _ => .nil
  | _, _, _ + 1, .nil => .nil
  | _, _, n + 1, .cons r t => .cons r (Reps.take n t)
theorem Reps.drop {K : PySem.W.Frag} {F : Hp} : ∀ {vs : List V} {ds : List D} (n : Nat), Reps K F vs ds → Reps K F (vs.drop n) (ds.drop n)
  | _, _, 0, r => r
  | _, _, _ + 1, .nil => .nil
  | _, _, n + 1, .cons _ t => Reps.drop n t
theorem Reps.set {K : PySem.W.Frag} {F : Hp} {v : V} {d : D} (r : Rep K F v d) : ∀ {vs : List V} {ds : List D} (i : Nat), Reps K F vs ds → Reps K F (vs.set i v) (ds.set i d)
  | _, _, _, .nil => .nil
  | _, _, 0, .cons _ t => .cons r t
  | _, _, i + 1, .cons q t => .cons q (Reps.set r i t)
theorem Reps.reverse {K : PySem.W.Frag} {F : Hp} : ∀ {vs : List V} {ds : List D}, Reps K F vs ds → Reps K F vs.reverse ds.reverse
  | _, _, .nil => .nil
  | _, _, .cons r t => by
    rw [List.reverse_cons, List.reverse_cons]
    exact (Reps.reverse t).append (.cons r .nil)

/-! ### slots and worlds -/
/-- a slot: unset, a datum, a list of one's own, a list handed in to be changed -/
inductive Sl where
  | no | d (x : D) | ow (xs : List D) | io (xs : List D)
abbrev Rho := List Sl
/-- what an expression gives: a datum, a new list, the list that stands in a slot -/
inductive Vl where
  | fz (x : D) | fr (xs : List D) | bw (i : Nat)
structure Gd where
  H0 : Hp
  F0 : Hp
  ia : List (Nat × Addr)
  nl : Nat

def Ow (ρ : Rho) (σ : L2.St) (i : Nat) (a : Addr) : Prop := (∃ xs, ρ[i]? = some (.ow xs) ∨ ρ[i]? = some (.io xs)) ∧ σ[i]? = some (some (.ref a))

def SlR (K : PySem.W.Frag) (G : Gd) (σ : L2.St) (H F : Hp) (i : Nat) : Sl → Prop
  | .no => True
  | .d x => ∃ v, σ[i]? = some (some v) ∧ Rep K F v x
  | .ow xs => ∃ a vs, σ[i]? = some (some (.ref a)) ∧ H a = some (.lst vs) ∧ Reps K F vs xs ∧ F a = none ∧ G.H0 a = none
  | .io xs => ∃ a vs, σ[i]? = some (some (.ref a)) ∧ H a = some (.lst vs) ∧ Reps K F vs xs ∧ F a = none ∧ (i, a) ∈ G.ia

structure Wd (K : PySem.W.Frag) (G : Gd) (ρ : Rho) (σ : L2.St) (H F : Hp) : Prop where
  len : ρ.length = σ.length
  gl : σ.length = G.nl
  sub : Same F H
  f0 : Same G.F0 F
  kp : ∀ b o, G.H0 b = some o → b ∉ G.ia.map (·.2) → H b = some o
  nw : ∀ b, F b ≠ none → G.F0 b ≠ none ∨ G.H0 b = none
  it : ∀ b, b ∈ G.ia.map (·.2) → H b ≠ none
  sl : ∀ i s, ρ[i]? = some s → SlR K G σ H F i s
  ap : ∀ i j a, Ow ρ σ i a → Ow ρ σ j a → i = j
  ai : ∀ i a, (i, a) ∈ G.ia → (∃ xs, ρ[i]? = some (.io xs)) ∧ σ[i]? = some (some (.ref a))

def VlR (K : PySem.W.Frag) (G : Gd) (P : Hp) (ρ : Rho) (σ : L2.St) (H F : Hp) (v : V) : Vl → Prop
  | .fz x => Rep K F v x
  | .fr xs => ∃ a vs, v = .ref a ∧ H a = some (.lst vs) ∧ Reps K F vs xs ∧ F a = none ∧ P a = none ∧ ∀ i, ¬ Ow ρ σ i a
  | .bw i => σ[i]? = some (some v)
/-- settled values: a datum or a slot's list -/
def VlS (K : PySem.W.Frag) (σ : L2.St) (F : Hp) (v : V) : Vl → Prop
  | .fz x => Rep K F v x
  | .fr _ => False
  | .bw i => σ[i]? = some (some v)
def stl : Vl → Vl
  | .fr xs => .fz (.lst xs)
  | r => r

structure Ste (K : PySem.W.Frag) (G : Gd) (ρ : Rho) (σ : L2.St) (H F : Hp) (ρ' : Rho) (H' F' : Hp) : Prop where
  wd : Wd K G ρ' σ H' F'
  ff : Same F F'
  kk : ∀ b o, H b = some o → (∀ i, ¬ Ow ρ σ i b) → H' b = some o
  nf : ∀ b, F' b ≠ none → F b ≠ none ∨ H b = none ∨ ∃ i, Ow ρ σ i b
  oo : ∀ i a, Ow ρ' σ i a → Ow ρ σ i a
  tr : ∀ b, H b ≠ none → H' b ≠ none

section
variable {K : PySem.W.Frag} {G : Gd} {ρ ρ1 ρ2 ρ' : Rho} {σ : L2.St} {H H1 H2 H' F F1 F2 F' : Hp} {v : V} {r : Vl}

theorem Ste.refl (W : Wd K G ρ σ H F) : Ste K G ρ σ H F ρ H F :=
  ⟨W, Same.refl _, fun _ _ h _ => h, fun _ h => .inl h, fun _ _ h => h, fun _ h => h⟩
theorem Ste.trans (a : Ste K G ρ σ H F ρ1 H1 F1) (b : Ste K G ρ1 σ H1 F1 ρ2 H2 F2) : Ste K G ρ σ H F ρ2 H2 F2 := by
  refine ⟨b.wd, a.ff.trans b.ff, fun c o h n => b.kk c o (a.kk c o h n) fun i q => n i (a.oo i c q), fun c h => ?_, fun i c q => a.oo i c (b.oo i c q), fun c h => b.tr c (a.tr c h)⟩
  rcases b.nf c h with h1 | h1 | ⟨i, h1⟩
  · exact a.nf c h1
  · by_cases q : ∃ i, Ow ρ σ i c
    · exact .inr (.inr q)
    · refine .inr (.inl ?_)
      cases e : H c with
      | none => rfl
      | some o =>
        rw [a.kk c o e fun i z => q ⟨i, z⟩] at h1
        cases h1
  · exact .inr (.inr ⟨i, a.oo i c h1⟩)
theorem Wd.ow_there (W : Wd K G ρ σ H F) {i : Nat} {a : Addr} (h : Ow ρ σ i a) : ∃ vs, H a = some (.lst vs) ∧ F a = none := by
  obtain ⟨⟨xs, h1 | h1⟩, h2⟩ := h
  · obtain ⟨b, vs, e, h3, _, h5, _⟩ := W.sl i _ h1
    rw [h2] at e; cases e
    exact ⟨vs, h3, h5⟩
  · obtain ⟨b, vs, e, h3, _, h5, _⟩ := W.sl i _ h1
    rw [h2] at e; cases e
    exact ⟨vs, h3, h5⟩
theorem VlS.ste (h : VlS K σ F1 v r) (s : Ste K G ρ1 σ H1 F1 ρ2 H2 F2) : VlS K σ F2 v r := by
  cases r with
  | fz x => exact Rep.mono s.ff h
  | bw i => exact h
  | fr xs => exact h.elim

/-- what is read of a value now -/
def look (ρ : Rho) : Vl → Option D
  | .fz x => some x
  | .fr xs => some (.lst xs)
  | .bw i => match ρ[i]? with
    | some (.ow xs) => some (.lst xs)
    | some (.io xs) => some (.lst xs)
    | _ => none
def Vw (K : PySem.W.Frag) (H F : Hp) (v : V) : D → Prop
  | .lst xs => ∃ a vs, v = .ref a ∧ H a = some (.lst vs) ∧ Reps K F vs xs
  | x => Rep K F v x
theorem vw_rep {x : D} (s : Same F H) (h : Rep K F v x) : Vw K H F v x := by
  cases h with
  | lst h r => exact ⟨_, _, rfl, s _ _ h, r⟩
  | scr h => exact .scr h
  | non => exact .non
  | bl b => exact .bl b
  | int i => exact .int i
  | str s => exact .str s
  | tup h r => exact .tup h r
theorem vw_of {x : D} (W : Wd K G ρ σ H F) (h : VlS K σ F v r) (e : look ρ r = some x) : Vw K H F v x := by
  cases r with
  | fz y => cases e; exact vw_rep W.sub h
  | fr xs => exact h.elim
  | bw i =>
    unfold look at e
    have h : σ[i]? = some (some v) := h
    cases q : ρ[i]? with
    | none => simp [q] at e
    | some s =>
      cases s with
      | no => simp [q] at e
      | d y => simp [q] at e
      | ow xs =>
        simp [q] at e; subst e
        obtain ⟨a, vs, e, h1, h2, _⟩ := W.sl i _ q
        rw [h] at e; cases e
        exact ⟨a, vs, rfl, h1, h2⟩
      | io xs =>
        simp [q] at e; subst e
        obtain ⟨a, vs, e, h1, h2, _⟩ := W.sl i _ q
        rw [h] at e; cases e
        exact ⟨a, vs, rfl, h1, h2⟩

/-- a value becomes a datum -/
def frz (ρ : Rho) : Vl → Option (D × Rho)
  | .fz x => some (x, ρ)
  | .fr xs => some (.lst xs, ρ)
  | .bw i => match ρ[i]? with
    | some (.ow xs) => some (.lst xs, ρ.set i (.d (.lst xs)))
    | _ => none

theorem Wd.h0 (W : Wd K G ρ σ H F) {b : Addr} (h : H b = none) : G.H0 b = none := by
  cases e : G.H0 b with
  | none => rfl
  | some o =>
    by_cases q : b ∈ G.ia.map (·.2)
    · exact absurd h (W.it b q)
    · rw [W.kp b o e q] at h; cases h

structure Alc (F H F' H' : Hp) : Prop where
  ff : Same F F'
  sub : Same F' H'
  hh : Same H H'
  nf : ∀ b, F' b ≠ none → F b ≠ none ∨ H b = none
theorem Alc.refl (s : Same F H) : Alc F H F H := ⟨Same.refl _, s, Same.refl _, fun _ h => .inl h⟩
theorem Alc.trans {F1 H1 F2 H2 : Hp} (a : Alc F H F1 H1) (b : Alc F1 H1 F2 H2) : Alc F H F2 H2 := by
  refine ⟨a.ff.trans b.ff, b.sub, a.hh.trans b.hh, fun c h => ?_⟩
  rcases b.nf c h with q | q
  · exact a.nf c q
  · exact .inr (a.hh.free q)
theorem same_upd {p : Addr} {o : HO} (h : H p = none) : Same H (upd H p o) := fun b x e => by
  rw [upd_ne (ne_of_none e h)]
  exact e
theorem Alc.new {p : Addr} {o : HO} (s : Same F H) (h : H p = none) : Alc F H (upd F p o) (upd H p o) := by
  refine ⟨same_upd (s.free h), fun b x e => ?_, same_upd h, fun b q => ?_⟩
  · by_cases hb : b = p
    · subst hb; rw [upd_same] at e ⊢; exact e
    · rw [upd_ne hb] at e ⊢; exact s _ _ e
  · by_cases hb : b = p
    · subst hb; exact .inr h
    · rw [upd_ne hb] at q; exact .inl q
theorem SlR.alc {i : Nat} {s : Sl} (A : Alc F H F' H') (h : SlR K G σ H F i s) : SlR K G σ H' F' i s := by
  have fn : ∀ {a : Addr} {vs : List V}, H a = some (.lst vs) → F a = none → F' a = none := fun {a vs} h1 h2 => by
    cases e : F' a with
    | none => rfl
    | some o =>
      rcases A.nf a (by rw [e]; simp) with q | q
      · exact absurd h2 q
      · rw [h1] at q; cases q
  cases s with
  | no => trivial
  | d x => obtain ⟨v, e, r⟩ := h; exact ⟨v, e, r.mono A.ff⟩
  | ow xs => obtain ⟨a, vs, e, h1, h2, h3, h4⟩ := h; exact ⟨a, vs, e, A.hh _ _ h1, h2.mono A.ff, fn h1 h3, h4⟩
  | io xs => obtain ⟨a, vs, e, h1, h2, h3, h4⟩ := h; exact ⟨a, vs, e, A.hh _ _ h1, h2.mono A.ff, fn h1 h3, h4⟩
theorem Wd.alc (W : Wd K G ρ σ H F) (A : Alc F H F' H') : Ste K G ρ σ H F ρ H' F' := by
  refine ⟨⟨W.len, W.gl, A.sub, W.f0.trans A.ff, fun b o h q => A.hh _ _ (W.kp b o h q), fun b h => ?_, fun b h e => W.it b h (A.hh.free e), fun i s h => (W.sl i s h).alc A, W.ap, W.ai⟩, A.ff, fun b o h _ => A.hh _ _ h, fun b h => (A.nf b h).elim .inl fun q => .inr (.inl q), fun _ _ h => h, fun b h e => h (A.hh.free e)⟩
  rcases A.nf b h with q | q
  · exact W.nw b q
  · exact .inr (W.h0 q)

/-- an untracked-by-F list that no slot owns is frozen -/
theorem Wd.freeze_new {a : Addr} {vs : List V} (W : Wd K G ρ σ H F) (h1 : H a = some (.lst vs)) (h2 : F a = none) (h3 : G.H0 a = none) (h4 : ∀ i, ¬ Ow ρ σ i a) : Wd K G ρ σ H (upd F a (.lst vs)) ∧ Same F (upd F a (.lst vs)) := by
  have ss := same_upd (o := HO.lst vs) h2
  refine ⟨⟨W.len, W.gl, fun b x e => ?_, W.f0.trans ss, W.kp, fun b h => ?_, W.it, fun i s h => ?_, W.ap, W.ai⟩, ss⟩
  · by_cases hb : b = a
    · subst hb; rw [upd_same] at e; cases e; exact h1
    · rw [upd_ne hb] at e; exact W.sub _ _ e
  · by_cases hb : b = a
    · subst hb; exact .inr h3
    · rw [upd_ne hb] at h; exact W.nw b h
  · have q := W.sl i s h
    cases s with
    | no => trivial
    | d x => obtain ⟨v, e, r⟩ := q; exact ⟨v, e, r.mono ss⟩
    | ow xs =>
      obtain ⟨c, us, e, p1, p2, p3, p4⟩ := q
      have nc : c ≠ a := fun z => h4 i ⟨⟨xs, .inl h⟩, by rw [← z]; exact e⟩
      exact ⟨c, us, e, p1, p2.mono ss, by rw [upd_ne nc]; exact p3, p4⟩
    | io xs =>
      obtain ⟨c, us, e, p1, p2, p3, p4⟩ := q
      have nc : c ≠ a := fun z => h4 i ⟨⟨xs, .inr h⟩, by rw [← z]; exact e⟩
      exact ⟨c, us, e, p1, p2.mono ss, by rw [upd_ne nc]; exact p3, p4⟩

/-- a new list is settled -/
theorem settle (W : Wd K G ρ σ H F) (s : Ste K G ρ σ H F ρ1 H1 F1) (h : VlR K G H ρ1 σ H1 F1 v r) : ∃ F2, Ste K G ρ σ H F ρ1 H1 F2 ∧ VlS K σ F2 v (stl r) ∧ Same F1 F2 := by
  cases r with
  | fz y => exact ⟨F1, s, h, Same.refl _⟩
  | bw i => exact ⟨F1, s, h, Same.refl _⟩
  | fr xs =>
    obtain ⟨a, vs, rfl, h1, h2, h3, h4, h5⟩ := h
    have h0 : G.H0 a = none := W.h0 h4
    obtain ⟨W', ss⟩ := s.wd.freeze_new h1 h3 h0 h5
    refine ⟨upd F1 a (.lst vs), ⟨W', s.ff.trans ss, s.kk, fun b q => ?_, s.oo, s.tr⟩, .lst upd_same (h2.mono ss), ss⟩
    by_cases hb : b = a
    · subst hb; exact .inr (.inl h4)
    · rw [upd_ne hb] at q; exact s.nf b q
/-- a settled value becomes a datum -/
theorem frz_ok {x : D} (W : Wd K G ρ σ H F) (h : VlS K σ F v r) (e : frz ρ r = some (x, ρ')) : ∃ F', Ste K G ρ σ H F ρ' H F' ∧ Rep K F' v x := by
  cases r with
  | fz y =>
    cases e
    exact ⟨F, Ste.refl W, h⟩
  | fr xs => exact h.elim
  | bw i =>
    have h : σ[i]? = some (some v) := h
    unfold frz at e
    cases q : ρ[i]? with
    | none => simp [q] at e
    | some s =>
      cases s with
      | no => simp [q] at e
      | d y => simp [q] at e
      | io xs => simp [q] at e
      | ow xs =>
        simp [q] at e
        obtain ⟨rfl, rfl⟩ := e
        obtain ⟨a, vs, e, h1, h2, h3, h4⟩ := W.sl i _ q
        rw [h] at e; cases e
        have ss := same_upd (o := HO.lst vs) h3
        have hi : i < ρ.length := (List.getElem?_eq_some_iff.mp q).1
        have old : ∀ j b, Ow (ρ.set i (.d (.lst xs))) σ j b → j ≠ i ∧ Ow ρ σ j b := fun j b o => by
          obtain ⟨⟨ys, o1⟩, o2⟩ := o
          have ne : j ≠ i := fun z => by
            subst z
            rw [List.getElem?_set_self hi] at o1
            rcases o1 with o1 | o1 <;> cases o1
          rw [List.getElem?_set_ne (Ne.symm ne)] at o1
          exact ⟨ne, ⟨ys, o1⟩, o2⟩
        have own : Ow ρ σ i a := ⟨⟨xs, .inl q⟩, h⟩
        refine ⟨upd F a (.lst vs), ⟨⟨by rw [List.length_set]; exact W.len, W.gl, fun b x e => ?_, W.f0.trans ss, W.kp, fun b z => ?_, W.it, fun j s z => ?_, fun j k b o1 o2 => W.ap j k b (old j b o1).2 (old k b o2).2, fun j b z => ?_⟩, ss, fun _ _ z _ => z, fun b z => ?_, fun j b o => (old j b o).2, fun _ z => z⟩, .lst upd_same (h2.mono ss)⟩
        · by_cases hb : b = a
          · subst hb; rw [upd_same] at e; cases e; exact h1
          · rw [upd_ne hb] at e; exact W.sub _ _ e
        · by_cases hb : b = a
          · subst hb; exact .inr h4
          · rw [upd_ne hb] at z; exact W.nw b z
        · by_cases ne : j = i
          · subst ne
            rw [List.getElem?_set_self hi] at z
            cases z
            exact ⟨.ref a, h, .lst upd_same (h2.mono ss)⟩
          · rw [List.getElem?_set_ne (Ne.symm ne)] at z
            have q2 := W.sl j s z
            cases s with
            | no => trivial
            | d x => obtain ⟨v, e, r⟩ := q2; exact ⟨v, e, r.mono ss⟩
            | ow ys =>
              obtain ⟨c, us, e, p1, p2, p3, p4⟩ := q2
              have nc : c ≠ a := fun zz => ne (W.ap j i a ⟨⟨ys, .inl z⟩, by rw [← zz]; exact e⟩ own)
              exact ⟨c, us, e, p1, p2.mono ss, by rw [upd_ne nc]; exact p3, p4⟩
            | io ys =>
              obtain ⟨c, us, e, p1, p2, p3, p4⟩ := q2
              have nc : c ≠ a := fun zz => ne (W.ap j i a ⟨⟨ys, .inr z⟩, by rw [← zz]; exact e⟩ own)
              exact ⟨c, us, e, p1, p2.mono ss, by rw [upd_ne nc]; exact p3, p4⟩
        · obtain ⟨⟨ys, z1⟩, z2⟩ := W.ai j b z
          have ne : j ≠ i := fun e => by rw [e, q] at z1; cases z1
          exact ⟨⟨ys, by rw [List.getElem?_set_ne (Ne.symm ne)]; exact z1⟩, z2⟩
        · by_cases hb : b = a
          · subst hb; exact .inr (.inr ⟨i, own⟩)
          · rw [upd_ne hb] at z; exact .inl z
end
end Sw
set_option Elab.async false
set_option linter.all false
set_option maxRecDepth 100000
set_option maxHeartbeats 4000000
namespace Sw
open PySem PySem.Spec PyProof.Rows L2

abbrev M (α : Type) := Rho → Option (α × Rho)

def tM (K : PySem.W.Frag) (m : M Vl) : TE := fun σ H Q => ∃ G ρ F r ρ', Wd K G ρ σ H F ∧ m ρ = some (r, ρ') ∧ ∀ v H' F', Ste K G ρ σ H F ρ' H' F' → VlR K G H ρ' σ H' F' v r → Q v H'
def tMT (K : PySem.W.Frag) (m : M Bool) : TT := fun σ H Q => ∃ G ρ F r ρ', Wd K G ρ σ H F ∧ m ρ = some (r, ρ') ∧ ∀ H' F', Ste K G ρ σ H F ρ' H' F' → Q r H'
def VlSs (K : PySem.W.Frag) (σ : L2.St) (F : Hp) : List V → List Vl → Prop
  | [], [] => True
  | v :: vs, r :: rs => VlS K σ F v r ∧ VlSs K σ F vs rs
  | _, _ => False
def tMA (K : PySem.W.Frag) (m : M (List Vl)) : TA := fun σ H Q => ∃ G ρ F r ρ', Wd K G ρ σ H F ∧ m ρ = some (r, ρ') ∧ ∀ vs H' F', Ste K G ρ σ H F ρ' H' F' → VlSs K σ F' vs r → Q vs H'
abbrev SE (X : Cx) (e : Expr) (m : M Vl) : Prop := PE X e (tM X.K m)
abbrev ST (X : Cx) (e : Expr) (m : M Bool) : Prop := PT X e (tMT X.K m)
abbrev SA (X : Cx) (es : List Expr) (m : M (List Vl)) : Prop := PA X es (tMA X.K m)

theorem VlSs.ste {K : PySem.W.Frag} {G : Gd} {ρ1 ρ2 : Rho} {σ : L2.St} {H1 H2 F1 F2 : Hp} (s : Ste K G ρ1 σ H1 F1 ρ2 H2 F2) : ∀ {vs : List V} {rs : List Vl}, VlSs K σ F1 vs rs → VlSs K σ F2 vs rs
  | [], [], _ => trivial
  | _ :: _, _ :: _, h => ⟨h.1.ste s, VlSs.ste s h.2⟩
  | [], _ :: _, h => h.elim
  | _ :: _, [], h => h.elim

theorem pe_weak {X : Cx} {e : Expr} {t t' : TE} (h : PE X e t) (w : ∀ σ H Q, t' σ H Q → t σ H Q) : PE X e t' := ⟨fun pins s σ H Q I q => h.run pins s σ H Q I (w _ _ _ q)⟩
theorem pt_weak {X : Cx} {e : Expr} {t t' : TT} (h : PT X e t) (w : ∀ σ H Q, t' σ H Q → t σ H Q) : PT X e t' := ⟨fun pins s σ H Q I q => h.run pins s σ H Q I (w _ _ _ q)⟩
theorem pw_weak {X : Cx} {e : Expr} {t t' : TT} (h : PW X e t) (w : ∀ σ H Q, t' σ H Q → t σ H Q) : PW X e t' := ⟨fun wh pins s σ H Q I q => h.run wh pins s σ H Q I (w _ _ _ q)⟩
theorem pa_weak {X : Cx} {es : List Expr} {t t' : TA} (h : PA X es t) (w : ∀ σ H Q, t' σ H Q → t σ H Q) : PA X es t' := ⟨fun pos pins s σ H Q I q => h.run pos pins s σ H Q I (w _ _ _ q)⟩

section
variable {K : PySem.W.Frag} {G : Gd} {ρ ρ1 : Rho} {σ : L2.St} {H F : Hp} {r : Vl}
theorem tm_use {m : M Vl} {Q : VK} (W : Wd K G ρ σ H F) (h : m ρ = some (r, ρ1)) (q : ∀ v H1 F1, Ste K G ρ σ H F ρ1 H1 F1 → VlS K σ F1 v (stl r) → Q v H1) : tM K m σ H Q :=
  ⟨G, ρ, F, r, ρ1, W, h, fun v H1 F1 s R => let ⟨F2, s2, R2, _⟩ := settle W s R; q v H1 F2 s2 R2⟩
theorem tmt_use {m : M Bool} {b : Bool} {Q : Bool → Hp → Prop} (W : Wd K G ρ σ H F) (h : m ρ = some (b, ρ1)) (q : ∀ H1 F1, Ste K G ρ σ H F ρ1 H1 F1 → Q b H1) : tMT K m σ H Q :=
  ⟨G, ρ, F, b, ρ1, W, h, q⟩
end

/-! ### names, constants -/
def eVar (i : Nat) : M Vl := fun ρ => match ρ[i]? with
  | some (.d x) => some (.fz x, ρ)
  | some (.ow _) => some (.bw i, ρ)
  | some (.io _) => some (.bw i, ρ)
  | _ => none
def eC (x : D) : M Vl := fun ρ => some (.fz x, ρ)

section
variable {X : Cx}
theorem se_var {i : Nat} {e : Expr} (h : PE X e (tVar i)) : SE X e (eVar i) := by
  refine pe_weak h fun σ H Q ⟨G, ρ, F, r, ρ', W, hm, q⟩ => ?_
  unfold eVar at hm
  cases e : ρ[i]? with
  | none => simp [e] at hm
  | some s =>
    have sl := W.sl i s e
    cases s with
    | no => simp [e] at hm
    | d x =>
      simp [e] at hm
      obtain ⟨rfl, rfl⟩ := hm
      obtain ⟨v, h1, h2⟩ := sl
      exact ⟨v, h1, q v H F (Ste.refl W) h2⟩
    | ow xs =>
      simp [e] at hm
      obtain ⟨rfl, rfl⟩ := hm
      obtain ⟨a, vs, h1, _⟩ := sl
      exact ⟨.ref a, h1, q _ H F (Ste.refl W) h1⟩
    | io xs =>
      simp [e] at hm
      obtain ⟨rfl, rfl⟩ := hm
      obtain ⟨a, vs, h1, _⟩ := sl
      exact ⟨.ref a, h1, q _ H F (Ste.refl W) h1⟩
theorem se_con {e : Expr} {v : V} {x : D} (h : PE X e (tC v)) (r : ∀ F, Rep X.K F v x) : SE X e (eC x) := by
  refine pe_weak h fun σ H Q ⟨G, ρ, F, r', ρ', W, hm, q⟩ => ?_
  cases hm
  exact q v H F (Ste.refl W) (r F)
theorem se_int {i : Int} {j pos} : SE X (.Constant (.int i) j pos) (eC (.int i)) := se_con pe_int fun _ => .int i
theorem se_bl {b : Bool} {j pos} : SE X (.Constant (.bool b) j pos) (eC (.bl b)) := se_con pe_bl fun _ => .bl b
theorem se_non {j pos} : SE X (.Constant .none j pos) (eC .non) := se_con pe_non fun _ => .non
theorem str_cps (x : Str) : (⟨x.cps.toList.toArray⟩ : Str) = x := by cases x; simp
theorem rep_str {K : PySem.W.Frag} {F : Hp} (x : Str) : Rep K F (.str x) (.str x.cps.toList) := by
  have h := Rep.str (K := K) (F := F) x.cps.toList
  rw [str_cps] at h
  exact h
/-- a written text: cs its codes -/
theorem se_str {x : Str} {cs : List Nat} {j pos} (h : x.cps.toList = cs) : SE X (.Constant (.str x) j pos) (eC (.str cs)) := se_con pe_str fun _ => h ▸ rep_str x
theorem se_glob {x : Str} {v : V} {u : Value} {pos : Pos} {d : D} (hm : X.mg x = some u) (r : RelV v u) (hr : ∀ F, Rep X.K F v d) (hg : Gl X x) (hd : (x == ("__debug__" : Str)) = false := by decide) : SE X (.Name x pos) (eC d) := se_con (pe_glob hg hm r hd) hr
end

/-! ### two-place operations -/
def eBin (f : D → D → Option D) (a b : M Vl) : M Vl := fun ρ => (a ρ).bind fun p => (b p.2).bind fun q => (look q.2 (stl p.1)).bind fun x => (look q.2 (stl q.1)).bind fun y => (f x y).bind fun z => some (.fz z, q.2)
def OpS (K : PySem.W.Frag) (r : R2) (f : D → D → Option D) : Prop :=
  ∀ (H F : Hp) (v u : V) (x y z : D), Same F H → Vw K H F v x → Vw K H F u y → f x y = some z → ∀ Q : VK, (∀ w H' F', Alc F H F' H' → Rep K F' w z → Q w H') → r v u H Q
def orF (f g : D → D → Option D) : D → D → Option D := fun x y => match f x y with
  | some z => some z
  | none => g x y
theorem OpS.or {K : PySem.W.Frag} {r r' : R2} {f g : D → D → Option D} (h : OpS K r f) (h' : OpS K r' g) : OpS K (fun x y H Q => r x y H Q ∨ r' x y H Q) (orF f g) := by
  intro H F v u x y z s hx hy e Q q
  unfold orF at e
  cases e1 : f x y with
  | some w =>
    simp [e1] at e; subst e
    exact .inl (h H F v u x y w s hx hy e1 Q q)
  | none =>
    simp [e1] at e
    exact .inr (h' H F v u x y z s hx hy e Q q)
theorem top_of {K : PySem.W.Frag} {r : R2} {f : D → D → Option D} {a b : M Vl} (hf : OpS K r f) {σ : L2.St} {H : Hp} {Q : VK} (h : tM K (eBin f a b) σ H Q) : tOp r (tM K a) (tM K b) σ H Q := by
  obtain ⟨G, ρ, F, r0, ρ', W, hm, q⟩ := h
  unfold eBin at hm
  obtain ⟨⟨x, ρ1⟩, e1, hm⟩ := Option.bind_eq_some_iff.mp hm
  obtain ⟨⟨y, ρ2⟩, e2, hm⟩ := Option.bind_eq_some_iff.mp hm
  obtain ⟨dx, e3, hm⟩ := Option.bind_eq_some_iff.mp hm
  obtain ⟨dy, e4, hm⟩ := Option.bind_eq_some_iff.mp hm
  obtain ⟨dz, e5, hm⟩ := Option.bind_eq_some_iff.mp hm
  cases hm
  refine tm_use W e1 fun v H1 F1 s1 R1 => ?_
  refine tm_use s1.wd e2 fun u H2 F2 s2 R2 => ?_
  have V1 := vw_of s2.wd (R1.ste s2) e3
  have V2 := vw_of s2.wd R2 e4
  refine hf H2 F2 v u dx dy dz s2.wd.sub V1 V2 e5 Q fun w H' F' A R => ?_
  exact q w H' F' ((s1.trans s2).trans (s2.wd.alc A)) R

section
variable {X : Cx} {a b : Expr} {ma mb : M Vl} {pos : Pos}
theorem se_bin {op : Operator} {r : R2} {f : D → D → Option D} (ho : OpR X (binaryOp op) r) (hf : OpS X.K r f) (ha : SE X a ma) (hb : SE X b mb) : SE X (.BinOp a op b pos) (eBin f ma mb) :=
  pe_weak (pe_op ho ha hb) fun _ _ _ h => top_of hf h
theorem se_cmp {op : CmpOp} {r : R2} {f : D → D → Option D} (ho : OpR X (compareOp op) r) (hf : OpS X.K r f) (ha : SE X a ma) (hb : SE X b mb) (hm : behindInMarks op b = false) : SE X (.Compare a [op] [b] pos) (eBin f ma mb) :=
  pe_weak (pe_cmpR ho ha hb hm) fun _ _ _ h => top_of hf h
theorem se_ixr {r : R2} {f : D → D → Option D} (ho : IxR X r) (hf : OpS X.K r f) (ha : SE X a ma) (hb : SE X b mb) (hs : PlainIx b) : SE X (.Subscript a b pos) (eBin f ma mb) :=
  pe_weak (pe_ix ho ha hb hs) fun _ _ _ h => top_of hf h
end

/-! ### one-place operations -/
def eUn (f : D → Option D) (a : M Vl) : M Vl := fun ρ => (a ρ).bind fun p => (look p.2 (stl p.1)).bind fun x => (f x).bind fun z => some (.fz z, p.2)
def UnS (K : PySem.W.Frag) (r : V → Hp → VK → Prop) (f : D → Option D) : Prop :=
  ∀ (H F : Hp) (v : V) (x z : D), Same F H → Vw K H F v x → f x = some z → ∀ Q : VK, (∀ w H' F', Alc F H F' H' → Rep K F' w z → Q w H') → r v H Q
theorem tun_of {K : PySem.W.Frag} {r : V → Hp → VK → Prop} {f : D → Option D} {a : M Vl} (hf : UnS K r f) {σ : L2.St} {H : Hp} {Q : VK} (h : tM K (eUn f a) σ H Q) : tUn r (tM K a) σ H Q := by
  obtain ⟨G, ρ, F, r0, ρ', W, hm, q⟩ := h
  unfold eUn at hm
  obtain ⟨⟨x, ρ1⟩, e1, hm⟩ := Option.bind_eq_some_iff.mp hm
  obtain ⟨dx, e3, hm⟩ := Option.bind_eq_some_iff.mp hm
  obtain ⟨dz, e5, hm⟩ := Option.bind_eq_some_iff.mp hm
  cases hm
  refine tm_use W e1 fun v H1 F1 s1 R1 => ?_
  refine hf H1 F1 v dx dz s1.wd.sub (vw_of s1.wd R1 e3) e5 Q fun w H' F' A R => ?_
  exact q w H' F' (s1.trans (s1.wd.alc A)) R
theorem se_un {X : Cx} {a : Expr} {ma : M Vl} {pos : Pos} {op : UnaryOp} {r : V → Hp → VK → Prop} {f : D → Option D} (ho : UnR X (unaryOp op) r) (hf : UnS X.K r f) (ha : SE X a ma) : SE X (.UnaryOp op a pos) (eUn f ma) :=
  pe_weak (pe_un ho ha) fun _ _ _ h => tun_of hf h

/-! ### tests -/
/-- an expression that gives a bool -/
def tE (a : M Vl) : M Bool := fun ρ => (a ρ).bind fun p => match p.1 with
  | .fz (.bl b) => some (b, p.2)
  | _ => none
theorem tb_of {K : PySem.W.Frag} {a : M Vl} {σ : L2.St} {H : Hp} {Q : Bool → Hp → Prop} (h : tMT K (tE a) σ H Q) : tM K a σ H (fun x H1 => ∃ c, x = .bl c ∧ Q c H1) := by
  obtain ⟨G, ρ, F, b, ρ', W, hm, q⟩ := h
  unfold tE at hm
  obtain ⟨⟨x, ρ1⟩, e1, hm⟩ := Option.bind_eq_some_iff.mp hm
  refine tm_use W e1 fun v H1 F1 s1 R1 => ?_
  split at hm
  · rename_i c hc
    cases hm
    dsimp only at hc
    subst hc
    cases (show Rep K F1 v (.bl b) from R1)
    exact ⟨b, rfl, q H1 F1 s1⟩
  · cases hm
section
variable {X : Cx} {a b c : Expr} {ma mb : M Vl} {m1 m2 : M Bool} {pos : Pos} {rest : List Expr}
theorem st_val (ha : SE X a ma) (he : ∀ whole, isTrue a X.env whole = (do let v ← whole; standAt a.pos; holding [v] (truthy v))) : ST X a (tE ma) :=
  pt_weak (pt_val ha he) fun _ _ _ h => tb_of h
theorem st_cmp {op : CmpOp} {r : R2} {f : D → D → Option D} (ho : OpR X (compareOp op) r) (hf : OpS X.K r f) (ha : SE X a ma) (hb : SE X b mb) (hm : behindInMarks op b = false) : ST X (.Compare a [op] [b] pos) (tE (eBin f ma mb)) :=
  pt_weak (pt_cmpR ho ha hb hm) fun _ _ _ h => top_of hf (tb_of h)
def tAnd (a b : M Bool) : M Bool := fun ρ => (a ρ).bind fun p => if p.1 = true then b p.2 else some (false, p.2)
def tOr (a b : M Bool) : M Bool := fun ρ => (a ρ).bind fun p => if p.1 = true then some (true, p.2) else b p.2
def tNot (a : M Bool) : M Bool := fun ρ => (a ρ).bind fun p => some (!p.1, p.2)
abbrev SW (X : Cx) (e : Expr) (m : M Bool) : Prop := PW X e (tMT X.K m)
theorem sw_and1 (h : ST X a m1) : SW X (.BoolOp .And [a] pos) m1 := pw_and1 h
theorem sw_or1 (h : ST X a m1) : SW X (.BoolOp .Or [a] pos) m1 := pw_or1 h
theorem tand_of {K : PySem.W.Frag} {σ : L2.St} {H : Hp} {Q : Bool → Hp → Prop} (h : tMT K (tAnd m1 m2) σ H Q) : L2.tAnd (tMT K m1) (tMT K m2) σ H Q := by
  obtain ⟨G, ρ, F, b, ρ', W, hm, q⟩ := h
  unfold tAnd at hm
  obtain ⟨⟨x, ρ1⟩, e1, hm⟩ := Option.bind_eq_some_iff.mp hm
  refine tmt_use W e1 fun H1 F1 s1 => ?_
  cases x with
  | true =>
    simp only [if_true] at hm ⊢
    exact ⟨G, ρ1, F1, b, ρ', s1.wd, hm, fun H2 F2 s2 => q H2 F2 (s1.trans s2)⟩
  | false =>
    simp at hm ⊢
    obtain ⟨rfl, rfl⟩ := hm
    exact q H1 F1 s1
theorem tor_of {K : PySem.W.Frag} {σ : L2.St} {H : Hp} {Q : Bool → Hp → Prop} (h : tMT K (tOr m1 m2) σ H Q) : L2.tOr (tMT K m1) (tMT K m2) σ H Q := by
  obtain ⟨G, ρ, F, b, ρ', W, hm, q⟩ := h
  unfold tOr at hm
  obtain ⟨⟨x, ρ1⟩, e1, hm⟩ := Option.bind_eq_some_iff.mp hm
  refine tmt_use W e1 fun H1 F1 s1 => ?_
  cases x with
  | true =>
    simp at hm ⊢
    obtain ⟨rfl, rfl⟩ := hm
    exact q H1 F1 s1
  | false =>
    simp at hm ⊢
    exact ⟨G, ρ1, F1, b, ρ', s1.wd, hm, fun H2 F2 s2 => q H2 F2 (s1.trans s2)⟩
theorem sw_and (ha : ST X a m1) (hb : SW X (.BoolOp .And (b :: rest) pos) m2) : SW X (.BoolOp .And (a :: b :: rest) pos) (tAnd m1 m2) := pw_weak (pw_and ha hb) fun _ _ _ h => tand_of h
theorem sw_or (ha : ST X a m1) (hb : SW X (.BoolOp .Or (b :: rest) pos) m2) : SW X (.BoolOp .Or (a :: b :: rest) pos) (tOr m1 m2) := pw_weak (pw_or ha hb) fun _ _ _ h => tor_of h
theorem st_bool {e : Expr} (h : SW X e m1) : ST X e m1 := h.pt
theorem st_not (ha : ST X a m1) : ST X (.UnaryOp .Not a pos) (tNot m1) := pt_weak (pt_not ha) fun σ H Q ⟨G, ρ, F, b, ρ', W, hm, q⟩ => by
  unfold tNot at hm
  obtain ⟨⟨x, ρ1⟩, e1, hm⟩ := Option.bind_eq_some_iff.mp hm
  cases hm
  exact tmt_use W e1 fun H1 F1 s1 => q H1 F1 s1
/-- and, or, not of bools as values -/
def eAnd (a b : M Vl) : M Vl := fun ρ => (a ρ).bind fun p => match p.1 with
  | .fz (.bl true) => b p.2
  | .fz (.bl false) => some (.fz (.bl false), p.2)
  | _ => none
def eOr (a b : M Vl) : M Vl := fun ρ => (a ρ).bind fun p => match p.1 with
  | .fz (.bl false) => b p.2
  | .fz (.bl true) => some (.fz (.bl true), p.2)
  | _ => none
def eNot (a : M Vl) : M Vl := fun ρ => (a ρ).bind fun p => match p.1 with
  | .fz (.bl b) => some (.fz (.bl (!b)), p.2)
  | _ => none
def eIf (t : M Bool) (a b : M Vl) : M Vl := fun ρ => (t ρ).bind fun p => if p.1 = true then a p.2 else b p.2
theorem VlR.pre {K : PySem.W.Frag} {G : Gd} {P P' : Hp} {ρ : Rho} {σ : L2.St} {H F : Hp} {v : V} {r : Vl} (h : VlR K G P ρ σ H F v r) (e : ∀ a, P a = none → P' a = none) : VlR K G P' ρ σ H F v r := by
  cases r with
  | fz x => exact h
  | bw i => exact h
  | fr xs =>
    obtain ⟨a, vs, e1, h1, h2, h3, h4, h5⟩ := h
    exact ⟨a, vs, e1, h1, h2, h3, e a h4, h5⟩
theorem Ste.back {K : PySem.W.Frag} {G : Gd} {ρ ρ1 : Rho} {σ : L2.St} {H H1 F F1 : Hp} (s : Ste K G ρ σ H F ρ1 H1 F1) : ∀ a, H1 a = none → H a = none := fun a h => by
  cases e : H a with
  | none => rfl
  | some o => exact absurd h (s.tr a (by rw [e]; simp))
/-- the last part's own result -/
theorem tm_last {K : PySem.W.Frag} {G : Gd} {ρ ρ1 ρ2 : Rho} {σ : L2.St} {H H1 F F1 : Hp} {r : Vl} {m : M Vl} {Q : VK} (s : Ste K G ρ σ H F ρ1 H1 F1) (h : m ρ1 = some (r, ρ2)) (q : ∀ v H' F', Ste K G ρ σ H F ρ2 H' F' → VlR K G H ρ2 σ H' F' v r → Q v H') : tM K m σ H1 Q :=
  ⟨G, ρ1, F1, r, ρ2, s.wd, h, fun v H2 F2 s2 R => q v H2 F2 (s.trans s2) (R.pre s.back)⟩
theorem se_one {op} (h : SE X a ma) : SE X (.BoolOp op [a] pos) ma := pe_one h
theorem se_and (ha : SE X a ma) (hb : SE X (.BoolOp .And (b :: rest) pos) mb) : SE X (.BoolOp .And (a :: b :: rest) pos) (eAnd ma mb) := by
  refine pe_weak (pe_and ha hb) fun σ H Q ⟨G, ρ, F, r, ρ', W, hm, q⟩ => ?_
  unfold eAnd at hm
  obtain ⟨⟨x, ρ1⟩, e1, hm⟩ := Option.bind_eq_some_iff.mp hm
  refine tm_use W e1 fun v H1 F1 s1 R1 => ?_
  split at hm
  · rename_i hc; dsimp only at hc; subst hc
    cases (show Rep X.K F1 v (.bl true) from R1)
    exact ⟨true, rfl, tm_last s1 hm q⟩
  · rename_i hc; dsimp only at hc; subst hc
    cases (show Rep X.K F1 v (.bl false) from R1)
    cases hm
    exact ⟨false, rfl, q _ _ F1 s1 (.bl false)⟩
  · cases hm
theorem se_or (ha : SE X a ma) (hb : SE X (.BoolOp .Or (b :: rest) pos) mb) : SE X (.BoolOp .Or (a :: b :: rest) pos) (eOr ma mb) := by
  refine pe_weak (pe_or ha hb) fun σ H Q ⟨G, ρ, F, r, ρ', W, hm, q⟩ => ?_
  unfold eOr at hm
  obtain ⟨⟨x, ρ1⟩, e1, hm⟩ := Option.bind_eq_some_iff.mp hm
  refine tm_use W e1 fun v H1 F1 s1 R1 => ?_
  split at hm
  · rename_i hc; dsimp only at hc; subst hc
    cases (show Rep X.K F1 v (.bl false) from R1)
    exact ⟨false, rfl, tm_last s1 hm q⟩
  · rename_i hc; dsimp only at hc; subst hc
    cases (show Rep X.K F1 v (.bl true) from R1)
    cases hm
    exact ⟨true, rfl, q _ _ F1 s1 (.bl true)⟩
  · cases hm
theorem se_not (ha : SE X a ma) : SE X (.UnaryOp .Not a pos) (eNot ma) := by
  refine pe_weak (pe_not ha) fun σ H Q ⟨G, ρ, F, r, ρ', W, hm, q⟩ => ?_
  unfold eNot at hm
  obtain ⟨⟨x, ρ1⟩, e1, hm⟩ := Option.bind_eq_some_iff.mp hm
  refine tm_use W e1 fun v H1 F1 s1 R1 => ?_
  split at hm
  · rename_i c hc; dsimp only at hc; subst hc
    cases (show Rep X.K F1 v (.bl c) from R1)
    cases hm
    exact ⟨c, rfl, q _ _ F1 s1 (.bl _)⟩
  · cases hm
theorem se_if (hc : ST X c m1) (ha : SE X a ma) (hb : SE X b mb) : SE X (.IfExp c a b pos) (eIf m1 ma mb) := by
  refine pe_weak (pe_ifExp hc ha hb) fun σ H Q ⟨G, ρ, F, r, ρ', W, hm, q⟩ => ?_
  unfold eIf at hm
  obtain ⟨⟨x, ρ1⟩, e1, hm⟩ := Option.bind_eq_some_iff.mp hm
  refine tmt_use W e1 fun H1 F1 s1 => ?_
  cases x with
  | true => simp only [if_true] at hm ⊢; exact tm_last s1 hm q
  | false => simp at hm ⊢; exact tm_last s1 hm q
/-- a < b < c -/
def eChain (f g : D → D → Option D) (a b c : M Vl) : M Vl := fun ρ => (a ρ).bind fun p => (b p.2).bind fun q => (look q.2 (stl p.1)).bind fun x => (look q.2 (stl q.1)).bind fun y => (f x y).bind fun z => match z with
  | .bl true => (c q.2).bind fun p3 => (look p3.2 (stl q.1)).bind fun y2 => (look p3.2 (stl p3.1)).bind fun w => (g y2 w).bind fun z2 => some (.fz z2, p3.2)
  | .bl false => some (.fz (.bl false), q.2)
  | _ => none
end

/-! ### argument lists -/
def aNil : M (List Vl) := fun ρ => some ([], ρ)
def aCons (a : M Vl) (r : M (List Vl)) : M (List Vl) := fun ρ => (a ρ).bind fun p => (r p.2).bind fun q => some (stl p.1 :: q.1, q.2)
theorem sa_nil {X : Cx} : SA X [] aNil := pa_weak pa_nil fun σ H Q ⟨G, ρ, F, r, ρ', W, hm, q⟩ => by
  cases hm
  exact q [] H F (Ste.refl W) trivial
theorem sa_cons {X : Cx} {e : Expr} {es : List Expr} {me : M Vl} {mr : M (List Vl)} (he : SE X e me) (hr : SA X es mr) (hs : starEach (e :: es) X.env = (false, eval e X.env) :: starEach es X.env := by rfl) : SA X (e :: es) (aCons me mr) := by
  refine pa_weak (pa_cons he hr hs) fun σ H Q ⟨G, ρ, F, r, ρ', W, hm, q⟩ => ?_
  unfold aCons at hm
  obtain ⟨⟨x, ρ1⟩, e1, hm⟩ := Option.bind_eq_some_iff.mp hm
  obtain ⟨⟨y, ρ2⟩, e2, hm⟩ := Option.bind_eq_some_iff.mp hm
  cases hm
  refine tm_use W e1 fun v H1 F1 s1 R1 => ?_
  exact ⟨G, ρ1, F1, y, ρ2, s1.wd, e2, fun vs H2 F2 s2 R2 => q (v :: vs) H2 F2 (s1.trans s2) ⟨R1.ste s2, R2⟩⟩

/-- all become data -/
def frzs (ρ : Rho) : List Vl → Option (List D × Rho)
  | [] => some ([], ρ)
  | r :: rs => (frz ρ r).bind fun p => (frzs p.2 rs).bind fun q => some (p.1 :: q.1, q.2)
theorem frzs_ok {K : PySem.W.Frag} {G : Gd} {σ : L2.St} {H : Hp} : ∀ {rs : List Vl} {vs : List V} {xs : List D} {ρ ρ' : Rho} {F : Hp}, Wd K G ρ σ H F → VlSs K σ F vs rs → frzs ρ rs = some (xs, ρ') → ∃ F', Ste K G ρ σ H F ρ' H F' ∧ Reps K F' vs xs
  | [], [], xs, ρ, ρ', F, W, _, e => by
    cases e
    exact ⟨F, Ste.refl W, .nil⟩
  | [], _ :: _, _, _, _, _, _, h, _ => h.elim
  | _ :: _, [], _, _, _, _, _, h, _ => h.elim
  | r :: rs, v :: vs, xs, ρ, ρ', F, W, h, e => by
    unfold frzs at e
    obtain ⟨⟨x, ρ1⟩, e1, e⟩ := Option.bind_eq_some_iff.mp e
    obtain ⟨⟨ys, ρ2⟩, e2, e⟩ := Option.bind_eq_some_iff.mp e
    cases e
    obtain ⟨F1, s1, R1⟩ := frz_ok W h.1 e1
    obtain ⟨F2, s2, R2⟩ := frzs_ok s1.wd (h.2.ste s1) e2
    exact ⟨F2, s1.trans s2, .cons (R1.mono s2.ff) R2⟩

abbrev lim : Nat := 16777216
theorem lim_of {n : Nat} (h : n ≤ lim) : n ≤ sizeLine := by rw [sizeLine_eq]; exact h
theorem lim_lt {n : Nat} (h : n < lim) : n < sizeLine := by rw [sizeLine_eq]; exact h
/-- (a, b, ..) -/
def eTup (a : M (List Vl)) : M Vl := fun ρ => (a ρ).bind fun p => (frzs p.2 p.1).bind fun q => if q.1.length ≤ lim then some (.fz (.tup q.1), q.2) else none
def eLst (a : M (List Vl)) : M Vl := fun ρ => (a ρ).bind fun p => (frzs p.2 p.1).bind fun q => if q.1.length ≤ lim then some (.fr q.1, q.2) else none
section
variable {X : Cx} {es : List Expr} {ma : M (List Vl)} {pos : Pos}
theorem se_tup {x1} (h : SA X es ma) : SE X (.Tuple es x1 pos) (eTup ma) := by
  refine pe_weak (pe_tup h) fun σ H Q ⟨G, ρ, F, r, ρ', W, hm, q⟩ => ?_
  unfold eTup at hm
  obtain ⟨⟨x, ρ1⟩, e1, hm⟩ := Option.bind_eq_some_iff.mp hm
  obtain ⟨⟨ys, ρ2⟩, e2, hm⟩ := Option.bind_eq_some_iff.mp hm
  split at hm
  · rename_i hl
    cases hm
    refine ⟨G, ρ, F, x, ρ1, W, e1, fun vs H1 F1 s1 R1 => ?_⟩
    obtain ⟨F2, s2, R2⟩ := frzs_ok s1.wd R1 e2
    refine ⟨lim_of (by rw [R2.len]; exact hl), fun p hp => ?_⟩
    have A := Alc.new (o := HO.tup vs) s2.wd.sub hp
    exact q _ _ _ ((s1.trans s2).trans (s2.wd.alc A)) (Rep.tup (SqT.of upd_same) (R2.mono A.ff))
  · cases hm
theorem se_lst (h : SA X es ma) : SE X (.List es pos) (eLst ma) := by
  refine pe_weak (pe_lst h) fun σ H Q ⟨G, ρ, F, r, ρ', W, hm, q⟩ => ?_
  unfold eLst at hm
  obtain ⟨⟨x, ρ1⟩, e1, hm⟩ := Option.bind_eq_some_iff.mp hm
  obtain ⟨⟨ys, ρ2⟩, e2, hm⟩ := Option.bind_eq_some_iff.mp hm
  split at hm
  · rename_i hl
    cases hm
    refine ⟨G, ρ, F, x, ρ1, W, e1, fun vs H1 F1 s1 R1 => ?_⟩
    obtain ⟨F2, s2, R2⟩ := frzs_ok s1.wd R1 e2
    refine ⟨lim_of (by rw [R2.len]; exact hl), fun p hp => ?_⟩
    have s3 := s1.trans s2
    have A : Alc F2 H1 F2 (upd H1 p (.lst vs)) := ⟨Same.refl _, s2.wd.sub.trans (same_upd hp), same_upd hp, fun _ h => .inl h⟩
    refine q _ _ _ (s3.trans (s2.wd.alc A)) ⟨p, vs, rfl, upd_same, R2, s2.wd.sub.free hp, s3.back p hp, fun i o => ?_⟩
    obtain ⟨_, z, _⟩ := s3.wd.ow_there o
    rw [hp] at z; cases z
  · cases hm
end

/-! ### calls of built-ins -/
def looks (ρ : Rho) : List Vl → Option (List D)
  | [] => some []
  | r :: rs => (look ρ r).bind fun x => (looks ρ rs).bind fun xs => some (x :: xs)
def Vws (K : PySem.W.Frag) (H F : Hp) : List V → List D → Prop
  | [], [] => True
  | v :: vs, x :: xs => Vw K H F v x ∧ Vws K H F vs xs
  | _, _ => False
theorem vws_of {K : PySem.W.Frag} {G : Gd} {ρ : Rho} {σ : L2.St} {H F : Hp} (W : Wd K G ρ σ H F) : ∀ {vs : List V} {rs : List Vl} {xs : List D}, VlSs K σ F vs rs → looks ρ rs = some xs → Vws K H F vs xs
  | [], [], xs, _, e => by cases e; trivial
  | [], _ :: _, _, h, _ => h.elim
  | _ :: _, [], _, h, _ => h.elim
  | v :: vs, r :: rs, xs, h, e => by
    unfold looks at e
    obtain ⟨x, e1, e⟩ := Option.bind_eq_some_iff.mp e
    obtain ⟨ys, e2, e⟩ := Option.bind_eq_some_iff.mp e
    cases e
    exact ⟨vw_of W h.1 e1, vws_of W h.2 e2⟩
/-- f(a, ..) of a built-in f -/
def eBlt (f : List D → Option D) (a : M (List Vl)) : M Vl := fun ρ => (a ρ).bind fun p => (looks p.2 p.1).bind fun xs => (f xs).bind fun z => some (.fz z, p.2)
def CallS (K : PySem.W.Frag) (r : List V → Hp → VK → Prop) (f : List D → Option D) : Prop :=
  ∀ (H F : Hp) (vs : List V) (xs : List D) (z : D), Same F H → Vws K H F vs xs → f xs = some z → ∀ Q : VK, (∀ w H' F', Alc F H F' H' → Rep K F' w z → Q w H') → r vs H Q
theorem tcb_of {K : PySem.W.Frag} {r : List V → Hp → VK → Prop} {f : List D → Option D} {a : M (List Vl)} (hf : CallS K r f) {σ : L2.St} {H : Hp} {Q : VK} (h : tM K (eBlt f a) σ H Q) : tMA K a σ H fun vs H1 => r vs H1 Q := by
  obtain ⟨G, ρ, F, r0, ρ', W, hm, q⟩ := h
  unfold eBlt at hm
  obtain ⟨⟨x, ρ1⟩, e1, hm⟩ := Option.bind_eq_some_iff.mp hm
  obtain ⟨xs, e2, hm⟩ := Option.bind_eq_some_iff.mp hm
  obtain ⟨z, e3, hm⟩ := Option.bind_eq_some_iff.mp hm
  cases hm
  refine ⟨G, ρ, F, x, ρ1, W, e1, fun vs H1 F1 s1 R1 => ?_⟩
  refine hf H1 F1 vs xs z s1.wd.sub (vws_of s1.wd R1 e2) e3 Q fun w H' F' A R => ?_
  exact q w H' F' (s1.trans (s1.wd.alc A)) R
end Sw
set_option Elab.async false
set_option linter.all false
set_option maxRecDepth 100000
set_option maxHeartbeats 4000000
namespace Sw
open PySem PySem.Spec PyProof.Rows L2

section
variable {X : Cx} {a b c e : Expr} {ma mb mc me : M Vl} {pos : Pos}
theorem tchain_of {K : PySem.W.Frag} {r r' : R2} {f g : D → D → Option D} (hf : OpS K r f) (hg : OpS K r' g) {σ : L2.St} {H : Hp} {Q : VK} (h : tM K (eChain f g ma mb mc) σ H Q) : tChain r r' (tM K ma) (tM K mb) (tM K mc) σ H Q := by
  obtain ⟨G, ρ, F, r0, ρ', W, hm, q⟩ := h
  unfold eChain at hm
  obtain ⟨⟨x, ρ1⟩, e1, hm⟩ := Option.bind_eq_some_iff.mp hm
  obtain ⟨⟨y, ρ2⟩, e2, hm⟩ := Option.bind_eq_some_iff.mp hm
  obtain ⟨dx, e3, hm⟩ := Option.bind_eq_some_iff.mp hm
  obtain ⟨dy, e4, hm⟩ := Option.bind_eq_some_iff.mp hm
  obtain ⟨dz, e5, hm⟩ := Option.bind_eq_some_iff.mp hm
  refine tm_use W e1 fun v H1 F1 s1 R1 => ?_
  refine tm_use s1.wd e2 fun u H2 F2 s2 R2 => ?_
  have s12 := s1.trans s2
  refine hf H2 F2 v u dx dy dz s2.wd.sub (vw_of s2.wd (R1.ste s2) e3) (vw_of s2.wd R2 e4) e5 _ fun w H3 F3 A R => ?_
  have s3 := s2.wd.alc A
  have s13 := s12.trans s3
  split at hm
  · cases R
    refine ⟨true, rfl, ?_⟩
    simp only [if_true]
    obtain ⟨⟨z, ρ3⟩, e6, hm⟩ := Option.bind_eq_some_iff.mp hm
    obtain ⟨dy2, e7, hm⟩ := Option.bind_eq_some_iff.mp hm
    obtain ⟨dw, e8, hm⟩ := Option.bind_eq_some_iff.mp hm
    obtain ⟨dz2, e9, hm⟩ := Option.bind_eq_some_iff.mp hm
    cases hm
    refine tm_use s3.wd e6 fun w' H4 F4 s4 R4 => ?_
    refine hg H4 F4 u w' dy2 dw dz2 s4.wd.sub (vw_of s4.wd ((R2.ste s3).ste s4) e7) (vw_of s4.wd R4 e8) e9 _ fun z' H5 F5 A5 R5 => ?_
    exact q z' H5 F5 ((s13.trans s4).trans (s4.wd.alc A5)) R5
  · cases R
    cases hm
    refine ⟨false, rfl, ?_⟩
    simp
    exact q _ _ F3 s13 (.bl false)
  · cases hm
theorem se_chain {op op' : CmpOp} {r r' : R2} {f g : D → D → Option D} (ho : OpR X (compareOp op) r) (ho' : OpR X (compareOp op') r') (hf : OpS X.K r f) (hg : OpS X.K r' g) (ha : SE X a ma) (hb : SE X b mb) (hc : SE X c mc)
    (hm : lastMarks [op, op'] [b, c] = false) : SE X (.Compare a [op, op'] [b, c] pos) (eChain f g ma mb mc) := pe_weak (pe_chain ho ho' ha hb hc hm) fun _ _ _ h => tchain_of hf hg h
theorem st_chain {op op' : CmpOp} {r r' : R2} {f g : D → D → Option D} (ho : OpR X (compareOp op) r) (ho' : OpR X (compareOp op') r') (hf : OpS X.K r f) (hg : OpS X.K r' g) (ha : SE X a ma) (hb : SE X b mb) (hc : SE X c mc)
    (hm : lastMarks [op, op'] [b, c] = false) : ST X (.Compare a [op, op'] [b, c] pos) (tE (eChain f g ma mb mc)) := pt_weak (pt_chain ho ho' ha hb hc hm) fun _ _ _ h => tchain_of hf hg (tb_of h)

/-! ### slices -/
def tMO (K : PySem.W.Frag) (m : M (Option Int)) : TO := fun σ H Q => ∃ G ρ F r ρ', Wd K G ρ σ H F ∧ m ρ = some (r, ρ') ∧ ∀ H' F', Ste K G ρ σ H F ρ' H' F' → Q r H'
abbrev SO (X : Cx) (e : Option Expr) (m : M (Option Int)) : Prop := PO X e (tMO X.K m)
theorem po_weak {o : Option Expr} {t t' : TO} (h : PO X o t) (w : ∀ σ H Q, t' σ H Q → t σ H Q) : PO X o t' := ⟨fun pins s σ H Q I q => h.run pins s σ H Q I (w _ _ _ q)⟩
def oNo : M (Option Int) := fun ρ => some (none, ρ)
def oSome (a : M Vl) : M (Option Int) := fun ρ => (a ρ).bind fun p => match p.1 with
  | .fz (.int i) => some (some i, p.2)
  | _ => none
theorem so_none : SO X none oNo := po_weak po_none fun σ H Q ⟨G, ρ, F, r, ρ', W, hm, q⟩ => by
  cases hm
  exact q H F (Ste.refl W)
theorem so_some (h : SE X e me) : SO X (some e) (oSome me) := po_weak (po_some h) fun σ H Q ⟨G, ρ, F, r, ρ', W, hm, q⟩ => by
  unfold oSome at hm
  obtain ⟨⟨x, ρ1⟩, e1, hm⟩ := Option.bind_eq_some_iff.mp hm
  refine tm_use W e1 fun v H1 F1 s1 R1 => ?_
  split at hm
  · rename_i i hc; dsimp only at hc; subst hc
    cases (show Rep X.K F1 v (.int i) from R1)
    cases hm
    exact ⟨i, rfl, q H1 F1 s1⟩
  · cases hm
def eSl (f : D → Option Int → Option Int → Option D) (a : M Vl) (l u : M (Option Int)) : M Vl := fun ρ => (a ρ).bind fun p => (l p.2).bind fun p1 => (u p1.2).bind fun p2 => (look p2.2 (stl p.1)).bind fun x => (f x p1.1 p2.1).bind fun z => some (.fz z, p2.2)
def SlS (K : PySem.W.Frag) (r : V → Option Int → Option Int → Hp → VK → Prop) (f : D → Option Int → Option Int → Option D) : Prop :=
  ∀ (H F : Hp) (v : V) (x z : D) (lo hi : Option Int), Same F H → Vw K H F v x → f x lo hi = some z → ∀ Q : VK, (∀ w H' F', Alc F H F' H' → Rep K F' w z → Q w H') → r v lo hi H Q
theorem se_sl {r : V → Option Int → Option Int → Hp → VK → Prop} {f : D → Option Int → Option Int → Option D} {lo hi : Option Expr} {ml mu : M (Option Int)} {p2 : Pos} (hr : L2.SlR X r) (hf : SlS X.K r f) (he : SE X e me) (hl : SO X lo ml) (hu : SO X hi mu) : SE X (.Subscript e (.Slice lo hi none p2) pos) (eSl f me ml mu) := by
  refine pe_weak (pe_slice hr he hl hu) fun σ H Q ⟨G, ρ, F, r0, ρ', W, hm, q⟩ => ?_
  unfold eSl at hm
  obtain ⟨⟨x, ρ1⟩, e1, hm⟩ := Option.bind_eq_some_iff.mp hm
  obtain ⟨⟨l, ρ2⟩, e2, hm⟩ := Option.bind_eq_some_iff.mp hm
  obtain ⟨⟨u, ρ3⟩, e3, hm⟩ := Option.bind_eq_some_iff.mp hm
  obtain ⟨dx, e4, hm⟩ := Option.bind_eq_some_iff.mp hm
  obtain ⟨dz, e5, hm⟩ := Option.bind_eq_some_iff.mp hm
  cases hm
  refine tm_use W e1 fun v H1 F1 s1 R1 => ?_
  refine ⟨G, ρ1, F1, l, ρ2, s1.wd, e2, fun H2 F2 s2 => ⟨G, ρ2, F2, u, ρ3, s2.wd, e3, fun H3 F3 s3 => ?_⟩⟩
  refine hf H3 F3 v dx dz l u s3.wd.sub (vw_of s3.wd ((R1.ste s2).ste s3) e4) e5 _ fun w H' F' A R => ?_
  exact q w H' F' (((s1.trans s2).trans s3).trans (s3.wd.alc A)) R

/-! ### built-ins and methods -/
variable {x : Str} {id T : String} {es : List Expr} {ms : M (List Vl)} {p : Pos} {r : List V → Hp → VK → Prop} {f : List D → Option D}
theorem se_blt (hc : CallR X (.builtin id) r) (hf : CallS X.K r f) (hg : Gl X x) (hm : X.mg x = none) (hv : bootBuiltins x = some (.builtin id)) (ha : SA X (e :: es) ms) (hn : x ≠ "__name__" := by decide) (hdb : (x == ("__debug__" : Str)) = false := by decide)
    (he : starEach (e :: es) X.env = (false, eval e X.env) :: starEach es X.env := by rfl) (hpl : (backTo pos (starEach es X.env)).any (·.1) = false := by rfl) : SE X (.Call (.Name x p) (e :: es) [] pos) (eBlt f ms) :=
  pe_weak (pe_callB hc hg hm hv ha hn hdb he hpl) fun _ _ _ h => tcb_of hf h
theorem se_ty (hc : CallR X (.type T) r) (hf : CallS X.K r f) (hg : Gl X x) (hm : X.mg x = none) (hv : bootBuiltins x = some (.type T)) (ha : SA X (e :: es) ms) (hn : x ≠ "__name__" := by decide) (hdb : (x == ("__debug__" : Str)) = false := by decide)
    (he : starEach (e :: es) X.env = (false, eval e X.env) :: starEach es X.env := by rfl) (hpl : (backTo pos (starEach es X.env)).any (·.1) = false := by rfl) : SE X (.Call (.Name x p) (e :: es) [] pos) (eBlt f ms) :=
  pe_weak (pe_callTy hc hg hm hv ha hn hdb he hpl) fun _ _ _ h => tcb_of hf h
/-- o.m(a, ..), m a method of a built-in type; the object a text -/
def eMet (f : D → List D → Option D) (o : M Vl) (a : M (List Vl)) : M Vl := fun ρ => (o ρ).bind fun p => (a p.2).bind fun q => (look q.2 (stl p.1)).bind fun x => (looks q.2 q.1).bind fun xs => (f x xs).bind fun z => some (.fz z, q.2)
def MetS (K : PySem.W.Frag) (r : V → List V → Hp → VK → Prop) (f : D → List D → Option D) : Prop :=
  ∀ (H F : Hp) (v : V) (vs : List V) (x : D) (xs : List D) (z : D), Same F H → Vw K H F v x → Vws K H F vs xs → f x xs = some z → ∀ Q : VK, (∀ w H' F', Alc F H F' H' → Rep K F' w z → Q w H') → r v vs H Q
theorem look_str {ρ : Rho} {r : Vl} {s : List Nat} (h : look ρ (stl r) = some (.str s)) : stl r = .fz (.str s) := by
  cases r with
  | fz x => cases h; rfl
  | fr xs => cases h
  | bw i =>
    simp only [stl, look] at h
    split at h <;> cases h
theorem tmet_of {K : PySem.W.Frag} {mo : M Vl} {r : V → List V → Hp → VK → Prop} {f : D → List D → Option D} (hT : ∀ x xs z, f x xs = some z → ∃ s, x = .str s) (hf : MetS K r f) {σ : L2.St} {H : Hp} {Q : VK} (h : tM K (eMet f mo ms) σ H Q) :
    tM K mo σ H fun x H1 => tyV K "str" x H1 ∧ tMA K ms σ H1 fun xs H2 => r x xs H2 Q := by
  obtain ⟨G, ρ, F, r0, ρ', W, hm, q⟩ := h
  unfold eMet at hm
  obtain ⟨⟨x, ρ1⟩, e1, hm⟩ := Option.bind_eq_some_iff.mp hm
  obtain ⟨⟨y, ρ2⟩, e2, hm⟩ := Option.bind_eq_some_iff.mp hm
  obtain ⟨dx, e3, hm⟩ := Option.bind_eq_some_iff.mp hm
  obtain ⟨dxs, e4, hm⟩ := Option.bind_eq_some_iff.mp hm
  obtain ⟨dz, e5, hm⟩ := Option.bind_eq_some_iff.mp hm
  cases hm
  refine tm_use W e1 fun v H1 F1 s1 R1 => ?_
  obtain ⟨s, rfl⟩ := hT _ _ _ e5
  have ex := look_str e3
  have Rv : Rep K F1 v (.str s) := by rw [ex] at R1; exact R1
  have ty : tyV K "str" v H1 := by
    cases Rv
    rfl
  refine ⟨ty, ⟨G, ρ1, F1, y, ρ2, s1.wd, e2, fun vs H2 F2 s2 R2 => ?_⟩⟩
  refine hf H2 F2 v vs (.str s) dxs dz s2.wd.sub (vw_rep s2.wd.sub (Rv.mono s2.ff)) (vws_of s2.wd R2 e4) e5 Q fun w H' F' A R => ?_
  exact q w H' F' ((s1.trans s2).trans (s2.wd.alc A)) R
theorem se_met {o : Expr} {mo : M Vl} {name : Str} {apos cpos : Pos} {r : V → List V → Hp → VK → Prop} {f : D → List D → Option D} (slot : Slot "str" name id) (hty : typeOf (.builtin id) = pure (.type "method_descriptor")) (hm : MtR X id r) (hT : ∀ x xs z, f x xs = some z → ∃ s, x = .str s) (hf : MetS X.K r f) (ho : SE X o mo) (ha : SA X (e :: es) ms)
    (hbase : attributeBase o name X.env (eval o X.env) = eval o X.env := by rfl)
    (hfew : ((backTo cpos (starEach (e :: es) X.env)).all (fun x => !x.1) && (backToKw cpos (keywordEach [] X.env)).all (fun x => x.1.isSome)
      && decide ((e :: es).length + ([] : List Keyword).length + (if ([] : List Keyword).isEmpty then 0 else 1) < 30)) = true := by rfl)
    (hline : (apos.endLine == cpos.line) = true := by rfl) (hs : starEach (e :: es) X.env = (false, eval e X.env) :: starEach es X.env := by rfl) (hplain : (backTo cpos (starEach es X.env)).any (·.1) = false := by rfl) :
    SE X (.Call (.Attribute o name apos) (e :: es) [] cpos) (eMet f mo ms) :=
  pe_weak (pe_bm PySem.F.plainAttrs_str slot hty hm ho ha hbase hfew hline hs hplain) fun _ _ _ h => tmet_of hT hf h
theorem se_met0 {o : Expr} {mo : M Vl} {name : Str} {apos cpos : Pos} {r : V → List V → Hp → VK → Prop} {f : D → List D → Option D} (slot : Slot "str" name id) (hty : typeOf (.builtin id) = pure (.type "method_descriptor")) (hm : MtR X id r) (hT : ∀ x xs z, f x xs = some z → ∃ s, x = .str s) (hf : MetS X.K r f) (ho : SE X o mo)
    (hbase : attributeBase o name X.env (eval o X.env) = eval o X.env := by rfl) (hline : (apos.endLine == cpos.line) = true := by rfl) : SE X (.Call (.Attribute o name apos) [] [] cpos) (eMet f mo aNil) := by
  refine pe_weak (pe_bm0 PySem.F.plainAttrs_str slot hty hm ho hbase hline) fun σ H Q h => ?_
  obtain ⟨G, ρ, F, r0, ρ', W, hm, q⟩ := tmet_of hT hf h
  refine ⟨G, ρ, F, r0, ρ', W, hm, fun v H' F' s R => ?_⟩
  obtain ⟨h1, G1, ρ1, F1, r1, ρ1', W1, hm1, q1⟩ := q v H' F' s R
  cases hm1
  exact ⟨h1, q1 [] H' F1 (Ste.refl W1) trivial⟩
end

/-! ### calls of defs -/
/-- an argument: a datum, or a list that the def may change -/
inductive Ag where
  | da (x : D) | li (xs : List D)
abbrev Fn := List Ag → Option (Vl × List (List D))
def liA : List V → List Ag → List Addr
  | .ref a :: vs, .li _ :: gs => a :: liA vs gs
  | _ :: vs, _ :: gs => liA vs gs
  | _, _ => []
def AgsR (K : PySem.W.Frag) (F H : Hp) : List V → List Ag → Prop
  | [], [] => True
  | v :: vs, .da x :: gs => Rep K F v x ∧ AgsR K F H vs gs
  | v :: vs, .li xs :: gs => (∃ a us, v = .ref a ∧ H a = some (.lst us) ∧ Reps K F us xs ∧ F a = none) ∧ AgsR K F H vs gs
  | _, _ => False
def OutsR (K : PySem.W.Frag) (F H : Hp) : List Addr → List (List D) → Prop
  | [], [] => True
  | a :: as, xs :: os => (∃ us, H a = some (.lst us) ∧ Reps K F us xs ∧ F a = none) ∧ OutsR K F H as os
  | _, _ => False
def ResR (K : PySem.W.Frag) (P F H : Hp) (v : V) : Vl → Prop
  | .fz x => Rep K F v x
  | .fr xs => ∃ a us, v = .ref a ∧ H a = some (.lst us) ∧ Reps K F us xs ∧ F a = none ∧ P a = none
  | .bw _ => False
def spF (K : PySem.W.Frag) (n : Nat) (f : Fn) : Sp := fun vs H Q _ => vs.length = n ∧ ∃ (F : Hp) (gs : List Ag) (r : Vl) (os : List (List D)), Same F H ∧ AgsR K F H vs gs ∧ (liA vs gs).Nodup ∧ f gs = some (r, os) ∧ ∀ v H' F',
  Same F F' → Same F' H' → (∀ b o, H b = some o → b ∉ liA vs gs → H' b = some o) → (∀ b, F' b ≠ none → F b ≠ none ∨ H b = none) → OutsR K F' H' (liA vs gs) os → ResR K H F' H' v r → Q v H'

/-- the arguments of a call: data, or the number of the slot whose list is handed in -/
def ag1 : List Bool → List Vl → Rho → Option (List (D ⊕ Nat) × Rho)
  | _, [], ρ => some ([], ρ)
  | fs, r :: rs, ρ => if fs.headD false = true then (match r with
    | .bw i => (ag1 fs.tail rs ρ).bind fun p => some (.inr i :: p.1, p.2)
    | _ => none) else (frz ρ r).bind fun p => (ag1 fs.tail rs p.2).bind fun q => some (.inl p.1 :: q.1, q.2)
def own? (ρ : Rho) (i : Nat) : Option (List D) := match ρ[i]? with
  | some (.ow xs) => some xs
  | some (.io xs) => some xs
  | _ => none
def ag2 (ρ : Rho) : List (D ⊕ Nat) → Option (List Ag)
  | [] => some []
  | .inl x :: r => (ag2 ρ r).bind fun gs => some (.da x :: gs)
  | .inr i :: r => (own? ρ i).bind fun xs => (ag2 ρ r).bind fun gs => some (.li xs :: gs)
def agI : List (D ⊕ Nat) → List Nat
  | [] => []
  | .inl _ :: r => agI r
  | .inr i :: r => i :: agI r
def put (ρ : Rho) (i : Nat) (xs : List D) : Rho := match ρ[i]? with
  | some (.ow _) => ρ.set i (.ow xs)
  | some (.io _) => ρ.set i (.io xs)
  | _ => ρ
def puts : Rho → List Nat → List (List D) → Rho
  | ρ, i :: is, xs :: os => puts (put ρ i xs) is os
  | ρ, _, _ => ρ
def eCall (f : Fn) (fs : List Bool) (a : M (List Vl)) : M Vl := fun ρ => (a ρ).bind fun p => (ag1 fs p.1 p.2).bind fun q => (ag2 q.2 q.1).bind fun gs => if (agI q.1).Nodup then (f gs).bind fun z => match z.1 with
  | .bw _ => none
  | w => some (w, puts q.2 (agI q.1) z.2) else none

def TsR (K : PySem.W.Frag) (σ : L2.St) (F : Hp) : List V → List (D ⊕ Nat) → Prop
  | [], [] => True
  | v :: vs, .inl x :: r => Rep K F v x ∧ TsR K σ F vs r
  | v :: vs, .inr i :: r => σ[i]? = some (some v) ∧ TsR K σ F vs r
  | _, _ => False
section
variable {K : PySem.W.Frag} {G : Gd} {σ : L2.St} {H : Hp}
theorem ag1_frz {fs : List Bool} {r : Vl} {rs : List Vl} {v : V} {vs : List V} {ts : List (D ⊕ Nat)} {ρ ρ' : Rho} {F : Hp}
    (ih : ∀ {vs : List V} {ts : List (D ⊕ Nat)} {ρ ρ' : Rho} {F : Hp}, Wd K G ρ σ H F → VlSs K σ F vs rs → ag1 fs rs ρ = some (ts, ρ') → ∃ F', Ste K G ρ σ H F ρ' H F' ∧ TsR K σ F' vs ts)
    (W : Wd K G ρ σ H F) (h : VlSs K σ F (v :: vs) (r :: rs)) (e : ((frz ρ r).bind fun p => (ag1 fs rs p.2).bind fun q => some (.inl p.1 :: q.1, q.2)) = some (ts, ρ')) : ∃ F', Ste K G ρ σ H F ρ' H F' ∧ TsR K σ F' (v :: vs) ts := by
  obtain ⟨⟨x, ρ1⟩, e1, e⟩ := Option.bind_eq_some_iff.mp e
  obtain ⟨⟨ys, ρ2⟩, e2, e⟩ := Option.bind_eq_some_iff.mp e
  cases e
  obtain ⟨F1, s1, R1⟩ := frz_ok W h.1 e1
  obtain ⟨F2, s2, R2⟩ := ih s1.wd (h.2.ste s1) e2
  exact ⟨F2, s1.trans s2, R1.mono s2.ff, R2⟩
theorem ag1_ok : ∀ {rs : List Vl} {fs : List Bool} {vs : List V} {ts : List (D ⊕ Nat)} {ρ ρ' : Rho} {F : Hp}, Wd K G ρ σ H F → VlSs K σ F vs rs → ag1 fs rs ρ = some (ts, ρ') → ∃ F', Ste K G ρ σ H F ρ' H F' ∧ TsR K σ F' vs ts
  | [], fs, [], ts, ρ, ρ', F, W, _, e => by
    unfold ag1 at e
    cases e
    exact ⟨F, Ste.refl W, trivial⟩
  | [], _, _ :: _, _, _, _, _, _, h, _ => h.elim
  | _ :: _, _, [], _, _, _, _, _, h, _ => h.elim
  | r :: rs, fs, v :: vs, ts, ρ, ρ', F, W, h, e => by
    unfold ag1 at e
    split at e
    · cases r with
      | bw i =>
        obtain ⟨⟨ys, ρ2⟩, e2, e⟩ := Option.bind_eq_some_iff.mp e
        cases e
        obtain ⟨F2, s2, R2⟩ := ag1_ok W h.2 e2
        exact ⟨F2, s2, h.1, R2⟩
      | fz x => cases e
      | fr x => exact h.1.elim
    · exact ag1_frz (fs := fs.tail) ag1_ok W h e

theorem own_sl {ρ : Rho} {i : Nat} {xs : List D} (h : own? ρ i = some xs) : ρ[i]? = some (.ow xs) ∨ ρ[i]? = some (.io xs) := by
  unfold own? at h
  split at h
  · cases h; rename_i e; exact .inl e
  · cases h; rename_i e; exact .inr e
  · cases h
theorem ag2_ok {ρ : Rho} {F : Hp} (W : Wd K G ρ σ H F) : ∀ {ts : List (D ⊕ Nat)} {vs : List V} {gs : List Ag}, TsR K σ F vs ts → ag2 ρ ts = some gs →
    AgsR K F H vs gs ∧ (liA vs gs).length = (agI ts).length ∧ ∀ (k i : Nat) (a : Addr), (agI ts)[k]? = some i → (liA vs gs)[k]? = some a → Ow ρ σ i a
  | [], [], gs, _, e => by
    cases e
    exact ⟨trivial, rfl, fun k i a h _ => by simp [agI] at h⟩
  | [], _ :: _, _, h, _ => h.elim
  | .inl _ :: _, [], _, h, _ => h.elim
  | .inr _ :: _, [], _, h, _ => h.elim
  | .inl x :: ts, v :: vs, gs, h, e => by
    unfold ag2 at e
    obtain ⟨g2, e2, e⟩ := Option.bind_eq_some_iff.mp e
    cases e
    obtain ⟨h1, h2, h3⟩ := ag2_ok W h.2 e2
    have q : liA (v :: vs) (.da x :: g2) = liA vs g2 := by cases v <;> rfl
    exact ⟨⟨h.1, h1⟩, by rw [q]; exact h2, by rw [q]; exact h3⟩
  | .inr i :: ts, v :: vs, gs, h, e => by
    unfold ag2 at e
    obtain ⟨xs, e1, e⟩ := Option.bind_eq_some_iff.mp e
    obtain ⟨g2, e2, e⟩ := Option.bind_eq_some_iff.mp e
    cases e
    obtain ⟨h1, h2, h3⟩ := ag2_ok W h.2 e2
    have hv := h.1
    have sl := own_sl e1
    have key : ∃ a us, v = .ref a ∧ H a = some (.lst us) ∧ Reps K F us xs ∧ F a = none := by
      rcases sl with q | q
      · obtain ⟨a, us, z, p1, p2, p3, _⟩ := W.sl i _ q
        rw [hv] at z; cases z
        exact ⟨a, us, rfl, p1, p2, p3⟩
      · obtain ⟨a, us, z, p1, p2, p3, _⟩ := W.sl i _ q
        rw [hv] at z; cases z
        exact ⟨a, us, rfl, p1, p2, p3⟩
    obtain ⟨a, us, rfl, p1, p2, p3⟩ := key
    refine ⟨⟨⟨a, us, rfl, p1, p2, p3⟩, h1⟩, ?_, fun k j b q1 q2 => ?_⟩
    · show (a :: liA vs g2).length = (i :: agI ts).length
      rw [List.length_cons, List.length_cons, h2]
    · cases k with
      | zero =>
        have q1 : some i = some j := q1
        have q2 : some a = some b := q2
        cases q1; cases q2
        exact ⟨⟨xs, sl⟩, hv⟩
      | succ k => exact h3 k j b q1 q2
theorem put_len (ρ : Rho) (i : Nat) (xs : List D) : (put ρ i xs).length = ρ.length := by
  unfold put
  split <;> simp
theorem puts_len : ∀ (is : List Nat) (os : List (List D)) (ρ : Rho), (puts ρ is os).length = ρ.length
  | [], _, ρ => by unfold puts; rfl
  | _ :: _, [], ρ => by unfold puts; rfl
  | i :: is, xs :: os, ρ => by
    show (puts (put ρ i xs) is os).length = ρ.length
    rw [puts_len is os, put_len]
theorem put_ne {ρ : Rho} {i j : Nat} {xs : List D} (h : j ≠ i) : (put ρ i xs)[j]? = ρ[j]? := by
  unfold put
  split
  · rw [List.getElem?_set_ne (Ne.symm h)]
  · rw [List.getElem?_set_ne (Ne.symm h)]
  · rfl
theorem put_self {ρ : Rho} {i : Nat} {xs ys : List D} : (ρ[i]? = some (.ow ys) → (put ρ i xs)[i]? = some (.ow xs)) ∧ (ρ[i]? = some (.io ys) → (put ρ i xs)[i]? = some (.io xs)) := by
  constructor
  · intro h
    have hi := (List.getElem?_eq_some_iff.mp h).1
    unfold put
    rw [h]
    exact List.getElem?_set_self hi
  · intro h
    have hi := (List.getElem?_eq_some_iff.mp h).1
    unfold put
    rw [h]
    exact List.getElem?_set_self hi
theorem puts_ne : ∀ {is : List Nat} {os : List (List D)} {ρ : Rho} {j : Nat}, j ∉ is → (puts ρ is os)[j]? = ρ[j]?
  | [], _, ρ, j, _ => by unfold puts; rfl
  | _ :: _, [], ρ, j, _ => by unfold puts; rfl
  | i :: is, xs :: os, ρ, j, h => by
    show (puts (put ρ i xs) is os)[j]? = ρ[j]?
    rw [puts_ne fun z => h (List.mem_cons_of_mem _ z), put_ne fun z => h (by rw [z]; exact List.mem_cons_self)]
theorem puts_at : ∀ {is : List Nat} {os : List (List D)} {ρ : Rho} {k j : Nat} {xs : List D}, is.Nodup → is[k]? = some j → os[k]? = some xs → ∀ ys, (ρ[j]? = some (.ow ys) → (puts ρ is os)[j]? = some (.ow xs)) ∧ (ρ[j]? = some (.io ys) → (puts ρ is os)[j]? = some (.io xs))
  | [], _, _, _, _, _, _, h, _, _ => by simp at h
  | _ :: _, [], _, _, _, _, _, _, h, _ => by simp at h
  | i :: is, zs :: os, ρ, 0, j, xs, nd, h1, h2, ys => by
    simp at h1 h2
    subst h1; subst h2
    have nj := (List.nodup_cons.mp nd).1
    show (_ → (puts (put ρ i zs) is os)[i]? = _) ∧ (_ → (puts (put ρ i zs) is os)[i]? = _)
    rw [puts_ne nj]
    exact put_self
  | i :: is, zs :: os, ρ, k + 1, j, xs, nd, h1, h2, ys => by
    have ni := (List.nodup_cons.mp nd).1
    have h1 : is[k]? = some j := by simpa using h1
    have h2 : os[k]? = some xs := by simpa using h2
    have ne : j ≠ i := fun z => ni (by rw [← z]; exact List.mem_of_getElem? h1)
    have q := puts_at (ρ := put ρ i zs) (List.nodup_cons.mp nd).2 h1 h2 ys
    rw [put_ne ne] at q
    exact q
theorem OutsR.get {F : Hp} : ∀ {as : List Addr} {os : List (List D)} {k : Nat} {a : Addr}, OutsR K F H as os → as[k]? = some a → ∃ xs, os[k]? = some xs ∧ ∃ us, H a = some (.lst us) ∧ Reps K F us xs ∧ F a = none
  | [], _, _, _, _, h => by simp at h
  | _ :: _, [], _, _, h, _ => h.elim
  | b :: as, xs :: os, 0, a, h, e => by
    simp at e; subst e
    exact ⟨xs, rfl, h.1⟩
  | b :: as, xs :: os, k + 1, a, h, e => by
    obtain ⟨ys, e1, e2⟩ := OutsR.get (k := k) h.2 (by simpa using e)
    exact ⟨ys, by simpa using e1, e2⟩
/-- behind a call -/
theorem after_call {ρ : Rho} {F F' H' : Hp} {is : List Nat} {as : List Addr} {os : List (List D)} (W : Wd K G ρ σ H F) (nd : is.Nodup) (hl : as.length = is.length) (ow : ∀ (k i : Nat) (a : Addr), is[k]? = some i → as[k]? = some a → Ow ρ σ i a)
    (ff : Same F F') (sub : Same F' H') (kp : ∀ b o, H b = some o → b ∉ as → H' b = some o) (nf : ∀ b, F' b ≠ none → F b ≠ none ∨ H b = none) (outs : OutsR K F' H' as os) : Ste K G ρ σ H F (puts ρ is os) H' F' := by
  have memO : ∀ b, b ∈ as → ∃ i, Ow ρ σ i b := fun b hb => by
    obtain ⟨k, hk, e⟩ := List.mem_iff_getElem.mp hb
    have hk2 : k < is.length := by omega
    exact ⟨is[k], ow k is[k] b (List.getElem?_eq_getElem hk2) (by rw [List.getElem?_eq_getElem hk, e])⟩
  have tr : ∀ b, H b ≠ none → H' b ≠ none := fun b h => by
    by_cases hb : b ∈ as
    · obtain ⟨k, hk, e⟩ := List.mem_iff_getElem.mp hb
      obtain ⟨xs, _, us, z, _⟩ := outs.get (k := k) (a := b) (by rw [List.getElem?_eq_getElem hk, e])
      rw [z]; simp
    · cases e : H b with
      | none => exact absurd e h
      | some o => rw [kp b o e hb]; simp
  have fn : ∀ {a : Addr} {vs : List V}, H a = some (.lst vs) → F a = none → F' a = none := fun {a vs} h1 h2 => by
    cases e : F' a with
    | none => rfl
    | some o =>
      rcases nf a (by rw [e]; simp) with q | q
      · exact absurd h2 q
      · rw [h1] at q; cases q
  -- a slot behind the call
  have slot : ∀ j s, (puts ρ is os)[j]? = some s → SlR K G σ H' F' j s ∧ ∀ a, Ow (puts ρ is os) σ j a → Ow ρ σ j a := fun j s hs => by
    by_cases hj : j ∈ is
    · obtain ⟨k, hk, e⟩ := List.mem_iff_getElem.mp hj
      have hk2 : k < as.length := by omega
      have ik : is[k]? = some j := by rw [List.getElem?_eq_getElem hk, e]
      have o := ow k j as[k] ik (List.getElem?_eq_getElem hk2)
      obtain ⟨xs, ox, us, u1, u2, u3⟩ := outs.get (List.getElem?_eq_getElem hk2)
      obtain ⟨⟨ys, q⟩, q2⟩ := id o
      have pa := puts_at (ρ := ρ) nd ik ox ys
      rcases q with q | q
      · have z := pa.1 q
        rw [hs] at z; cases z
        obtain ⟨a, vs, e1, e2, _, e4, e5⟩ := W.sl j _ q
        rw [q2] at e1
        cases e1
        exact ⟨⟨_, us, q2, u1, u2, u3, e5⟩, fun b ob => ⟨⟨ys, .inl q⟩, ob.2⟩⟩
      · have z := pa.2 q
        rw [hs] at z; cases z
        obtain ⟨a, vs, e1, e2, _, e4, e5⟩ := W.sl j _ q
        rw [q2] at e1
        cases e1
        exact ⟨⟨_, us, q2, u1, u2, u3, e5⟩, fun b ob => ⟨⟨ys, .inr q⟩, ob.2⟩⟩
    · have eq : (puts ρ is os)[j]? = ρ[j]? := puts_ne hj
      rw [eq] at hs
      refine ⟨?_, fun a ob => by
        obtain ⟨⟨ys, o1⟩, o2⟩ := ob
        rw [eq] at o1
        exact ⟨⟨ys, o1⟩, o2⟩⟩
      have q := W.sl j s hs
      have na : ∀ {a : Addr} {ys : List D}, (ρ[j]? = some (.ow ys) ∨ ρ[j]? = some (.io ys)) → σ[j]? = some (some (.ref a)) → a ∉ as := fun {a ys} h1 h2 hm => by
        obtain ⟨k, hk, e⟩ := List.mem_iff_getElem.mp hm
        have hk2 : k < is.length := by omega
        have o := ow k is[k] a (List.getElem?_eq_getElem hk2) (by rw [List.getElem?_eq_getElem hk, e])
        have z := W.ap j is[k] a ⟨⟨ys, h1⟩, h2⟩ o
        exact hj (by rw [z]; exact List.getElem_mem hk2)
      cases s with
      | no => trivial
      | d x => obtain ⟨v, e, r⟩ := q; exact ⟨v, e, r.mono ff⟩
      | ow ys => obtain ⟨a, vs, e, p1, p2, p3, p4⟩ := q; exact ⟨a, vs, e, kp a _ p1 (na (.inl hs) e), p2.mono ff, fn p1 p3, p4⟩
      | io ys => obtain ⟨a, vs, e, p1, p2, p3, p4⟩ := q; exact ⟨a, vs, e, kp a _ p1 (na (.inr hs) e), p2.mono ff, fn p1 p3, p4⟩
  have oo : ∀ i a, Ow (puts ρ is os) σ i a → Ow ρ σ i a := fun i a o => by
    obtain ⟨⟨ys, o1⟩, o2⟩ := id o
    rcases o1 with o1 | o1
    · exact (slot i _ o1).2 a o
    · exact (slot i _ o1).2 a o
  refine ⟨⟨by rw [puts_len]; exact W.len, W.gl, sub, W.f0.trans ff, fun b o h q => ?_, fun b h => ?_, fun b h => tr b (W.it b h), fun j s h => (slot j s h).1, fun i j a o1 o2 => W.ap i j a (oo i a o1) (oo j a o2), fun i a z => ?_⟩, ff, fun b o h n => kp b o h fun hm => ?_, fun b h => (nf b h).elim .inl fun q => .inr (.inl q), oo, tr⟩
  · refine kp b o (W.kp b o h q) fun hm => ?_
    obtain ⟨i, ob⟩ := memO b hm
    obtain ⟨⟨ys, o1⟩, o2⟩ := ob
    rcases o1 with o1 | o1
    · obtain ⟨a, vs, e1, _, _, _, e5⟩ := W.sl i _ o1
      rw [o2] at e1; cases e1
      rw [h] at e5; cases e5
    · obtain ⟨a, vs, e1, _, _, _, e5⟩ := W.sl i _ o1
      rw [o2] at e1; cases e1
      exact q (List.mem_map_of_mem (f := (·.2)) e5)
  · rcases nf b h with q | q
    · exact W.nw b q
    · exact .inr (W.h0 q)
  · obtain ⟨⟨ys, z1⟩, z2⟩ := W.ai i a z
    refine ⟨?_, z2⟩
    by_cases hj : i ∈ is
    · obtain ⟨k, hk, e⟩ := List.mem_iff_getElem.mp hj
      have hk2 : k < as.length := by omega
      obtain ⟨xs, ox, _⟩ := outs.get (List.getElem?_eq_getElem hk2)
      exact ⟨xs, (puts_at nd (by rw [List.getElem?_eq_getElem hk, e]) ox ys).2 z1⟩
    · exact ⟨ys, by rw [puts_ne hj]; exact z1⟩
  · obtain ⟨i, ob⟩ := memO b hm
    exact n i ob
end

section
variable {X : Cx} {e : Expr} {es : List Expr} {ms : M (List Vl)} {f : Fn} {fs : List Bool} {x : Str} {p pos : Pos} {fa : Addr} {fd : FuncData} {ps : List Str} {k n : Nat}
theorem VlSs.len {K : PySem.W.Frag} {σ : L2.St} {F : Hp} : ∀ {vs : List V} {rs : List Vl}, VlSs K σ F vs rs → vs.length = rs.length
  | [], [], _ => rfl
  | [], _ :: _, h => h.elim
  | _ :: _, [], h => h.elim
  | _ :: _, _ :: _, h => by rw [List.length_cons, List.length_cons, VlSs.len h.2]
theorem AgsR.len {K : PySem.W.Frag} {F H : Hp} : ∀ {vs : List V} {gs : List Ag}, AgsR K F H vs gs → vs.length = gs.length
  | [], [], _ => rfl
  | [], .da _ :: _, h => h.elim
  | [], .li _ :: _, h => h.elim
  | _ :: _, [], h => h.elim
  | _ :: _, .da _ :: _, h => by rw [List.length_cons, List.length_cons, AgsR.len h.2]
  | _ :: _, .li _ :: _, h => by rw [List.length_cons, List.length_cons, AgsR.len h.2]
theorem tcall_of {K : PySem.W.Frag} {dvs : List V} {E : XK} (hn : ∀ gs z, f gs = some z → gs.length = n) {σ : L2.St} {H : Hp} {Q : VK} (h : tM K (eCall f fs ms) σ H Q) : tCall (spF K n f) [] E (tMA K ms) σ H Q := by
  obtain ⟨G, ρ, F, r0, ρ', W, hm, q⟩ := h
  unfold eCall at hm
  obtain ⟨⟨rs, ρ1⟩, e1, hm⟩ := Option.bind_eq_some_iff.mp hm
  obtain ⟨⟨ts, ρ2⟩, e2, hm⟩ := Option.bind_eq_some_iff.mp hm
  obtain ⟨gs, e3, hm⟩ := Option.bind_eq_some_iff.mp hm
  split at hm
  · rename_i nd
    obtain ⟨⟨z, os⟩, e4, hm⟩ := Option.bind_eq_some_iff.mp hm
    refine ⟨G, ρ, F, rs, ρ1, W, e1, fun vs H1 F1 s1 R1 => ?_⟩
    obtain ⟨F2, s2, R2⟩ := ag1_ok s1.wd R1 e2
    obtain ⟨A1, A2, A3⟩ := ag2_ok s2.wd R2 e3
    have s12 := s1.trans s2
    rw [List.append_nil]
    refine ⟨by rw [A1.len]; exact hn _ _ e4, F2, gs, z, os, s2.wd.sub, A1, ?_, e4, fun v H' F' ff sub kp nf outs res => ?_⟩
    · rw [List.nodup_iff_pairwise_ne, List.pairwise_iff_getElem]
      intro i j hi hj hij e
      have o1 := A3 i (agI ts)[i] (liA vs gs)[i] (List.getElem?_eq_getElem (by omega)) (List.getElem?_eq_getElem hi)
      have o2 := A3 j (agI ts)[j] (liA vs gs)[j] (List.getElem?_eq_getElem (by omega)) (List.getElem?_eq_getElem hj)
      rw [← e] at o2
      have eq := s2.wd.ap _ _ _ o1 o2
      have := (List.getElem_inj nd).mp eq
      omega
    · have s3 := after_call s2.wd nd A2 A3 ff sub kp nf outs
      have s13 := s12.trans s3
      cases z with
      | fz x => cases hm; exact q v H' F' s13 res
      | bw i => cases hm
      | fr xs =>
        cases hm
        obtain ⟨a, us, e5, u1, u2, u3, u4⟩ := res
        refine q v H' F' s13 ⟨a, us, e5, u1, u2, u3, s12.back a u4, fun i o => ?_⟩
        obtain ⟨_, z, _⟩ := s12.wd.ow_there (s3.oo i a o)
        rw [u4] at z; cases z
  · cases hm
theorem se_call (F : FnOk X.prog X.w X.K X.mg X.base CX0 k fa fd ps (spF X.K n f)) (hn : ∀ gs z, f gs = some z → gs.length = n) (hr : Room k X.A) (hm : X.mg x = some (.ref fa)) (hk : PySem.W.keepIn X.K (.ref fa) = true) (hb : Binds X.K fd ps []) (hg : Gl X x)
    (ha : SA X (e :: es) ms) (hdb : (x == ("__debug__" : Str)) = false := by decide) (he : starEach (e :: es) X.env = (false, eval e X.env) :: starEach es X.env := by rfl) (hpl : (backTo pos (starEach es X.env)).any (·.1) = false := by rfl) :
    SE X (.Call (.Name x p) (e :: es) [] pos) (eCall f fs ms) := pe_weak (pe_call F hr hg hm hk hb .nil pass0 ha hdb he hpl) fun _ _ _ h => tcall_of (dvs := []) hn h
theorem se_call0 (F : FnOk X.prog X.w X.K X.mg X.base CX0 k fa fd ps (spF X.K n f)) (hn : ∀ gs z, f gs = some z → gs.length = n) (hr : Room k X.A) (hm : X.mg x = some (.ref fa)) (hk : PySem.W.keepIn X.K (.ref fa) = true) (hb : Binds X.K fd ps []) (hg : Gl X x)
    (hdb : (x == ("__debug__" : Str)) = false := by decide) : SE X (.Call (.Name x p) [] [] pos) (eCall f fs aNil) := pe_weak (pe_call0 F hr hg hm hk hb .nil pass0 hdb) fun σ H Q h => by
  obtain ⟨G, ρ, F, r, ρ', W, hm, q⟩ := tcall_of (dvs := []) (E := E0) hn h
  cases hm
  exact q [] H F (Ste.refl W) trivial
end
end Sw
set_option Elab.async false
set_option linter.all false
set_option maxRecDepth 100000
set_option maxHeartbeats 4000000
namespace Sw
open PySem PySem.Spec PyProof.Rows L2

inductive Fl where
  | nx | rt (v : Vl) | bk | ct
abbrev S := Rho → Option (Fl × Rho)
def EdR (K : PySem.W.Frag) (G : Gd) (D : Ends) (fl : Fl) (ρ' : Rho) (F : Hp) : Prop := ∀ (σ' : L2.St) (H' F' : Hp), Wd K G ρ' σ' H' F' → Same F F' → match fl with
  | .nx => D.nx σ' H'
  | .bk => D.bk σ' H'
  | .ct => D.ct σ' H'
  | .rt r => ∀ v, ResR K G.H0 F' H' v r → D.rt v H'
def tS (K : PySem.W.Frag) (m : S) : TS := fun D σ H => ∃ G ρ F fl ρ', Wd K G ρ σ H F ∧ m ρ = some (fl, ρ') ∧ EdR K G D fl ρ' F
abbrev SS (X : Cx) (st : Stmt) (m : S) : Prop := PS X st (tS X.K m)
abbrev SB (X : Cx) (st : List Stmt) (m : S) : Prop := PSs X st (tS X.K m)
theorem ps_weak {X : Cx} {st : Stmt} {t t' : TS} (h : PS X st t) (w : ∀ D σ H, t' D σ H → t D σ H) : PS X st t' := ⟨fun pins s σ H D I q => h.run pins s σ H D I (w _ _ _ q)⟩
theorem pss_weak {X : Cx} {st : List Stmt} {t t' : TS} (h : PSs X st t) (w : ∀ D σ H, t' D σ H → t D σ H) : PSs X st t' := ⟨fun pins s σ H D I q => h.run pins s σ H D I (w _ _ _ q)⟩

def sNx : S := fun ρ => some (.nx, ρ)
def sBk : S := fun ρ => some (.bk, ρ)
def sCt : S := fun ρ => some (.ct, ρ)
def sSeq (a b : S) : S := fun ρ => (a ρ).bind fun p => match p.1 with
  | .nx => b p.2
  | fl => some (fl, p.2)
def sIf (t : M Bool) (a b : S) : S := fun ρ => (t ρ).bind fun p => if p.1 = true then a p.2 else b p.2
def sRet (m : M Vl) : S := fun ρ => (m ρ).bind fun p => match p.1 with
  | .bw i => match p.2[i]? with
    | some (.ow xs) => some (.rt (.fr xs), p.2)
    | _ => none
  | r => some (.rt r, p.2)
def sDrop (m : M Vl) : S := fun ρ => (m ρ).bind fun p => some (.nx, p.2)
/-- a name's slot takes a value -/
def asg (i : Nat) (r : Vl) (ρ : Rho) : Option Rho := match ρ[i]? with
  | some (.io _) => none
  | none => none
  | some _ => match r with
    | .fz x => some (ρ.set i (.d x))
    | .fr xs => some (ρ.set i (.ow xs))
    | .bw j => (frz ρ (.bw j)).bind fun p => some (p.2.set i (.d p.1))
def sAsg (i : Nat) (m : M Vl) : S := fun ρ => (m ρ).bind fun p => (asg i p.1 p.2).bind fun ρ2 => some (.nx, ρ2)

section
variable {K : PySem.W.Frag} {G : Gd} {ρ : Rho} {σ : L2.St} {H F : Hp} {v : V}
theorem Wd.set {i : Nat} {s s0 : Sl} (W : Wd K G ρ σ H F) (h0 : ρ[i]? = some s0) (nio : ∀ xs, s0 ≠ .io xs) (nio2 : ∀ xs, s ≠ .io xs) (hs : SlR K G (σ.set i (some v)) H F i s) (ap : ∀ xs a, s = .ow xs → v = .ref a → ∀ j, ¬ Ow ρ σ j a) : Wd K G (ρ.set i s) (σ.set i (some v)) H F := by
  have hi : i < ρ.length := (List.getElem?_eq_some_iff.mp h0).1
  have hiσ : i < σ.length := by rw [← W.len]; exact hi
  have old : ∀ {j : Nat} {a : Addr}, j ≠ i → Ow (ρ.set i s) (σ.set i (some v)) j a → Ow ρ σ j a := fun {j a} ne o => by
    obtain ⟨⟨ys, o1⟩, o2⟩ := o
    rw [List.getElem?_set_ne (Ne.symm ne)] at o1 o2
    exact ⟨⟨ys, o1⟩, o2⟩
  have new : ∀ {a : Addr}, Ow (ρ.set i s) (σ.set i (some v)) i a → ∀ j, ¬ Ow ρ σ j a := fun {a} o => by
    obtain ⟨⟨ys, o1⟩, o2⟩ := o
    rw [List.getElem?_set_self hi] at o1
    rw [List.getElem?_set_self hiσ] at o2
    cases o2
    rcases o1 with o1 | o1
    · cases o1; exact ap ys a rfl rfl
    · cases o1; exact absurd rfl (nio2 ys)
  refine ⟨by rw [List.length_set, List.length_set]; exact W.len, by rw [List.length_set]; exact W.gl, W.sub, W.f0, W.kp, W.nw, W.it, fun j s' h => ?_, fun j k a o1 o2 => ?_, fun j a z => ?_⟩
  · by_cases ne : j = i
    · subst ne
      rw [List.getElem?_set_self hi] at h
      cases h
      exact hs
    · rw [List.getElem?_set_ne (Ne.symm ne)] at h
      have q := W.sl j s' h
      have eσ : (σ.set i (some v))[j]? = σ[j]? := List.getElem?_set_ne (Ne.symm ne)
      cases s' with
      | no => trivial
      | d x => obtain ⟨u, e, r⟩ := q; exact ⟨u, eσ.trans e, r⟩
      | ow ys => obtain ⟨a, us, e, p⟩ := q; exact ⟨a, us, eσ.trans e, p⟩
      | io ys => obtain ⟨a, us, e, p⟩ := q; exact ⟨a, us, eσ.trans e, p⟩
  · by_cases nj : j = i
    · by_cases nk : k = i
      · rw [nj, nk]
      · rw [nj] at o1
        exact absurd (old nk o2) (new o1 k)
    · by_cases nk : k = i
      · rw [nk] at o2
        exact absurd (old nj o1) (new o2 j)
      · exact W.ap j k a (old nj o1) (old nk o2)
  · obtain ⟨⟨ys, z1⟩, z2⟩ := W.ai j a z
    have ne : j ≠ i := fun e => by
      rw [e, h0] at z1
      cases z1
      exact nio ys rfl
    exact ⟨⟨ys, by rw [List.getElem?_set_ne (Ne.symm ne)]; exact z1⟩, by rw [List.getElem?_set_ne (Ne.symm ne)]; exact z2⟩
theorem asg_ok {i : Nat} {r : Vl} {ρ' : Rho} {P : Hp} (W : Wd K G ρ σ H F) (hP : ∀ a, P a = none → G.H0 a = none) (R : VlR K G P ρ σ H F v r) (e : asg i r ρ = some ρ') : ∃ F', Wd K G ρ' (σ.set i (some v)) H F' ∧ Same F F' := by
  unfold asg at e
  split at e
  · cases e
  · cases e
  · rename_i s0 nio h0
    have hi : i < ρ.length := (List.getElem?_eq_some_iff.mp h0).1
    have hiσ : i < σ.length := by rw [← W.len]; exact hi
    have self : (σ.set i (some v))[i]? = some (some v) := List.getElem?_set_self hiσ
    have nio : ∀ xs, s0 ≠ .io xs := fun xs z => nio xs z
    cases r with
    | fz x =>
      cases e
      exact ⟨F, W.set h0 nio (fun _ z => nomatch z) ⟨v, self, R⟩ (fun _ _ z => nomatch z), Same.refl _⟩
    | fr xs =>
      cases e
      obtain ⟨a, vs, rfl, h1, h2, h3, h4, h5⟩ := R
      exact ⟨F, W.set h0 nio (fun _ z => nomatch z) ⟨a, vs, self, h1, h2, h3, hP a h4⟩ (fun ys b _ z => by cases z; exact h5), Same.refl _⟩
    | bw j =>
      obtain ⟨⟨x, ρ1⟩, e1, e⟩ := Option.bind_eq_some_iff.mp e
      cases e
      obtain ⟨F1, s1, R1⟩ := frz_ok W (v := v) (r := .bw j) R e1
      have h0' : ∃ s1, ρ1[i]? = some s1 ∧ ∀ xs, s1 ≠ .io xs := by
        simp only [frz] at e1
        split at e1
        · simp at e1
          obtain ⟨rfl, rfl⟩ := e1
          by_cases q : i = j
          · subst q
            exact ⟨_, List.getElem?_set_self hi, fun _ z => nomatch z⟩
          · exact ⟨s0, by rw [List.getElem?_set_ne (Ne.symm q)]; exact h0, nio⟩
        · cases e1
      obtain ⟨s', hs', nio'⟩ := h0'
      exact ⟨F1, s1.wd.set hs' nio' (fun _ z => nomatch z) ⟨v, self, R1⟩ (fun _ _ z => nomatch z), s1.ff⟩
theorem asg_fz {i : Nat} {x : D} {ρ' : Rho} (W : Wd K G ρ σ H F) (R : Rep K F v x) (e : asg i (.fz x) ρ = some ρ') : Wd K G ρ' (σ.set i (some v)) H F := by
  unfold asg at e
  split at e
  · cases e
  · cases e
  · rename_i s0 nio h0
    have hi : i < ρ.length := (List.getElem?_eq_some_iff.mp h0).1
    have hiσ : i < σ.length := by rw [← W.len]; exact hi
    cases e
    exact W.set h0 (fun xs z => nio xs z) (fun _ z => nomatch z) ⟨v, List.getElem?_set_self hiσ, R⟩ (fun _ _ z => nomatch z)
theorem Ste.pre0 {ρ1 : Rho} {H1 F1 : Hp} (W : Wd K G ρ σ H F) : ∀ a, H a = none → G.H0 a = none := fun _ h => W.h0 h
end

/-! ### plain statements -/
section
variable {X : Cx} {st : Stmt} {rest : List Stmt} {m m1 m2 : S} {e c : Expr} {me : M Vl} {mt : M Bool} {pos : Pos}
theorem sb_nil : SB X [] sNx := pss_weak pss_nil fun D σ H ⟨G, ρ, F, fl, ρ', W, hm, q⟩ => by
  cases hm
  exact q σ H F W (Same.refl _)
theorem sb_one (h : SS X st m) : SB X [st] m := pss_one h
theorem sb_cons (h1 : SS X st m1) (h2 : SB X rest m2) : SB X (st :: rest) (sSeq m1 m2) := by
  refine pss_weak (pss_cons h1 h2) fun D σ H ⟨G, ρ, F, fl, ρ', W, hm, q⟩ => ?_
  unfold sSeq at hm
  obtain ⟨⟨f1, ρ1⟩, e1, hm⟩ := Option.bind_eq_some_iff.mp hm
  refine ⟨G, ρ, F, f1, ρ1, W, e1, fun σ' H' F' W' ff => ?_⟩
  cases f1 with
  | nx => exact ⟨G, ρ1, F', fl, ρ', W', hm, fun σ2 H2 F2 W2 f2 => q σ2 H2 F2 W2 (ff.trans f2)⟩
  | bk => cases hm; exact q σ' H' F' W' ff
  | ct => cases hm; exact q σ' H' F' W' ff
  | rt r => cases hm; exact q σ' H' F' W' ff
theorem ss_pass : SS X (.Pass pos) sNx := ps_weak ps_pass fun D σ H ⟨G, ρ, F, fl, ρ', W, hm, q⟩ => by
  cases hm
  exact q σ H F W (Same.refl _)
theorem ss_break : SS X (.Break pos) sBk := ps_weak ps_break fun D σ H ⟨G, ρ, F, fl, ρ', W, hm, q⟩ => by
  cases hm
  exact q σ H F W (Same.refl _)
theorem ss_continue : SS X (.Continue pos) sCt := ps_weak ps_continue fun D σ H ⟨G, ρ, F, fl, ρ', W, hm, q⟩ => by
  cases hm
  exact q σ H F W (Same.refl _)
theorem ss_if {a b : List Stmt} (hc : ST X c mt) (ha : SB X a m1) (hb : SB X b m2) : SS X (.If c a b pos) (sIf mt m1 m2) := by
  refine ps_weak (ps_if hc ha hb) fun D σ H ⟨G, ρ, F, fl, ρ', W, hm, q⟩ => ?_
  unfold sIf at hm
  obtain ⟨⟨x, ρ1⟩, e1, hm⟩ := Option.bind_eq_some_iff.mp hm
  refine tmt_use W e1 fun H1 F1 s1 => ?_
  cases x with
  | true => simp only [if_true] at hm ⊢; exact ⟨G, ρ1, F1, fl, ρ', s1.wd, hm, fun σ2 H2 F2 W2 f2 => q σ2 H2 F2 W2 (s1.ff.trans f2)⟩
  | false => simp at hm ⊢; exact ⟨G, ρ1, F1, fl, ρ', s1.wd, hm, fun σ2 H2 F2 W2 f2 => q σ2 H2 F2 W2 (s1.ff.trans f2)⟩
theorem ss_ret (h : SE X e me) : SS X (.Return (some e) pos) (sRet me) := by
  refine ps_weak (ps_ret h) fun D σ H ⟨G, ρ, F, fl, ρ', W, hm, q⟩ => ?_
  unfold sRet at hm
  obtain ⟨⟨r, ρ1⟩, e1, hm⟩ := Option.bind_eq_some_iff.mp hm
  refine ⟨G, ρ, F, r, ρ1, W, e1, fun v H1 F1 s1 R => ?_⟩
  cases r with
  | fz x => cases hm; exact q σ H1 F1 s1.wd s1.ff v R
  | fr xs =>
    cases hm
    obtain ⟨a, vs, e, h1, h2, h3, h4, _⟩ := R
    exact q σ H1 F1 s1.wd s1.ff v ⟨a, vs, e, h1, h2, h3, W.h0 h4⟩
  | bw i =>
    have R : σ[i]? = some (some v) := R
    dsimp only at hm
    split at hm
    · rename_i xs hx
      cases hm
      obtain ⟨a, vs, e2, h1, h2, h3, h4⟩ := s1.wd.sl i _ hx
      rw [R] at e2; cases e2
      exact q σ H1 F1 s1.wd s1.ff _ ⟨a, vs, rfl, h1, h2, h3, h4⟩
    · cases hm
def sRetN : S := fun ρ => some (.rt (.fz .non), ρ)
theorem ss_retN : SS X (.Return none pos) sRetN := ps_weak ps_retN fun D σ H ⟨G, ρ, F, fl, ρ', W, hm, q⟩ => by
  cases hm
  exact q σ H F W (Same.refl _) _ .non
theorem ss_doc {x j pos pos'} : SS X (.Expr (.Constant (.str x) j pos) pos') sNx := ps_weak ps_doc fun D σ H ⟨G, ρ, F, fl, ρ', W, hm, q⟩ => by
  cases hm
  exact q σ H F W (Same.refl _)
theorem ss_expr (h : SE X e me) (hs : swapsWith e none pos.line X.env = pure false := by rfl) : SS X (.Expr e pos) (sDrop me) := by
  refine ps_weak (ps_expr h hs) fun D σ H ⟨G, ρ, F, fl, ρ', W, hm, q⟩ => ?_
  unfold sDrop at hm
  obtain ⟨⟨r, ρ1⟩, e1, hm⟩ := Option.bind_eq_some_iff.mp hm
  cases hm
  exact ⟨G, ρ, F, r, ρ1, W, e1, fun v H1 F1 s1 R => q σ H1 F1 s1.wd s1.ff⟩
/-- what stores into a slot, as it was made -/
theorem sasg_of {K : PySem.W.Frag} {i : Nat} {D : Ends} {σ : L2.St} {H : Hp} (h : tS K (sAsg i me) D σ H) : tAsg (tM K me) (gName i) D σ H := by
  obtain ⟨G, ρ, F, fl, ρ', W, hm, q⟩ := h
  unfold sAsg at hm
  obtain ⟨⟨r, ρ1⟩, e1, hm⟩ := Option.bind_eq_some_iff.mp hm
  obtain ⟨ρ2, e2, hm⟩ := Option.bind_eq_some_iff.mp hm
  cases hm
  refine ⟨G, ρ, F, r, ρ1, W, e1, fun v H1 F1 s1 R => ?_⟩
  obtain ⟨F2, W2, f2⟩ := asg_ok s1.wd (fun a h => W.h0 h) R e2
  exact q (σ.set i (some v)) H1 F2 W2 (s1.ff.trans f2)
theorem ss_set {i : Nat} {x : Str} {pos' : Pos} (hN : X.N.Nodup) (hi : X.N[i]? = some x) (hx : Loc X.env.scope x) (he : SE X e me) (hs : swapsWith e (some (.Name x pos')) pos.line X.env = pure false := by rfl) (hf : X.fn x = true ∨ X.env.scope.names.lookup x = some .local := by first | exact .inl rfl | exact .inr rfl | assumption) :
    SS X (.Assign [.Name x pos'] e pos) (sAsg i me) := ps_weak (ps_set hN hi hx he hs hf) fun _ _ _ h => sasg_of h

/-! ### x.append(e), x[i] = e, x op= e -/
def sApp (i : Nat) (m : M Vl) : S := fun ρ => (own? ρ i).bind fun _ => (m ρ).bind fun p => (frz p.2 (stl p.1)).bind fun q => (own? q.2 i).bind fun xs => if xs.length < lim then some (.nx, put q.2 i (xs ++ [q.1])) else none
theorem Wd.own_at' {K : PySem.W.Frag} {G : Gd} {ρ : Rho} {σ : L2.St} {H F : Hp} {i : Nat} {xs : List D} (W : Wd K G ρ σ H F) (h : own? ρ i = some xs) : ∃ a, σ[i]? = some (some (.ref a)) ∧ ∃ vs, H a = some (.lst vs) ∧ Reps K F vs xs := by
  rcases own_sl h with q | q
  · obtain ⟨b, vs, e, p1, p2, _⟩ := W.sl i _ q
    exact ⟨b, e, vs, p1, p2⟩
  · obtain ⟨b, vs, e, p1, p2, _⟩ := W.sl i _ q
    exact ⟨b, e, vs, p1, p2⟩
theorem Wd.own_at {K : PySem.W.Frag} {G : Gd} {ρ : Rho} {σ : L2.St} {H F : Hp} {i : Nat} {xs : List D} (W : Wd K G ρ σ H F) (h : own? ρ i = some xs) : ∃ a, σ[i]? = some (some (.ref a)) ∧ ∃ vs, H a = some (.lst vs) :=
  let ⟨a, h1, vs, h2, _⟩ := W.own_at' h
  ⟨a, h1, vs, h2⟩
theorem Wd.put {K : PySem.W.Frag} {G : Gd} {ρ : Rho} {σ : L2.St} {H F : Hp} {i : Nat} {a : Addr} {us : List V} {xs ys : List D} (W : Wd K G ρ σ H F) (h : own? ρ i = some xs) (ha : σ[i]? = some (some (.ref a))) (r : Reps K F us ys) : Wd K G (put ρ i ys) σ (upd H a (.lst us)) F ∧ ∃ vs, H a = some (.lst vs) ∧ Reps K F vs xs := by
  have sl := own_sl h
  have o : Ow ρ σ i a := ⟨⟨xs, sl⟩, ha⟩
  obtain ⟨vs0, h1, h2⟩ := W.ow_there o
  have hv : ∃ vs, H a = some (.lst vs) ∧ Reps K F vs xs := by
    rcases sl with q | q
    · obtain ⟨b, vs, e, p1, p2, _⟩ := W.sl i _ q
      rw [ha] at e; cases e
      exact ⟨vs, p1, p2⟩
    · obtain ⟨b, vs, e, p1, p2, _⟩ := W.sl i _ q
      rw [ha] at e; cases e
      exact ⟨vs, p1, p2⟩
  have s := after_call (K := K) (G := G) (σ := σ) (H := H) (ρ := ρ) (F := F) (F' := F) (H' := upd H a (.lst us)) (is := [i]) (as := [a]) (os := [ys]) W (by simp) rfl (fun k j b e1 e2 => by
    cases k with
    | zero => simp at e1 e2; subst e1; subst e2; exact o
    | succ k => simp at e1) (Same.refl _) (fun b x e => by
      have nb : b ≠ a := fun z => by rw [z, h2] at e; cases e
      rw [upd_ne nb]; exact W.sub _ _ e) (fun b x e n => by
      have nb : b ≠ a := fun z => n (by rw [z]; exact List.mem_cons_self)
      rw [upd_ne nb]; exact e) (fun _ h => .inl h) ⟨⟨us, upd_same, r, h2⟩, trivial⟩
  exact ⟨s.wd, hv⟩
theorem ss_app {i : Nat} {o : Expr} {apos cpos : Pos} (ho : PE X o (tVar i)) (he : SE X e me)
    (hbase : attributeBase o "append" X.env (eval o X.env) = eval o X.env := by rfl)
    (hfew : ((backTo cpos (starEach [e] X.env)).all (fun x => !x.1) && (backToKw cpos (keywordEach [] X.env)).all (fun x => x.1.isSome)
      && decide ([e].length + ([] : List Keyword).length + (if ([] : List Keyword).isEmpty then 0 else 1) < 30)) = true := by rfl)
    (hline : (apos.endLine == cpos.line) = true := by rfl) (hst : starEach [e] X.env = (false, eval e X.env) :: starEach [] X.env := by rfl) (hplain : (backTo cpos (starEach [] X.env)).any (·.1) = false := by rfl)
    (hs : swapsWith (.Call (.Attribute o "append" apos) [e] [] cpos) none pos.line X.env = pure false := by rfl) :
    SS X (.Expr (.Call (.Attribute o "append" apos) [e] [] cpos) pos) (sApp i me) := by
  refine ps_weak (ps_expr (pe_bm PySem.F.plainAttrs_list PySem.F.slot_list_append PySem.F.type_list_append mt_append ho (pa_cons he pa_nil hst) hbase hfew hline hst hplain) hs) fun D σ H ⟨G, ρ, F, fl, ρ', W, hm, q⟩ => ?_
  unfold sApp at hm
  obtain ⟨xs0, e0, hm⟩ := Option.bind_eq_some_iff.mp hm
  obtain ⟨⟨r, ρ1⟩, e1, hm⟩ := Option.bind_eq_some_iff.mp hm
  obtain ⟨⟨x, ρ2⟩, e2, hm⟩ := Option.bind_eq_some_iff.mp hm
  obtain ⟨xs, e3, hm⟩ := Option.bind_eq_some_iff.mp hm
  obtain ⟨a, ha, vs0, hv0⟩ := W.own_at e0
  split at hm
  · rename_i hl
    cases hm
    refine ⟨.ref a, ha, .inl ⟨rfl, _, SqL.of hv0⟩, ?_⟩
    refine tm_use W e1 fun v H1 F1 s1 R1 => ?_
    obtain ⟨F2, s2, R2⟩ := frz_ok s1.wd R1 e2
    obtain ⟨b, hb, us, hu, ru⟩ := s2.wd.own_at' e3
    rw [ha] at hb; cases hb
    obtain ⟨W3, _⟩ := s2.wd.put (a := a) e3 ha (ru.append (.cons R2 .nil))
    exact ⟨a, us, v, rfl, rfl, hu, lim_lt (by rw [ru.len]; exact hl), q σ _ F2 W3 (s1.ff.trans s2.ff)⟩
  · cases hm
/-- x[i] = v, x a list of one's own -/
def ixD (n : Nat) (i : Int) : Option Nat := ixN n i
def sSetI (i : Nat) (mi mv : M Vl) : S := fun ρ => (mv ρ).bind fun p => (frz p.2 (stl p.1)).bind fun p1 => (own? p1.2 i).bind fun _ => (mi p1.2).bind fun p2 => match p2.1 with
  | .fz (.int k) => (own? p2.2 i).bind fun xs => (ixN xs.length k).bind fun j => some (.nx, put p2.2 i (xs.set j p1.1))
  | _ => none
theorem ss_seti {i : Nat} {o ei : Expr} {mi mv : M Vl} {spos : Pos} (ho : PE X o (tVar i)) (hi : SE X ei mi) (hv : SE X e mv)
    (ha : ∀ v, assign (.Subscript o ei spos) X.env v = (do
      let ov ← holding [v] (eval o X.env)
      let iv ← holding [v, ov] (eval ei X.env)
      standAt spos
      holding [v, ov, iv] (setItem ov iv v)
      release [v, ov, iv] []) := by intro _; rfl)
    (hs : swapsWithSole [.Subscript o ei spos] e pos.line X.env = pure false := by rfl) (hw : swappedStores [.Subscript o ei spos] e X.env = pure none := by rfl)
    (h1 : (assignEach [.Subscript o ei spos] X.env).map (·.2) = [assign (.Subscript o ei spos) X.env] := by rfl) :
    SS X (.Assign [.Subscript o ei spos] e pos) (sSetI i mi mv) := by
  refine ps_weak (ps_asg hv (pg_sub ho hi set_list ha) hs hw h1) fun D σ H ⟨G, ρ, F, fl, ρ', W, hm, q⟩ => ?_
  unfold sSetI at hm
  obtain ⟨⟨r, ρ1⟩, e1, hm⟩ := Option.bind_eq_some_iff.mp hm
  obtain ⟨⟨x, ρ2⟩, e2, hm⟩ := Option.bind_eq_some_iff.mp hm
  obtain ⟨xs0, e0, hm⟩ := Option.bind_eq_some_iff.mp hm
  obtain ⟨⟨y, ρ3⟩, e3, hm⟩ := Option.bind_eq_some_iff.mp hm
  refine tm_use W e1 fun v H1 F1 s1 R1 => ?_
  obtain ⟨F2, s2, R2⟩ := frz_ok s1.wd R1 e2
  obtain ⟨a, ha, _⟩ := s2.wd.own_at e0
  refine ⟨.ref a, ha, ?_⟩
  refine tm_use s2.wd e3 fun u H3 F3 s3 R3 => ?_
  split at hm
  · rename_i k hk
    dsimp only at hk
    subst hk
    obtain ⟨xs, e4, hm⟩ := Option.bind_eq_some_iff.mp hm
    obtain ⟨j, e5, hm⟩ := Option.bind_eq_some_iff.mp hm
    cases hm
    cases (show Rep X.K F3 u (.int k) from R3)
    obtain ⟨b, hb, us, hu, ru⟩ := s3.wd.own_at' e4
    rw [ha] at hb; cases hb
    obtain ⟨W4, _⟩ := s3.wd.put (a := a) e4 ha (Reps.set (R2.mono s3.ff) j ru)
    exact ⟨a, us, k, j, rfl, rfl, hu, by rw [ru.len]; exact e5, q σ _ F3 W4 ((s1.ff.trans s2.ff).trans s3.ff)⟩
  · cases hm
end
/-- a statement that is never reached -/
def sNo : S := fun _ => none
theorem ss_never {X : Cx} {st : Stmt} : SS X st sNo := ps_weak ps_never fun D σ H ⟨G, ρ, F, fl, ρ', W, hm, q⟩ => by cases hm
end Sw
set_option Elab.async false
set_option linter.all false
set_option maxRecDepth 100000
set_option maxHeartbeats 4000000
namespace Sw
open PySem PySem.Spec PyProof.Rows L2

/-! ### targets -/
def Mod' (is : List Nat) (σ σ' : L2.St) : Prop := σ'.length = σ.length ∧ ∀ j : Nat, j ∉ is → σ'[j]? = σ[j]?
def tG (K : PySem.W.Frag) (is : List Nat) (g : D → Rho → Option Rho) : TG := fun v σ H Q => ∃ G ρ F x ρ', Wd K G ρ σ H F ∧ Rep K F v x ∧ g x ρ = some ρ' ∧ ∀ σ', Wd K G ρ' σ' H F → Mod' is σ σ' → Q σ' H
def tGs (K : PySem.W.Frag) (is : List Nat) (g : List D → Rho → Option Rho) : TGs := fun vs σ H Q => ∃ G ρ F xs ρ', Wd K G ρ σ H F ∧ Reps K F vs xs ∧ g xs ρ = some ρ' ∧ ∀ σ', Wd K G ρ' σ' H F → Mod' is σ σ' → Q σ' H
abbrev SG (X : Cx) (tg : Expr) (is : List Nat) (g : D → Rho → Option Rho) : Prop := PG X tg (tG X.K is g)
abbrev SGs (X : Cx) (tg : List Expr) (is : List Nat) (g : List D → Rho → Option Rho) : Prop := PGs X tg (tGs X.K is g)
theorem pg_weak {X : Cx} {e : Expr} {t t' : TG} (h : PG X e t) (w : ∀ v σ H Q, t' v σ H Q → t v σ H Q) : PG X e t' := ⟨fun pins s σ H v u Q I r q => h.run pins s σ H v u Q I r (w _ _ _ _ q)⟩
theorem pgs_weak {X : Cx} {e : List Expr} {t t' : TGs} (h : PGs X e t) (w : ∀ v σ H Q, t' v σ H Q → t v σ H Q) : PGs X e t' := ⟨fun pins s σ H v u Q I r q => h.run pins s σ H v u Q I r (w _ _ _ _ q)⟩
def gN (i : Nat) : D → Rho → Option Rho := fun x ρ => asg i (.fz x) ρ
def gsN : List D → Rho → Option Rho := fun xs ρ => match xs with
  | [] => some ρ
  | _ => none
def gsC (g : D → Rho → Option Rho) (r : List D → Rho → Option Rho) : List D → Rho → Option Rho := fun xs ρ => match xs with
  | x :: ys => (g x ρ).bind fun ρ1 => r ys ρ1
  | [] => none
def gT (n : Nat) (r : List D → Rho → Option Rho) : D → Rho → Option Rho := fun x ρ => match x with
  | .tup xs => if xs.length = n then r xs ρ else none
  | _ => none
theorem Mod'.set {σ : L2.St} (i : Nat) (v : Option V) : Mod' [i] σ (σ.set i v) := ⟨by rw [List.length_set], fun j h => List.getElem?_set_ne (fun z => h (by rw [z]; exact List.mem_cons_self))⟩
theorem Mod'.trans {is js : List Nat} {σ σ1 σ2 : L2.St} (a : Mod' is σ σ1) (b : Mod' js σ1 σ2) : Mod' (is ++ js) σ σ2 := ⟨b.1.trans a.1, fun j h => (b.2 j fun z => h (List.mem_append_right _ z)).trans (a.2 j fun z => h (List.mem_append_left _ z))⟩
section
variable {X : Cx} {pos : Pos}
theorem sg_name {i : Nat} {x : Str} (hN : X.N.Nodup) (hi : X.N[i]? = some x) (hx : Loc X.env.scope x) (hf : X.fn x = true ∨ X.env.scope.names.lookup x = some .local := by first | exact .inl rfl | exact .inr rfl | assumption) : SG X (.Name x pos) [i] (gN i) := by
  refine pg_weak (pg_name hN hi hx hf) fun v σ H Q ⟨G, ρ, F, y, ρ', W, R, e, q⟩ => ?_
  exact q _ (asg_fz W R e) (Mod'.set i _)
theorem sgs_nil : SGs X [] [] gsN := pgs_weak pgs_nil fun vs σ H Q ⟨G, ρ, F, xs, ρ', W, R, e, q⟩ => by
  cases R with
  | nil => cases e; exact ⟨rfl, q σ W ⟨rfl, fun _ _ => rfl⟩⟩
  | cons _ _ => cases e
theorem sgs_cons {e : Expr} {es : List Expr} {is js : List Nat} {g : D → Rho → Option Rho} {r : List D → Rho → Option Rho} (h1 : SG X e is g) (h2 : SGs X es js r)
    (hs : (assignEach (e :: es) X.env).map (·.2) = assign e X.env :: (assignEach es X.env).map (·.2) := by rfl) : SGs X (e :: es) (is ++ js) (gsC g r) := by
  refine pgs_weak (pgs_cons h1 h2 hs) fun vs σ H Q ⟨G, ρ, F, xs, ρ', W, R, e, q⟩ => ?_
  cases R with
  | nil => cases e
  | cons r1 r2 =>
    unfold gsC at e
    obtain ⟨ρ1, e1, e⟩ := Option.bind_eq_some_iff.mp e
    refine ⟨_, _, rfl, G, ρ, F, _, ρ1, W, r1, e1, fun σ1 W1 m1 => ?_⟩
    exact ⟨G, ρ1, F, _, ρ', W1, r2, e, fun σ2 W2 m2 => q σ2 W2 (m1.trans m2)⟩
theorem sg_tup {es : List Expr} {k n : Nat} {is : List Nat} {r : List D → Rho → Option Rho} (hc : X.calm = true) (h : SGs X es is r) (hn : (assignEach es X.env).length = n := by rfl) (hst : (assignEach es X.env).findIdx? (·.1) = none := by rfl) : SG X (.Tuple es k pos) is (gT n r) := by
  refine pg_weak (pg_tup hc h hn hst) fun v σ H Q ⟨G, ρ, F, x, ρ', W, R, e, q⟩ => ?_
  unfold gT at e
  split at e
  · split at e
    · rename_i hl
      cases R with
      | tup sq rs => exact ⟨_, _, rfl, same_t W.sub sq, by rw [rs.len]; exact hl, G, ρ, F, _, ρ', W, rs, e, q⟩
    · cases e
  · cases e
/-- a, b = e -/
def sAsgT (m : M Vl) (g : D → Rho → Option Rho) : S := fun ρ => (m ρ).bind fun p => match p.1 with
  | .fz x => (g x p.2).bind fun ρ2 => some (.nx, ρ2)
  | _ => none
theorem ss_asgT {tg e : Expr} {me : M Vl} {is : List Nat} {g : D → Rho → Option Rho} (he : SE X e me) (hg : SG X tg is g) (hs : swapsWithSole [tg] e pos.line X.env = pure false := by rfl) (hw : swappedStores [tg] e X.env = pure none := by rfl)
    (h1 : (assignEach [tg] X.env).map (·.2) = [assign tg X.env] := by rfl) : SS X (.Assign [tg] e pos) (sAsgT me g) := by
  refine ps_weak (ps_asg he hg hs hw h1) fun D σ H ⟨G, ρ, F, fl, ρ', W, hm, q⟩ => ?_
  unfold sAsgT at hm
  obtain ⟨⟨r, ρ1⟩, e1, hm⟩ := Option.bind_eq_some_iff.mp hm
  refine ⟨G, ρ, F, r, ρ1, W, e1, fun v H1 F1 s1 R => ?_⟩
  split at hm
  · rename_i x hx
    dsimp only at hx
    subst hx
    obtain ⟨ρ2, e2, hm⟩ := Option.bind_eq_some_iff.mp hm
    cases hm
    exact ⟨G, ρ1, F1, x, _, s1.wd, R, e2, fun σ2 W2 _ => q σ2 H1 F1 W2 s1.ff⟩
  · cases hm
end

/-! ### what is walked -/
structure JR (K : PySem.W.Frag) (J : It) (F : Hp) (xs : List D) : Prop where
  go : ∀ i H, Same F H → i < xs.length → J.go i H
  yl : ∀ i H F1 x H', i < xs.length → Same F F1 → Same F1 H → J.yld i H x H' → ∃ F2 d, Alc F1 H F2 H' ∧ xs[i]? = some d ∧ Rep K F2 x d
  st : ∀ i H, Same F H → xs.length ≤ i → J.stop i H
def tI (K : PySem.W.Frag) (m : M (List D)) : TI := fun σ H R => ∃ G ρ F xs ρ', Wd K G ρ σ H F ∧ m ρ = some (xs, ρ') ∧ ∀ J H' F', Ste K G ρ σ H F ρ' H' F' → JR K J F' xs → R J H'
abbrev SI (X : Cx) (tg iter : Expr) (m : M (List D)) : Prop := PI X tg iter (tI X.K m)
theorem pi_weak {X : Cx} {tg e : Expr} {t t' : TI} (h : PI X tg e t) (w : ∀ σ H R, t' σ H R → t σ H R) : PI X tg e t' := ⟨fun pins s σ H R I q => h.run pins s σ H R I (w _ _ _ q)⟩
theorem pi_or {X : Cx} {tg e : Expr} {t t' : TI} (h : PI X tg e t) (h' : PI X tg e t') : PI X tg e (fun σ H R => t σ H R ∨ t' σ H R) := ⟨fun pins s σ H R I q => q.elim (h.run pins s σ H R I) (h'.run pins s σ H R I)⟩
def itemsOf : D → Option (List D)
  | .lst xs => some xs
  | .tup xs => some xs
  | .str s => some (s.map fun c => .str [c])
  | .scr ns => some (ns.map .int)
  | _ => none
def iSq (m : M Vl) : M (List D) := fun ρ => (m ρ).bind fun p => (frz p.2 (stl p.1)).bind fun q => (itemsOf q.1).bind fun xs => some (xs, q.2)
theorem Reps.ints {K : PySem.W.Frag} {F : Hp} : ∀ ns : List Int, Reps K F (ns.map V.int) (ns.map D.int)
  | [] => .nil
  | n :: ns => .cons (.int n) (Reps.ints ns)
theorem jr_list {K : PySem.W.Frag} {F : Hp} {a : Addr} {vs : List V} {xs : List D} (h : SqL K F a vs) (r : Reps K F vs xs) : JR K (Itl K a) F xs where
  go := fun i H s hi => ⟨vs, vs[i]'(by rw [r.len]; exact hi), s.seq h, List.getElem?_eq_getElem _⟩
  yl := fun i H F1 x H' hi s1 s2 y => by
    obtain ⟨rfl, y⟩ := y
    have e := y vs (s2.seq (s1.seq h))
    obtain ⟨d, h1, h2⟩ := r.get e
    exact ⟨F1, d, Alc.refl s2, h1, h2.mono s1⟩
  st := fun i H s hi => ⟨vs, s.seq h, by rw [r.len]; exact hi⟩
theorem jr_tup {K : PySem.W.Frag} {F : Hp} {a : Addr} {vs : List V} {xs : List D} (h : SqT K F a vs) (r : Reps K F vs xs) : JR K (Itt K a) F xs where
  go := fun i H s hi => ⟨vs, vs[i]'(by rw [r.len]; exact hi), same_t s h, List.getElem?_eq_getElem _⟩
  yl := fun i H F1 x H' hi s1 s2 y => by
    obtain ⟨rfl, y⟩ := y
    have e := y vs (same_t s2 (same_t s1 h))
    obtain ⟨d, h1, h2⟩ := r.get e
    exact ⟨F1, d, Alc.refl s2, h1, h2.mono s1⟩
  st := fun i H s hi => ⟨vs, same_t s h, by rw [r.len]; exact hi⟩
theorem jr_str {K : PySem.W.Frag} {F : Hp} (s : List Nat) : JR K (Its ⟨s.toArray⟩) F (s.map fun c => .str [c]) where
  go := fun i H _ hi => by
    show i < (⟨s.toArray⟩ : Str).cps.size
    simpa using hi
  yl := fun i H F1 x H' hi s1 s2 y => by
    obtain ⟨rfl, c, e, rfl⟩ := y
    refine ⟨F1, .str [c], Alc.refl s2, ?_, .str [c]⟩
    have e : s[i]? = some c := by simpa using e
    rw [List.getElem?_map, e]
    rfl
  st := fun i H _ hi => by
    show (⟨s.toArray⟩ : Str).cps.size ≤ i
    simpa using hi
theorem jr_rng {K : PySem.W.Frag} {F : Hp} (lo : Int) (n : Nat) : JR K (Itr lo n) F ((List.range n).map fun (i : Nat) => .int (lo + (i : Int))) where
  go := fun i H _ hi => by
    show i < n
    simpa using hi
  yl := fun i H F1 x H' hi s1 s2 y => by
    obtain ⟨rfl, rfl⟩ := y
    have hi : i < n := by simpa using hi
    exact ⟨F1, .int (lo + (i : Int)), Alc.refl s2, by rw [List.getElem?_map, List.getElem?_range hi]; rfl, .int _⟩
  st := fun i H _ hi => by
    show n ≤ i
    simpa using hi
section
variable {X : Cx} {tg e : Expr} {me : M Vl} {pos p : Pos}
theorem si_seq (h : SE X e me) : SI X tg e (iSq me) := by
  refine pi_weak (pi_or (pi_list h) (pi_or (pi_tup h) (pi_str h))) fun σ H R ⟨G, ρ, F, xs, ρ', W, hm, q⟩ => ?_
  unfold iSq at hm
  obtain ⟨⟨r, ρ1⟩, e1, hm⟩ := Option.bind_eq_some_iff.mp hm
  obtain ⟨⟨x, ρ2⟩, e2, hm⟩ := Option.bind_eq_some_iff.mp hm
  obtain ⟨ys, e3, hm⟩ := Option.bind_eq_some_iff.mp hm
  cases hm
  cases x with
  | lst zs =>
    cases e3
    refine .inl (tm_use W e1 fun v H1 F1 s1 R1 => ?_)
    obtain ⟨F2, s2, R2⟩ := frz_ok s1.wd R1 e2
    cases R2 with
    | lst h1 h2 => exact ⟨_, rfl, ⟨_, SqL.of (s2.wd.sub _ _ h1)⟩, q _ _ F2 (s1.trans s2) (jr_list (SqL.of h1) h2)⟩
  | scr zs =>
    cases e3
    refine .inl (tm_use W e1 fun v H1 F1 s1 R1 => ?_)
    obtain ⟨F2, s2, R2⟩ := frz_ok s1.wd R1 e2
    cases R2 with
    | scr h1 => exact ⟨_, rfl, ⟨_, s2.wd.sub.seq h1⟩, q _ _ F2 (s1.trans s2) (jr_list h1 (Reps.ints _))⟩
  | tup zs =>
    cases e3
    refine .inr (.inl (tm_use W e1 fun v H1 F1 s1 R1 => ?_))
    obtain ⟨F2, s2, R2⟩ := frz_ok s1.wd R1 e2
    cases R2 with
    | tup h1 h2 => exact ⟨_, rfl, ⟨_, same_t s2.wd.sub h1⟩, q _ _ F2 (s1.trans s2) (jr_tup h1 h2)⟩
  | str zs =>
    cases e3
    refine .inr (.inr (tm_use W e1 fun v H1 F1 s1 R1 => ?_))
    obtain ⟨F2, s2, R2⟩ := frz_ok s1.wd R1 e2
    cases R2
    exact ⟨_, rfl, q _ _ F2 (s1.trans s2) (jr_str _)⟩
  | non => cases e3
  | bl b => cases e3
  | int i => cases e3
/-- range(n), range(a, b) -/
def rngL (lo : Int) (n : Nat) : List D := (List.range n).map fun (i : Nat) => .int (lo + (i : Int))
def iR1 (a : M (List Vl)) : M (List D) := fun ρ => (a ρ).bind fun p => match p.1 with
  | [.fz (.int j)] => if -(2 ^ 62) ≤ j ∧ j < 2 ^ 62 then some (rngL 0 j.toNat, p.2) else none
  | _ => none
def iR2 (a : M (List Vl)) : M (List D) := fun ρ => (a ρ).bind fun p => match p.1 with
  | [.fz (.int i), .fz (.int j)] => if -(2 ^ 62) ≤ i ∧ i < 2 ^ 62 ∧ -(2 ^ 62) ≤ j ∧ j < 2 ^ 62 then some (rngL i (j - i).toNat, p.2) else none
  | _ => none
theorem vls1 {K : PySem.W.Frag} {σ : L2.St} {F : Hp} {vs : List V} {x : D} (h : VlSs K σ F vs [.fz x]) : ∃ v, vs = [v] ∧ Rep K F v x := by
  match vs, h with
  | [v], h => exact ⟨v, rfl, h.1⟩
theorem vls2 {K : PySem.W.Frag} {σ : L2.St} {F : Hp} {vs : List V} {x y : D} (h : VlSs K σ F vs [.fz x, .fz y]) : ∃ v u, vs = [v, u] ∧ Rep K F v x ∧ Rep K F u y := by
  match vs, h with
  | [v, u], h => exact ⟨v, u, rfl, h.1, h.2.1⟩
theorem si_range1 {a : Expr} {ma : M (List Vl)} (hm : X.mg "range" = none) (hg : Gl X "range") (ha : SA X [a] ma) (hs : starEach [a] X.env = [(false, eval a X.env)] := by rfl) : SI X tg (.Call (.Name "range" p) [a] [] pos) (iR1 ma) := by
  refine pi_weak (pi_range1 hg hm ha hs) fun σ H R ⟨G, ρ, F, xs, ρ', W, hm, q⟩ => ?_
  unfold iR1 at hm
  obtain ⟨⟨r, ρ1⟩, e1, hm⟩ := Option.bind_eq_some_iff.mp hm
  refine ⟨G, ρ, F, r, ρ1, W, e1, fun vs H1 F1 s1 R1 => ?_⟩
  split at hm
  · rename_i j hj
    dsimp only at hj
    subst hj
    split at hm
    · rename_i hb
      cases hm
      obtain ⟨v, rfl, Rv⟩ := vls1 R1
      cases Rv
      exact ⟨j, rfl, hb.1, hb.2, q _ _ F1 s1 (jr_rng 0 j.toNat)⟩
    · cases hm
  · cases hm
theorem si_range2 {a b : Expr} {ma : M (List Vl)} (hm : X.mg "range" = none) (hg : Gl X "range") (ha : SA X [a, b] ma) (hs : starEach [a, b] X.env = [(false, eval a X.env), (false, eval b X.env)] := by rfl) (hs2 : starEach [b] X.env = [(false, eval b X.env)] := by rfl) : SI X tg (.Call (.Name "range" p) [a, b] [] pos) (iR2 ma) := by
  refine pi_weak (pi_range2 hg hm ha hs hs2) fun σ H R ⟨G, ρ, F, xs, ρ', W, hm, q⟩ => ?_
  unfold iR2 at hm
  obtain ⟨⟨r, ρ1⟩, e1, hm⟩ := Option.bind_eq_some_iff.mp hm
  refine ⟨G, ρ, F, r, ρ1, W, e1, fun vs H1 F1 s1 R1 => ?_⟩
  split at hm
  · rename_i i j hj
    dsimp only at hj
    subst hj
    split at hm
    · rename_i hb
      cases hm
      obtain ⟨v, u, rfl, Rv, Ru⟩ := vls2 R1
      cases Rv
      cases Ru
      exact ⟨i, j, rfl, hb, q _ _ F1 s1 (jr_rng i (j - i).toNat)⟩
    · cases hm
  · cases hm
end

/-! ### for, while -/
def forM (g : D → Rho → Option Rho) (b : S) : List D → S
  | [], ρ => some (.nx, ρ)
  | x :: xs, ρ => (g x ρ).bind fun ρ1 => (b ρ1).bind fun p => match p.1 with
    | .nx => forM g b xs p.2
    | .ct => forM g b xs p.2
    | .bk => some (.nx, p.2)
    | .rt v => some (.rt v, p.2)
def sFor (src : M (List D)) (g : D → Rho → Option Rho) (b : S) : S := fun ρ => (src ρ).bind fun p => forM g b p.1 p.2
section
variable {X : Cx} {tg iter c : Expr} {src : M (List D)} {is : List Nat} {g : D → Rho → Option Rho} {body : List Stmt} {b : S} {pos : Pos} {mt : M Bool}
theorem ss_for (hp : PassesOwn (model X.prog X.w) X.A X.env X.xe) (hc : X.calm = true) (hi : SI X tg iter src) (hg : SG X tg is g) (hb : SB X body b)
    (hs : ∀ x, foldedSetIterable iter X.env x = pure x := by intro _; rfl) : SS X (.For tg iter body [] pos) (sFor src g b) := by
  refine ps_weak (ps_for hp hc hi hg hb hs) fun D σ H ⟨G, ρ, F, fl, ρ', W, hm, q⟩ => ?_
  unfold sFor at hm
  obtain ⟨⟨xs, ρ1⟩, e1, hm⟩ := Option.bind_eq_some_iff.mp hm
  refine ⟨G, ρ, F, xs, ρ1, W, e1, fun J H1 F1 s1 jr => ?_⟩
  refine ⟨fun i m σ H => m = xs.length - i ∧ i ≤ xs.length ∧ ∃ ρi Fi, Wd X.K G ρi σ H Fi ∧ Same F1 Fi ∧ forM g b (xs.drop i) ρi = some (fl, ρ'), ⟨xs.length, by simp, Nat.zero_le _, ρ1, F1, s1.wd, Same.refl _, hm⟩, ?_⟩
  rintro i m σ2 H2 ⟨rfl, hi, ρi, Fi, Wi, ff, hf⟩
  by_cases hlt : i < xs.length
  · refine .inr ⟨jr.go i H2 (ff.trans Wi.sub) hlt, fun σ' H' => ∃ ρi Fi, Wd X.K G ρi σ' H' Fi ∧ Same F1 Fi ∧ forM g b (xs.drop (i + 1)) ρi = some (fl, ρ'), fun σ' H' ⟨ρj, Fj, a, b, c⟩ => ⟨xs.length - (i + 1), by omega, rfl, hlt, ρj, Fj, a, b, c⟩, fun x H' y => ?_⟩
    obtain ⟨F2, d, A, hd, Rd⟩ := jr.yl i H2 Fi x H' hlt ff Wi.sub y
    have s2 := Wi.alc A
    have ed : xs[i] = d := by
      rw [List.getElem?_eq_getElem hlt] at hd
      exact Option.some.inj hd
    rw [List.drop_eq_getElem_cons hlt, ed] at hf
    unfold forM at hf
    obtain ⟨ρ3, e3, hf⟩ := Option.bind_eq_some_iff.mp hf
    obtain ⟨⟨f4, ρ4⟩, e4, hf⟩ := Option.bind_eq_some_iff.mp hf
    refine ⟨G, ρi, F2, d, ρ3, s2.wd, Rd, e3, fun σ3 W3 _ => ?_⟩
    refine ⟨G, ρ3, F2, f4, ρ4, W3, e4, fun σ4 H4 F4 W4 f34 => ?_⟩
    have fall : Same F1 F4 := (ff.trans A.ff).trans f34
    cases f4 with
    | nx => exact ⟨ρ4, F4, W4, fall, hf⟩
    | ct => exact ⟨ρ4, F4, W4, fall, hf⟩
    | bk => cases hf; exact q σ4 H4 F4 W4 (s1.ff.trans fall)
    | rt v => cases hf; exact q σ4 H4 F4 W4 (s1.ff.trans fall)
  · have e : i = xs.length := by omega
    subst e
    rw [List.drop_length] at hf
    cases hf
    exact .inl ⟨jr.st _ H2 (ff.trans Wi.sub) (Nat.le_refl _), q σ2 H2 Fi Wi (s1.ff.trans ff)⟩
/-- while: as many turns as there are -/
def wh (t : M Bool) (b : S) : Nat → S
  | 0, _ => none
  | n + 1, ρ => (t ρ).bind fun p => if p.1 = true then (b p.2).bind fun q => (match q.1 with
    | .nx => wh t b n q.2
    | .ct => wh t b n q.2
    | .bk => some (.nx, q.2)
    | .rt v => some (.rt v, q.2)) else some (.nx, p.2)
open Classical in
noncomputable def sWhile (t : M Bool) (b : S) : S := fun ρ => if h : ∃ n, (wh t b n ρ).isSome = true then wh t b h.choose ρ else none
theorem wh_mono {t : M Bool} {b : S} : ∀ {n : Nat} {ρ : Rho} {z : Fl × Rho}, wh t b n ρ = some z → wh t b (n + 1) ρ = some z
  | 0, _, _, h => by cases h
  | n + 1, ρ, z, h => by
    unfold wh at h ⊢
    obtain ⟨⟨c, ρ1⟩, e1, h⟩ := Option.bind_eq_some_iff.mp h
    rw [e1]
    simp only [Option.bind_some] at h ⊢
    split at h
    · rename_i hc
      rw [if_pos hc]
      obtain ⟨⟨fl, ρ2⟩, e2, h⟩ := Option.bind_eq_some_iff.mp h
      rw [e2]
      simp only [Option.bind_some] at h ⊢
      cases fl with
      | nx => exact wh_mono h
      | ct => exact wh_mono h
      | bk => exact h
      | rt v => exact h
    · rename_i hc
      rw [if_neg hc]
      exact h
theorem wh_le {t : M Bool} {b : S} {n m : Nat} {ρ : Rho} {z : Fl × Rho} (h : wh t b n ρ = some z) (hl : n ≤ m) : wh t b m ρ = some z := by
  induction hl with
  | refl => exact h
  | step _ ih => exact wh_mono ih
theorem sWhile_of {t : M Bool} {b : S} {n : Nat} {ρ : Rho} {z : Fl × Rho} (h : wh t b n ρ = some z) : sWhile t b ρ = some z := by
  have ex : ∃ n, (wh t b n ρ).isSome = true := ⟨n, by rw [h]; rfl⟩
  unfold sWhile
  rw [dif_pos ex]
  obtain ⟨y, hy⟩ := Option.isSome_iff_exists.mp ex.choose_spec
  rw [hy]
  rcases Nat.le_total n ex.choose with q | q
  · rw [wh_le h q] at hy
    exact hy.symm
  · rw [wh_le hy q] at h
    exact h
theorem of_sWhile {t : M Bool} {b : S} {ρ : Rho} {z : Fl × Rho} (h : sWhile t b ρ = some z) : ∃ n, wh t b n ρ = some z := by
  unfold sWhile at h
  split at h
  · exact ⟨_, h⟩
  · cases h
theorem ss_while (hp : PassesOwn (model X.prog X.w) X.A X.env X.xe) (hc : ST X c mt) (hb : SB X body b) : SS X (.While c body [] pos) (sWhile mt b) := by
  refine ps_weak (ps_while hp hc hb) fun D σ H ⟨G, ρ, F, fl, ρ', W, hm, q⟩ => ?_
  obtain ⟨n, hm⟩ := of_sWhile hm
  refine ⟨fun m σ H => ∃ ρi Fi, Wd X.K G ρi σ H Fi ∧ Same F Fi ∧ wh mt b m ρi = some (fl, ρ'), ⟨n, ρ, F, W, Same.refl _, hm⟩, ?_⟩
  rintro m σ2 H2 ⟨ρi, Fi, Wi, ff, hf⟩
  cases m with
  | zero => cases hf
  | succ m =>
    unfold wh at hf
    obtain ⟨⟨c1, ρ1⟩, e1, hf⟩ := Option.bind_eq_some_iff.mp hf
    refine tmt_use Wi e1 fun H3 F3 s3 => ?_
    cases c1 with
    | true =>
      simp only [if_true] at hf ⊢
      obtain ⟨⟨f4, ρ4⟩, e4, hf⟩ := Option.bind_eq_some_iff.mp hf
      refine ⟨fun σ' H' => ∃ ρi Fi, Wd X.K G ρi σ' H' Fi ∧ Same F Fi ∧ wh mt b m ρi = some (fl, ρ'), fun σ' H' z => ⟨m, Nat.lt_succ_self _, z⟩, G, ρ1, F3, f4, ρ4, s3.wd, e4, fun σ4 H4 F4 W4 f34 => ?_⟩
      have fall : Same F F4 := (ff.trans s3.ff).trans f34
      cases f4 with
      | nx => exact ⟨ρ4, F4, W4, fall, hf⟩
      | ct => exact ⟨ρ4, F4, W4, fall, hf⟩
      | bk => cases hf; exact q σ4 H4 F4 W4 fall
      | rt v => cases hf; exact q σ4 H4 F4 W4 fall
    | false =>
      simp at hf ⊢
      obtain ⟨rfl, rfl⟩ := hf
      exact q σ2 H3 F3 s3.wd (ff.trans s3.ff)
end

/-! ### a def -/
def slOf : Ag → Sl
  | .da x => .d x
  | .li xs => .io xs
def outsOf : List Ag → Rho → List (List D)
  | .li _ :: gs, .io xs :: ρ => xs :: outsOf gs ρ
  | _ :: gs, _ :: ρ => outsOf gs ρ
  | _, _ => []
def fnS (n nl : Nat) (b : S) : Fn := fun gs => if gs.length = n then (b (gs.map slOf ++ List.replicate (nl - n) .no)).bind fun p => (match p.1 with
  | .nx => some (.fz .non, outsOf gs p.2)
  | .rt (.fz x) => some (.fz x, outsOf gs p.2)
  | .rt (.fr x) => some (.fr x, outsOf gs p.2)
  | _ => none) else none
theorem fnS_len {n nl : Nat} {b : S} : ∀ gs z, fnS n nl b gs = some z → gs.length = n := fun gs z h => by
  unfold fnS at h
  split at h
  · assumption
  · cases h
/-- the slots whose lists are handed in -/
def iaOf : Nat → List V → List Ag → List (Nat × Addr)
  | i, .ref a :: vs, .li _ :: gs => (i, a) :: iaOf (i + 1) vs gs
  | i, _ :: vs, _ :: gs => iaOf (i + 1) vs gs
  | _, _, _ => []
section
variable {K : PySem.W.Frag} {F H : Hp}
theorem AgsR.at : ∀ {vs : List V} {gs : List Ag} {i : Nat} {g : Ag}, AgsR K F H vs gs → gs[i]? = some g → ∃ v, vs[i]? = some v ∧ (match g with
    | .da x => Rep K F v x
    | .li xs => ∃ a us, v = .ref a ∧ H a = some (.lst us) ∧ Reps K F us xs ∧ F a = none)
  | [], [], _, _, _, h => by simp at h
  | [], .da _ :: _, _, _, h, _ => h.elim
  | [], .li _ :: _, _, _, h, _ => h.elim
  | _ :: _, [], _, _, _, h => by simp at h
  | v :: vs, .da x :: gs, 0, g, h, e => by simp at e; subst e; exact ⟨v, rfl, h.1⟩
  | v :: vs, .li x :: gs, 0, g, h, e => by simp at e; subst e; exact ⟨v, rfl, h.1⟩
  | v :: vs, .da x :: gs, i + 1, g, h, e => AgsR.at (i := i) h.2 (by simpa using e)
  | v :: vs, .li x :: gs, i + 1, g, h, e => AgsR.at (i := i) h.2 (by simpa using e)
theorem iaOf_snd : ∀ {vs : List V} {gs : List Ag} (k : Nat), AgsR K F H vs gs → (iaOf k vs gs).map (·.2) = liA vs gs
  | [], [], _, _ => rfl
  | [], .da _ :: _, _, h => h.elim
  | [], .li _ :: _, _, h => h.elim
  | _ :: _, [], _, h => h.elim
  | v :: vs, .da x :: gs, k, h => by
    have e1 : iaOf k (v :: vs) (.da x :: gs) = iaOf (k + 1) vs gs := by cases v <;> rfl
    have e2 : liA (v :: vs) (.da x :: gs) = liA vs gs := by cases v <;> rfl
    rw [e1, e2]
    exact iaOf_snd (k + 1) h.2
  | v :: vs, .li x :: gs, k, h => by
    obtain ⟨⟨a, us, rfl, _⟩, h2⟩ := h
    show a :: (iaOf (k + 1) vs gs).map (·.2) = a :: liA vs gs
    rw [iaOf_snd (k + 1) h2]
theorem iaOf_mem : ∀ {vs : List V} {gs : List Ag} {k j : Nat} {a : Addr}, AgsR K F H vs gs → (j, a) ∈ iaOf k vs gs → ∃ i xs, j = k + i ∧ gs[i]? = some (.li xs) ∧ vs[i]? = some (.ref a)
  | [], [], _, _, _, _, h => by simp [iaOf] at h
  | [], .da _ :: _, _, _, _, h, _ => h.elim
  | [], .li _ :: _, _, _, _, h, _ => h.elim
  | _ :: _, [], _, _, _, h, _ => h.elim
  | v :: vs, .da x :: gs, k, j, a, h, e => by
    have e1 : iaOf k (v :: vs) (.da x :: gs) = iaOf (k + 1) vs gs := by cases v <;> rfl
    rw [e1] at e
    obtain ⟨i, xs, h1, h2, h3⟩ := iaOf_mem h.2 e
    exact ⟨i + 1, xs, by omega, by simpa using h2, by simpa using h3⟩
  | v :: vs, .li x :: gs, k, j, a, h, e => by
    obtain ⟨⟨b, us, rfl, _⟩, h2⟩ := h
    rcases List.mem_cons.mp (show (j, a) ∈ (k, b) :: iaOf (k + 1) vs gs from e) with q | q
    · cases q
      exact ⟨0, x, rfl, rfl, rfl⟩
    · obtain ⟨i, xs, h1, h3, h4⟩ := iaOf_mem h2 q
      exact ⟨i + 1, xs, by omega, by simpa using h3, by simpa using h4⟩
theorem mem_iaOf : ∀ {vs : List V} {gs : List Ag} {i : Nat} {a : Addr} {xs : List D} (k : Nat), AgsR K F H vs gs → gs[i]? = some (.li xs) → vs[i]? = some (.ref a) → (k + i, a) ∈ iaOf k vs gs
  | [], _, _, _, _, _, _, _, h => by simp at h
  | _ :: _, [], _, _, _, _, h, _, _ => h.elim
  | v :: vs, .da x :: gs, 0, a, xs, k, h, e, _ => by simp at e
  | v :: vs, .li x :: gs, 0, a, xs, k, h, e, e2 => by
    simp at e2; subst e2
    show (k + 0, a) ∈ (k, a) :: iaOf (k + 1) vs gs
    exact List.mem_cons_self
  | v :: vs, .da x :: gs, i + 1, a, xs, k, h, e, e2 => by
    have e1 : iaOf k (v :: vs) (.da x :: gs) = iaOf (k + 1) vs gs := by cases v <;> rfl
    rw [e1]
    have := mem_iaOf (k + 1) h.2 (i := i) (a := a) (xs := xs) (by simpa using e) (by simpa using e2)
    rw [show k + (i + 1) = k + 1 + i by omega]
    exact this
  | v :: vs, .li x :: gs, i + 1, a, xs, k, h, e, e2 => by
    obtain ⟨⟨b, us, rfl, _⟩, h2⟩ := h
    have := mem_iaOf (k + 1) h2 (i := i) (a := a) (xs := xs) (by simpa using e) (by simpa using e2)
    rw [show k + (i + 1) = k + 1 + i by omega]
    exact List.mem_cons_of_mem _ this
/-- the world at a def's entry -/
theorem wd_start {vs : List V} {gs : List Ag} {N : List Str} {n nl : Nat} (A : AgsR K F H vs gs) (nd : (liA vs gs).Nodup) (sub : Same F H) (hn : gs.length = n) (hl : N.length = nl) (hle : n ≤ nl) : Wd K ⟨H, F, iaOf 0 vs gs, nl⟩ (gs.map slOf ++ List.replicate (nl - n) .no) (start N vs) H F := by
  have lv : vs.length = n := A.len.trans hn
  have get : ∀ (i : Nat) (s : Sl), (gs.map slOf ++ List.replicate (nl - n) .no)[i]? = some s → (∃ g, gs[i]? = some g ∧ s = slOf g) ∨ s = .no := fun i s h => by
    by_cases hi : i < n
    · rw [List.getElem?_append_left (by rw [List.length_map, hn]; exact hi), List.getElem?_map] at h
      cases e : gs[i]? with
      | none => rw [e] at h; cases h
      | some g => rw [e] at h; cases h; exact .inl ⟨g, rfl, rfl⟩
    · rw [List.getElem?_append_right (by rw [List.length_map, hn]; omega), List.getElem?_replicate] at h
      split at h
      · cases h; exact .inr rfl
      · cases h
  have getv : ∀ (i : Nat) (v : V), vs[i]? = some v → (start N vs)[i]? = some (some v) := fun i v h => by
    have hi := (List.getElem?_eq_some_iff.mp h).1
    unfold L2.start
    rw [List.getElem?_append_left (by rw [List.length_map]; exact hi), List.getElem?_map, h]
    rfl
  have ow : ∀ i a, Ow (gs.map slOf ++ List.replicate (nl - n) .no) (start N vs) i a → (i, a) ∈ iaOf 0 vs gs ∧ i < vs.length := fun i a o => by
    obtain ⟨⟨xs, o1⟩, o2⟩ := o
    rcases o1 with o1 | o1
    · rcases get i _ o1 with ⟨g, _, e⟩ | e
      · cases g <;> cases e
      · cases e
    · rcases get i _ o1 with ⟨g, e1, e⟩ | e
      · cases g with
        | da x => cases e
        | li ys =>
          cases e
          obtain ⟨v, e2, b, us, rfl, _⟩ := A.at e1
          rw [getv i _ e2] at o2
          cases o2
          have := mem_iaOf 0 A e1 e2
          rw [Nat.zero_add] at this
          exact ⟨this, (List.getElem?_eq_some_iff.mp e2).1⟩
      · cases e
  have snd := iaOf_snd 0 A
  have lst : (start N vs).length = nl := by
    unfold L2.start
    rw [List.length_append, List.length_map, List.length_replicate, lv, hl]
    omega
  refine ⟨?_, lst, sub, Same.refl _, fun b o h _ => h, fun b h => .inl h, fun b h => ?_, fun i s h => ?_, fun i j a o1 o2 => ?_, fun i a h => ?_⟩
  · unfold L2.start
    rw [List.length_append, List.length_map, List.length_replicate, List.length_append, List.length_map, List.length_replicate, hn, lv, hl]
  · obtain ⟨⟨j, c⟩, h1, rfl⟩ := List.mem_map.mp h
    obtain ⟨i, xs, _, h2, h3⟩ := iaOf_mem A h1
    obtain ⟨v, e, b, us, rfl, hb, _⟩ := A.at h2
    rw [h3] at e; cases e
    show H c ≠ none
    rw [hb]; simp
  · rcases get i s h with ⟨g, e, rfl⟩ | rfl
    · obtain ⟨v, e2, q⟩ := A.at e
      cases g with
      | da x => exact ⟨v, getv i v e2, q⟩
      | li xs =>
        obtain ⟨a, us, rfl, h1, h2, h3⟩ := q
        have := mem_iaOf 0 A e e2
        rw [Nat.zero_add] at this
        exact ⟨a, us, getv i _ e2, h1, h2, h3, this⟩
    · trivial
  · have h1 := (ow i a o1).1
    have h2 := (ow j a o2).1
    have ndp : ((iaOf 0 vs gs).map (·.2)).Nodup := by rw [snd]; exact nd
    obtain ⟨p, hp, e1⟩ := List.mem_iff_getElem.mp h1
    obtain ⟨q, hq, e2⟩ := List.mem_iff_getElem.mp h2
    have e3 : ((iaOf 0 vs gs).map (·.2))[p]'(by rw [List.length_map]; exact hp) = ((iaOf 0 vs gs).map (·.2))[q]'(by rw [List.length_map]; exact hq) := by
      rw [List.getElem_map, List.getElem_map, e1, e2]
    have e4 := (List.getElem_inj ndp).mp e3
    subst e4
    rw [e1] at e2
    cases e2
    rfl
  · obtain ⟨j, xs, e, h2, h3⟩ := iaOf_mem A h
    rw [Nat.zero_add] at e
    subst e
    refine ⟨⟨xs, ?_⟩, getv i _ h3⟩
    have hi := (List.getElem?_eq_some_iff.mp h2).1
    rw [List.getElem?_append_left (by rw [List.length_map]; exact hi), List.getElem?_map, h2]
    rfl
theorem outs_ok {G : Gd} {σ : L2.St} {H' F' : Hp} : ∀ {vs : List V} {gs : List Ag} {ρ : Rho} (k : Nat), AgsR K F H vs gs → (∀ i s, ρ[i]? = some s → SlR K G σ H' F' (k + i) s) → (∀ i a xs, gs[i]? = some (.li xs) → vs[i]? = some (.ref a) → (∃ ys, ρ[i]? = some (.io ys)) ∧ σ[k + i]? = some (some (.ref a))) → gs.length ≤ ρ.length → OutsR K F' H' (liA vs gs) (outsOf gs ρ)
  | [], [], ρ, k, _, _, _, _ => by cases ρ <;> trivial
  | [], .da _ :: _, _, _, h, _, _, _ => h.elim
  | [], .li _ :: _, _, _, h, _, _, _ => h.elim
  | _ :: _, [], _, _, h, _, _, _ => h.elim
  | v :: vs, g :: gs, [], k, _, _, _, hl => by simp at hl
  | v :: vs, .da x :: gs, s :: ρ, k, h, h1, h2, hl => by
    have e2 : liA (v :: vs) (.da x :: gs) = liA vs gs := by cases v <;> rfl
    have e3 : outsOf (.da x :: gs) (s :: ρ) = outsOf gs ρ := by cases s <;> rfl
    rw [e2, e3]
    refine outs_ok (G := G) (σ := σ) (k + 1) h.2 (fun i s' e => ?_) (fun i a xs e e' => ?_) (by simpa using hl)
    · have := h1 (i + 1) s' (by simpa using e)
      rw [show k + 1 + i = k + (i + 1) by omega]
      exact this
    · have := h2 (i + 1) a xs (by simpa using e) (by simpa using e')
      rw [show k + 1 + i = k + (i + 1) by omega]
      simpa using this
  | v :: vs, .li x :: gs, s :: ρ, k, h, h1, h2, hl => by
    obtain ⟨⟨b, us, rfl, _⟩, hr⟩ := h
    obtain ⟨⟨ys, e0⟩, e1⟩ := h2 0 b x rfl rfl
    have e0 : s = .io ys := by simpa using e0
    subst e0
    obtain ⟨c, ws, f1, f2, f3, f4, _⟩ := h1 0 (.io ys) rfl
    rw [Nat.add_zero] at e1 f1
    rw [e1] at f1
    cases f1
    refine ⟨⟨ws, f2, f3, f4⟩, outs_ok (G := G) (σ := σ) (k + 1) hr (fun i s' e => ?_) (fun i a xs e e' => ?_) (by simpa using hl)⟩
    · have := h1 (i + 1) s' (by simpa using e)
      rw [show k + 1 + i = k + (i + 1) by omega]
      exact this
    · have := h2 (i + 1) a xs (by simpa using e) (by simpa using e')
      rw [show k + 1 + i = k + (i + 1) by omega]
      simpa using this
end
theorem fn_ok {P : Program} {w : World} {K : PySem.W.Frag} {mg : Str → Option Value} {base : Heap} {x qual : Str} {st : Stmt} {f : Addr} {fd : FuncData} {N ps : List Str} {k n nl : Nat} {m : S} (Fu : Fun K x qual st f fd) (Sc : FnScope N ps (defScope st)) (hn : ps.length = n) (hl : N.length = nl) (hle : n ≤ nl)
    (hb : ∀ (cdv : Value) (A : Around) (outer : List Env) (s : Shared) (H : Hp) (E : XK), Room k (A.deeper (envOfC qual (defScope st) s.heap.objs.size f cdv)) → SB (cxOf CX0 P w K mg base N qual (defScope st) f cdv A outer s H E).nox (defBody st) m) :
    FnOk P w K mg base CX0 (k + 1) f fd ps (spF K n (fnS n nl m)) := by
  refine Fu.ok Sc (fun vs H Q E h => by rw [h.1, hn]) (fun cdv A outer s H vs Q E hr h => ?_)
  obtain ⟨hv, F, gs, r, os, sub, AR, nd, hf, q⟩ := h
  refine ⟨_, hb cdv A outer s H E hr, ?_⟩
  unfold fnS at hf
  split at hf
  · rename_i hgs
    obtain ⟨⟨fl, ρ'⟩, e1, hf⟩ := Option.bind_eq_some_iff.mp hf
    have W := wd_start AR nd sub hgs hl hle
    have snd := iaOf_snd 0 AR
    have le : gs.length ≤ (gs.map slOf ++ List.replicate (nl - n) Sl.no).length := by rw [List.length_append, List.length_map]; omega
    have outs : ∀ {σ' : L2.St} {H' F' : Hp}, Wd K ⟨H, F, iaOf 0 vs gs, nl⟩ ρ' σ' H' F' → σ'.length = nl → OutsR K F' H' (liA vs gs) (outsOf gs ρ') := fun {σ' H' F'} W' hσ => by
      refine outs_ok (G := ⟨H, F, iaOf 0 vs gs, nl⟩) (σ := σ') 0 AR (fun i s' e => by rw [Nat.zero_add]; exact W'.sl i s' e) (fun i a xs h1 h2 => ?_) ?_
      · have := mem_iaOf 0 AR h1 h2
        have z := W'.ai _ _ this
        rw [Nat.zero_add] at z
        exact ⟨z.1, by rw [Nat.zero_add]; exact z.2⟩
      · have := W'.len
        omega
    refine ⟨⟨H, F, iaOf 0 vs gs, nl⟩, _, F, fl, ρ', W, e1, fun σ' H' F' W' ff => ?_⟩
    have kp : ∀ b o, H b = some o → b ∉ liA vs gs → H' b = some o := fun b o h h2 => W'.kp b o h (by rw [snd]; exact h2)
    have hσ : σ'.length = nl := W'.gl
    cases fl with
    | nx => cases hf; exact q _ H' F' ff W'.sub kp W'.nw (outs W' hσ) .non
    | bk => cases hf
    | ct => cases hf
    | rt z =>
      cases z with
      | fz y => cases hf; exact fun v R => q v H' F' ff W'.sub kp W'.nw (outs W' hσ) R
      | fr y => cases hf; exact fun v R => q v H' F' ff W'.sub kp W'.nw (outs W' hσ) R
      | bw y => cases hf
  · cases hf
/-- no fuel: nothing is promised -/
theorem fn_ok0 {P : Program} {w : World} {K : PySem.W.Frag} {mg : Str → Option Value} {base : Heap} {x qual : Str} {st : Stmt} {f : Addr} {fd : FuncData} {N ps : List Str} {k n : Nat} (Fu : Fun K x qual st f fd) (Sc : FnScope N ps (defScope st)) (hn : ps.length = n) :
    FnOk P w K mg base CX0 (k + 1) f fd ps (spF K n fun _ => none) := by
  refine Fu.ok Sc (fun vs H Q E h => by rw [h.1, hn]) (fun cdv A outer s H vs Q E hr h => ?_)
  obtain ⟨hv, F, gs, r, os, sub, AR, nd, hf, q⟩ := h
  cases hf
end Sw
set_option Elab.async false
set_option linter.all false
set_option maxRecDepth 100000
set_option maxHeartbeats 4000000
namespace Sw
open PySem PySem.Spec PyProof.Rows L2

/-! ### list comprehensions -/
def wipeR (ρ : Rho) : List Nat → Rho
  | [] => ρ
  | v :: vs => (wipeR ρ vs).set v .no
def backR (ρ0 ρ : Rho) : List Nat → Rho
  | [] => ρ
  | v :: vs => (backR ρ0 ρ vs).set v ((ρ0[v]?).getD .no)
def plainSl : Option Sl → Bool
  | some .no => true
  | some (.d _) => true
  | _ => false
def lcM (vs : List Nat) (g : D → Rho → Option Rho) (t : M Bool) (e : M Vl) : List D → List D → M (List D)
  | [], acc, ρ => some (acc, ρ)
  | x :: xs, acc, ρ => (g x ρ).bind fun ρ1 => (t ρ1).bind fun p => if p.1 = true then (e p.2).bind fun q => (frz q.2 (stl q.1)).bind fun z => if acc.length < lim then lcM vs g t e xs (acc ++ [z.1]) (wipeR z.2 vs) else none else lcM vs g t e xs acc (wipeR p.2 vs)
def eLc (vs : List Nat) (src : M (List D)) (g : D → Rho → Option Rho) (t : M Bool) (e : M Vl) : M Vl := fun ρ => (src ρ).bind fun p => if (vs.all fun v => plainSl p.2[v]?) = true then (lcM vs g t e p.1 [] (wipeR p.2 vs)).bind fun q => some (.fr q.1, backR p.2 q.2 vs) else none

theorem wipeR_len (ρ : Rho) : ∀ vs : List Nat, (wipeR ρ vs).length = ρ.length
  | [] => rfl
  | v :: vs => by unfold wipeR; rw [List.length_set, wipeR_len ρ vs]
theorem backR_len (ρ0 ρ : Rho) : ∀ vs : List Nat, (backR ρ0 ρ vs).length = ρ.length
  | [] => rfl
  | v :: vs => by unfold backR; rw [List.length_set, backR_len ρ0 ρ vs]
theorem wipeR_ne {ρ : Rho} {j : Nat} : ∀ {vs : List Nat}, j ∉ vs → (wipeR ρ vs)[j]? = ρ[j]?
  | [], _ => rfl
  | v :: vs, h => by
    unfold wipeR
    rw [List.getElem?_set_ne (fun z => h (by rw [z]; exact List.mem_cons_self)), wipeR_ne fun z => h (List.mem_cons_of_mem _ z)]
theorem wipeR_mem {ρ : Rho} {j : Nat} {s : Sl} : ∀ {vs : List Nat}, j ∈ vs → (wipeR ρ vs)[j]? = some s → s = .no
  | [], h, _ => nomatch h
  | v :: vs, h, e => by
    unfold wipeR at e
    by_cases q : v = j
    · subst q
      by_cases hl : v < (wipeR ρ vs).length
      · rw [List.getElem?_set_self hl] at e
        exact (Option.some.inj e).symm
      · rw [List.getElem?_eq_none (by rw [List.length_set]; omega)] at e
        cases e
    · rw [List.getElem?_set_ne q] at e
      rcases List.mem_cons.mp h with z | z
      · exact absurd z.symm q
      · exact wipeR_mem z e
theorem wipe_ne {σ : L2.St} {j : Nat} : ∀ {vs : List Nat}, j ∉ vs → (wipe σ vs)[j]? = σ[j]?
  | [], _ => rfl
  | v :: vs, h => by
    unfold wipe
    rw [List.getElem?_set_ne (fun z => h (by rw [z]; exact List.mem_cons_self)), wipe_ne fun z => h (List.mem_cons_of_mem _ z)]
theorem backR_ne {ρ0 ρ : Rho} {j : Nat} : ∀ {vs : List Nat}, j ∉ vs → (backR ρ0 ρ vs)[j]? = ρ[j]?
  | [], _ => rfl
  | v :: vs, h => by
    unfold backR
    rw [List.getElem?_set_ne (fun z => h (by rw [z]; exact List.mem_cons_self)), backR_ne fun z => h (List.mem_cons_of_mem _ z)]
theorem backR_mem {ρ0 ρ : Rho} {j : Nat} {s : Sl} : ∀ {vs : List Nat}, j ∈ vs → (backR ρ0 ρ vs)[j]? = some s → s = (ρ0[j]?).getD .no
  | [], h, _ => nomatch h
  | v :: vs, h, e => by
    unfold backR at e
    by_cases q : v = j
    · subst q
      by_cases hl : v < (backR ρ0 ρ vs).length
      · rw [List.getElem?_set_self hl] at e
        exact (Option.some.inj e).symm
      · rw [List.getElem?_eq_none (by rw [List.length_set]; omega)] at e
        cases e
    · rw [List.getElem?_set_ne q] at e
      rcases List.mem_cons.mp h with z | z
      · exact absurd z.symm q
      · exact backR_mem z e
section
variable {K : PySem.W.Frag} {G : Gd} {ρ ρ1 ρ2 : Rho} {σ : L2.St} {H H1 H2 F F1 F2 : Hp} {vs : List Nat}
/-- own slots forgotten (they hold no list of one's own) -/
theorem wd_wipe {σ' : L2.St} (W : Wd K G ρ σ H F) (hσ : ∀ j, j ∉ vs → σ'[j]? = σ[j]?) (hl : σ'.length = σ.length) (pl : ∀ v ∈ vs, ∀ s, ρ[v]? = some s → ∀ xs, s ≠ .io xs) : Wd K G (wipeR ρ vs) σ' H F := by
  have get : ∀ (j : Nat) (s : Sl), (wipeR ρ vs)[j]? = some s → s = .no ∨ (j ∉ vs ∧ ρ[j]? = some s) := fun j s h => by
    by_cases hj : j ∈ vs
    · exact .inl (wipeR_mem hj h)
    · rw [wipeR_ne hj] at h
      exact .inr ⟨hj, h⟩
  have ow : ∀ {j : Nat} {a : Addr}, Ow (wipeR ρ vs) σ' j a → Ow ρ σ j a := fun {j a} o => by
    obtain ⟨⟨ys, o1⟩, o2⟩ := o
    have nj : j ∉ vs := fun z => by
      rcases o1 with o1 | o1
      · cases wipeR_mem z o1
      · cases wipeR_mem z o1
    rw [wipeR_ne nj] at o1
    exact ⟨⟨ys, o1⟩, by rw [← hσ j nj]; exact o2⟩
  refine ⟨by rw [wipeR_len, hl]; exact W.len, by rw [hl]; exact W.gl, W.sub, W.f0, W.kp, W.nw, W.it, fun j s h => ?_, fun i j a o1 o2 => W.ap i j a (ow o1) (ow o2), fun j a h => ?_⟩
  · rcases get j s h with rfl | ⟨nj, h⟩
    · trivial
    · have q := W.sl j s h
      cases s with
      | no => trivial
      | d x => obtain ⟨u, e, r⟩ := q; exact ⟨u, (hσ j nj).trans e, r⟩
      | ow ys => obtain ⟨a, us, e, p⟩ := q; exact ⟨a, us, (hσ j nj).trans e, p⟩
      | io ys => obtain ⟨a, us, e, p⟩ := q; exact ⟨a, us, (hσ j nj).trans e, p⟩
  · obtain ⟨⟨ys, z1⟩, z2⟩ := W.ai j a h
    have nj : j ∉ vs := fun z => pl j z _ z1 ys rfl
    exact ⟨⟨ys, by rw [wipeR_ne nj]; exact z1⟩, by rw [hσ j nj]; exact z2⟩
theorem plain_of {v : Nat} (h : plainSl ρ[v]? = true) : ∀ s, ρ[v]? = some s → (∀ xs, s ≠ .io xs) ∧ ∀ xs, s ≠ .ow xs := fun s e => by
  rw [e] at h
  cases s with
  | no => exact ⟨fun _ z => (nomatch z), fun _ z => (nomatch z)⟩
  | d x => exact ⟨fun _ z => (nomatch z), fun _ z => (nomatch z)⟩
  | ow xs => cases h
  | io xs => cases h
/-- back to the def's own slots -/
theorem unwipe (W : Wd K G ρ σ H F) (pl : ∀ v ∈ vs, plainSl ρ[v]? = true) (s : Ste K G (wipeR ρ vs) (wipe σ vs) H F ρ2 H2 F2) : Ste K G ρ σ H F (backR ρ ρ2 vs) H2 F2 := by
  have ow1 : ∀ {j : Nat} {a : Addr}, Ow ρ σ j a → Ow (wipeR ρ vs) (wipe σ vs) j a := fun {j a} o => by
    obtain ⟨⟨ys, o1⟩, o2⟩ := o
    have nj : j ∉ vs := fun z => by
      rcases o1 with o1 | o1
      · exact (plain_of (pl j z) _ o1).2 ys rfl
      · exact (plain_of (pl j z) _ o1).1 ys rfl
    exact ⟨⟨ys, by rw [wipeR_ne nj]; exact o1⟩, by rw [wipe_ne nj]; exact o2⟩
  have ow1' : ∀ {j : Nat} {a : Addr}, Ow (wipeR ρ vs) (wipe σ vs) j a → Ow ρ σ j a := fun {j a} o => by
    obtain ⟨⟨ys, o1⟩, o2⟩ := o
    have nj : j ∉ vs := fun z => by
      rcases o1 with o1 | o1
      · cases wipeR_mem z o1
      · cases wipeR_mem z o1
    rw [wipeR_ne nj] at o1
    rw [wipe_ne nj] at o2
    exact ⟨⟨ys, o1⟩, o2⟩
  have ow2 : ∀ {j : Nat} {a : Addr}, Ow (backR ρ ρ2 vs) σ j a → Ow ρ2 (wipe σ vs) j a := fun {j a} o => by
    obtain ⟨⟨ys, o1⟩, o2⟩ := o
    have nj : j ∉ vs := fun z => by
      have pp := pl j z
      rcases o1 with o1 | o1
      · have e := backR_mem z o1
        cases q : ρ[j]? with
        | none => rw [q] at e; cases e
        | some s => rw [q] at e; exact (plain_of pp s q).2 ys e.symm
      · have e := backR_mem z o1
        cases q : ρ[j]? with
        | none => rw [q] at e; cases e
        | some s => rw [q] at e; exact (plain_of pp s q).1 ys e.symm
    rw [backR_ne nj] at o1
    exact ⟨⟨ys, o1⟩, by rw [wipe_ne nj]; exact o2⟩
  have W2 := s.wd
  refine ⟨⟨by rw [backR_len, W2.len, wipe_length], W.gl, W2.sub, W2.f0, W2.kp, W2.nw, W2.it, fun j s' h => ?_, fun i j a o1 o2 => W2.ap i j a (ow2 o1) (ow2 o2), fun j a h => ?_⟩, s.ff, fun b o h n => s.kk b o h fun i z => n i (ow1' z), fun b h => ?_, fun i a o => ow1' (s.oo i a (ow2 o)), s.tr⟩
  · by_cases hj : j ∈ vs
    · have e := backR_mem hj h
      have pp := pl j hj
      cases q : ρ[j]? with
      | none => rw [q] at e; rw [e]; trivial
      | some s0 =>
        rw [q] at e
        have e : s' = s0 := e
        subst e
        have old := W.sl j s' q
        cases s' with
        | no => trivial
        | d x => obtain ⟨u, e, r⟩ := old; exact ⟨u, e, r.mono s.ff⟩
        | ow xs => exact absurd rfl ((plain_of pp _ q).2 xs)
        | io xs => exact absurd rfl ((plain_of pp _ q).1 xs)
    · rw [backR_ne hj] at h
      have q := W2.sl j s' h
      have eσ : (wipe σ vs)[j]? = σ[j]? := wipe_ne hj
      cases s' with
      | no => trivial
      | d x => obtain ⟨u, e, r⟩ := q; exact ⟨u, eσ.symm.trans e, r⟩
      | ow ys => obtain ⟨a, us, e, p⟩ := q; exact ⟨a, us, eσ.symm.trans e, p⟩
      | io ys => obtain ⟨a, us, e, p⟩ := q; exact ⟨a, us, eσ.symm.trans e, p⟩
  · obtain ⟨⟨ys, z1⟩, z2⟩ := W.ai j a h
    have nj : j ∉ vs := fun z => (plain_of (pl j z) _ z1).1 ys rfl
    obtain ⟨⟨ws, y1⟩, _⟩ := W2.ai j a h
    exact ⟨⟨ws, by rw [backR_ne nj]; exact y1⟩, z2⟩
  · rcases s.nf b h with q | q | ⟨i, q⟩
    · exact .inl q
    · exact .inr (.inl q)
    · exact .inr (.inr ⟨i, ow1' q⟩)
/-- a new thing that no slot owns is changed -/
theorem ste_upd {a : Addr} {o : HO} (W : Wd K G ρ σ H F) (s : Ste K G ρ σ H F ρ2 H2 F2) (h1 : H a = none) (h2 : F2 a = none) (h3 : ∀ i, ¬ Ow ρ2 σ i a) : Ste K G ρ σ H F ρ2 (upd H2 a o) F2 := by
  have W2 := s.wd
  have nm : a ∉ G.ia.map (·.2) := fun z => W.it a z h1
  refine ⟨⟨W2.len, W2.gl, fun b x e => ?_, W2.f0, fun b x e q => ?_, W2.nw, fun b z => ?_, fun j s' h => ?_, W2.ap, W2.ai⟩, s.ff, fun b x e n => ?_, s.nf, s.oo, fun b z => ?_⟩
  · have nb : b ≠ a := fun z => by rw [z, h2] at e; cases e
    rw [upd_ne nb]; exact W2.sub _ _ e
  · have nb : b ≠ a := fun z => by
      have := W.h0 h1
      rw [← z, e] at this; cases this
    rw [upd_ne nb]; exact W2.kp b x e q
  · have nb : b ≠ a := fun y => nm (by rw [← y]; exact z)
    rw [upd_ne nb]; exact W2.it b z
  · have q := W2.sl j s' h
    cases s' with
    | no => trivial
    | d x => exact q
    | ow ys =>
      obtain ⟨c, us, e, p1, p2⟩ := q
      have nc : c ≠ a := fun z => h3 j ⟨⟨ys, .inl h⟩, by rw [← z]; exact e⟩
      exact ⟨c, us, e, by rw [upd_ne nc]; exact p1, p2⟩
    | io ys =>
      obtain ⟨c, us, e, p1, p2⟩ := q
      have nc : c ≠ a := fun z => h3 j ⟨⟨ys, .inr h⟩, by rw [← z]; exact e⟩
      exact ⟨c, us, e, by rw [upd_ne nc]; exact p1, p2⟩
  · have nb : b ≠ a := fun z => by rw [z, h1] at e; cases e
    rw [upd_ne nb]; exact s.kk b x e n
  · by_cases nb : b = a
    · rw [nb, upd_same]; simp
    · rw [upd_ne nb]; exact s.tr b z
end
abbrev STs (X : Cx) (es : List Expr) (m : M Bool) : Prop := PTs X es (tMT X.K m)
def tYesM : M Bool := fun ρ => some (true, ρ)
theorem sts_nil {X : Cx} : STs X [] tYesM := ⟨fun pins s σ H Q I h => (pts_nil (X := X)).run pins s σ H Q I (by
  obtain ⟨G, ρ, F, b, ρ', W, hm, q⟩ := h
  cases hm
  exact q H F (Ste.refl W))⟩
theorem sts_one {X : Cx} {c : Expr} {m : M Bool} (h : ST X c m) : STs X [c] m := pts_one h
/-- a target changes its own slots alone, and lays data there -/
def GOk (is : List Nat) (g : D → Rho → Option Rho) : Prop := ∀ x ρ ρ', g x ρ = some ρ' → (∀ j : Nat, j ∉ is → ρ'[j]? = ρ[j]?) ∧ ∀ (j : Nat) s, ρ'[j]? = some s → ρ[j]? = some s ∨ ∃ d, s = .d d
def GsOk (is : List Nat) (g : List D → Rho → Option Rho) : Prop := ∀ x ρ ρ', g x ρ = some ρ' → (∀ j : Nat, j ∉ is → ρ'[j]? = ρ[j]?) ∧ ∀ (j : Nat) s, ρ'[j]? = some s → ρ[j]? = some s ∨ ∃ d, s = .d d
theorem gok_name (i : Nat) : GOk [i] (gN i) := fun x ρ ρ' h => by
  unfold gN asg at h
  split at h
  · cases h
  · cases h
  · rename_i s0 nio h0
    have hi : i < ρ.length := (List.getElem?_eq_some_iff.mp h0).1
    cases h
    refine ⟨fun j hj => List.getElem?_set_ne (fun z => hj (by rw [z]; exact List.mem_cons_self)), fun j s e => ?_⟩
    by_cases q : i = j
    · subst q
      rw [List.getElem?_set_self hi] at e
      cases e
      exact .inr ⟨x, rfl⟩
    · rw [List.getElem?_set_ne q] at e
      exact .inl e
theorem gsok_nil : GsOk [] gsN := fun xs ρ ρ' h => by
  unfold gsN at h
  split at h
  · cases h; exact ⟨fun _ _ => rfl, fun _ _ e => .inl e⟩
  · cases h
theorem gsok_cons {is js : List Nat} {g : D → Rho → Option Rho} {r : List D → Rho → Option Rho} (h1 : GOk is g) (h2 : GsOk js r) : GsOk (is ++ js) (gsC g r) := fun xs ρ ρ' h => by
  unfold gsC at h
  split at h
  · obtain ⟨ρ1, e1, h⟩ := Option.bind_eq_some_iff.mp h
    obtain ⟨a1, a2⟩ := h1 _ _ _ e1
    obtain ⟨b1, b2⟩ := h2 _ _ _ h
    refine ⟨fun j hj => (b1 j fun z => hj (List.mem_append_right _ z)).trans (a1 j fun z => hj (List.mem_append_left _ z)), fun j s e => ?_⟩
    rcases b2 j s e with q | q
    · exact a2 j s q
    · exact .inr q
  · cases h
theorem gok_tup {n : Nat} {is : List Nat} {r : List D → Rho → Option Rho} (h1 : GsOk is r) : GOk is (gT n r) := fun x ρ ρ' h => by
  unfold gT at h
  split at h
  · split at h
    · exact h1 _ _ _ h
    · cases h
  · cases h
section
variable {K : PySem.W.Frag} {src : M (List D)} {is vs : List Nat} {g : D → Rho → Option Rho} {t : M Bool} {e : M Vl}
theorem wipe_of_mod {σ σ2 : L2.St} (sub : ∀ i ∈ is, i ∈ vs) (m : Mod' is (wipe σ vs) σ2) : wipe σ2 vs = wipe σ vs := by
  apply List.ext_getElem?
  intro j
  by_cases hj : j ∈ vs
  · have f : ∀ (τ : L2.St), j < τ.length → (wipe τ vs)[j]? = some none := fun τ hl => by
      have hl2 : j < (wipe τ vs).length := by rw [wipe_length]; exact hl
      rw [List.getElem?_eq_getElem hl2]
      congr 1
      cases q : (wipe τ vs)[j] with
      | none => rfl
      | some v =>
        have z : (wipe τ vs)[j]? = some (some v) := by rw [List.getElem?_eq_getElem hl2, q]
        exact absurd hj (wipe_some z).2
    have hlen : σ2.length = σ.length := by rw [m.1, wipe_length]
    by_cases hl : j < σ.length
    · rw [f σ hl, f σ2 (by rw [hlen]; exact hl)]
    · rw [List.getElem?_eq_none (by rw [wipe_length, hlen]; omega), List.getElem?_eq_none (by rw [wipe_length]; omega)]
  · rw [wipe_ne hj, m.2 j fun z => hj (sub j z)]
theorem tlc_of (sub : ∀ i ∈ is, i ∈ vs) (gok : GOk is g) {σ : L2.St} {H : Hp} {Q : VK} (h : tM K (eLc vs src g t e) σ H Q) : tLc (tI K src) (tG K is g) (tMT K t) (tM K e) vs σ H Q := by
  obtain ⟨G, ρ, F, r, ρ', W, hm, q⟩ := h
  unfold eLc at hm
  obtain ⟨⟨xs, ρ1⟩, e1, hm⟩ := Option.bind_eq_some_iff.mp hm
  split at hm
  · rename_i hpl
    have pl : ∀ v ∈ vs, plainSl ρ1[v]? = true := fun v hv => List.all_eq_true.mp hpl v hv
    obtain ⟨⟨accE, ρE⟩, e2, hm⟩ := Option.bind_eq_some_iff.mp hm
    cases hm
    refine ⟨G, ρ, F, xs, ρ1, W, e1, fun J H1 F1 s1 jr D hD => ?_⟩
    have W1 := s1.wd
    have Ww : Wd K G (wipeR ρ1 vs) (wipe σ vs) H1 F1 := wd_wipe W1 (fun j hj => wipe_ne hj) (wipe_length σ vs) fun v hv s es => (plain_of (pl v hv) s es).1
    have fD : F1 D = none := W1.sub.free hD
    have A : Alc F1 H1 F1 (upd H1 D (.lst [])) := ⟨Same.refl _, W1.sub.trans (same_upd hD), same_upd hD, fun _ h => .inl h⟩
    have s0 := Ww.alc A
    have now0 : ∀ i, ¬ Ow (wipeR ρ1 vs) (wipe σ vs) i D := fun i o => by
      obtain ⟨_, z, _⟩ := Ww.ow_there o
      rw [hD] at z; cases z
    refine ⟨fun i m H2 => m = xs.length - i ∧ i ≤ xs.length ∧ ∃ ρi Fi acc us, Ste K G (wipeR ρ1 vs) (wipe σ vs) H1 F1 ρi H2 Fi ∧ H2 D = some (.lst us) ∧ Reps K Fi us acc ∧ Fi D = none ∧ (∀ i, ¬ Ow ρi (wipe σ vs) i D) ∧ (∀ v ∈ vs, ∀ s, ρi[v]? = some s → s = .no) ∧ lcM vs g t e (xs.drop i) acc ρi = some (accE, ρE),
      ⟨xs.length, by simp, Nat.zero_le _, wipeR ρ1 vs, F1, [], [], s0, upd_same, .nil, fD, now0, fun v hv s es => wipeR_mem hv es, e2⟩, ?_⟩
    rintro i m H2 ⟨rfl, hi, ρi, Fi, acc, us, si, hDi, ri, fi, oi, pi, hf⟩
    have Wi := si.wd
    by_cases hlt : i < xs.length
    · refine .inr ⟨jr.go i H2 (si.ff.trans Wi.sub) hlt, fun H' => ∃ ρi Fi acc us, Ste K G (wipeR ρ1 vs) (wipe σ vs) H1 F1 ρi H' Fi ∧ H' D = some (.lst us) ∧ Reps K Fi us acc ∧ Fi D = none ∧ (∀ i, ¬ Ow ρi (wipe σ vs) i D) ∧ (∀ v ∈ vs, ∀ s, ρi[v]? = some s → s = .no) ∧ lcM vs g t e (xs.drop (i + 1)) acc ρi = some (accE, ρE),
        fun H' ⟨ρj, Fj, acj, uj, a1, a2, a3, a4, a5, a6, a7⟩ => ⟨xs.length - (i + 1), by omega, rfl, hlt, ρj, Fj, acj, uj, a1, a2, a3, a4, a5, a6, a7⟩, fun x H' y => ?_⟩
      obtain ⟨F3, d, A3, hd, Rd⟩ := jr.yl i H2 Fi x H' hlt si.ff Wi.sub y
      have s3 := Wi.alc A3
      have ed : xs[i] = d := by
        rw [List.getElem?_eq_getElem hlt] at hd
        exact Option.some.inj hd
      rw [List.drop_eq_getElem_cons hlt, ed] at hf
      unfold lcM at hf
      obtain ⟨ρ4, e4, hf⟩ := Option.bind_eq_some_iff.mp hf
      obtain ⟨⟨b5, ρ5⟩, e5, hf⟩ := Option.bind_eq_some_iff.mp hf
      have h3D : H' D = some (.lst us) := s3.kk D _ hDi oi
      have f3D : F3 D = none := by
        cases z : F3 D with
        | none => rfl
        | some o =>
          rcases s3.nf D (by rw [z]; simp) with q | q | ⟨k, q⟩
          · exact absurd fi q
          · rw [hDi] at q; cases q
          · exact absurd q (oi k)
      refine ⟨G, ρi, F3, d, ρ4, s3.wd, Rd, e4, fun σ4 W4 m4 => ⟨wipe_of_mod sub m4, ?_⟩⟩
      obtain ⟨g1, g2⟩ := gok _ _ _ e4
      -- slots of one's own before and behind the target
      have ow4 : ∀ {j : Nat} {a : Addr}, Ow ρ4 σ4 j a → Ow ρi (wipe σ vs) j a := fun {j a} o => by
        obtain ⟨⟨ys, o1⟩, o2⟩ := o
        have nj : j ∉ vs := fun z => by
          rcases o1 with o1 | o1
          · rcases g2 j _ o1 with q | ⟨_, q⟩
            · cases pi j z _ q
            · cases q
          · rcases g2 j _ o1 with q | ⟨_, q⟩
            · cases pi j z _ q
            · cases q
        rw [g1 j fun z => nj (sub j z)] at o1
        exact ⟨⟨ys, o1⟩, by rw [← m4.2 j fun z => nj (sub j z)]; exact o2⟩
      have turn : ∀ {ρ6 : Rho} {H6 F6 : Hp}, Ste K G ρ4 σ4 H' F3 ρ6 H6 F6 → Ste K G (wipeR ρ1 vs) (wipe σ vs) H1 F1 (wipeR ρ6 vs) H6 F6 ∧ H6 D = some (.lst us) ∧ F6 D = none ∧ (∀ i, ¬ Ow (wipeR ρ6 vs) (wipe σ vs) i D) := fun {ρ6 H6 F6} s6 => by
        have ow6 : ∀ {j : Nat} {a : Addr}, Ow (wipeR ρ6 vs) (wipe σ vs) j a → Ow ρi (wipe σ vs) j a := fun {j a} o => by
          obtain ⟨⟨ys, o1⟩, o2⟩ := o
          have nj : j ∉ vs := fun z => by
            rcases o1 with o1 | o1
            · cases wipeR_mem z o1
            · cases wipeR_mem z o1
          rw [wipeR_ne nj] at o1
          exact ow4 (s6.oo j a ⟨⟨ys, o1⟩, by rw [m4.2 j fun z => nj (sub j z)]; exact o2⟩)
        have W6 : Wd K G (wipeR ρ6 vs) (wipe σ vs) H6 F6 := wd_wipe s6.wd (fun j hj => (m4.2 j fun z => hj (sub j z)).symm) m4.1.symm fun v hv s es xs z => by
          subst z
          obtain ⟨a, _, _, _, _, _, e5⟩ := s6.wd.sl v _ es
          obtain ⟨⟨ys, y1⟩, _⟩ := Wi.ai v a e5
          cases pi v hv _ y1
        have d4 : ∀ i, ¬ Ow ρ4 σ4 i D := fun k o => oi k (ow4 o)
        refine ⟨⟨W6, (si.ff.trans A3.ff).trans s6.ff, fun b o hb n => ?_, fun b hb => ?_, fun k a o => si.oo k a (ow6 o), fun b hb => s6.tr b (s3.tr b (si.tr b hb))⟩, s6.kk D _ h3D d4, ?_, fun k o => oi k (ow6 o)⟩
        · exact s6.kk b o (s3.kk b o (si.kk b o hb n) fun k z => n k (si.oo k b z)) fun k z => n k (si.oo k b (ow4 z))
        · have fromF3 : F3 b ≠ none → F1 b ≠ none ∨ H1 b = none ∨ ∃ i, Ow (wipeR ρ1 vs) (wipe σ vs) i b := fun z => by
            rcases s3.nf b z with q | q | ⟨k, q⟩
            · exact si.nf b q
            · exact .inr (.inl (si.back b q))
            · exact .inr (.inr ⟨k, si.oo k b q⟩)
          rcases s6.nf b hb with q | q | ⟨k, q⟩
          · exact fromF3 q
          · exact .inr (.inl (si.back b (s3.back b q)))
          · exact .inr (.inr ⟨k, si.oo k b (ow4 q)⟩)
        · cases z : F6 D with
          | none => rfl
          | some o =>
            rcases s6.nf D (by rw [z]; simp) with q | q | ⟨k, q⟩
            · exact absurd f3D q
            · rw [h3D] at q; cases q
            · exact absurd q (d4 k)
      refine ⟨G, ρ4, F3, b5, ρ5, W4, e5, fun H5 F5 s5 => ?_⟩
      cases b5 with
      | false =>
        simp only [Bool.false_eq_true, if_false] at hf ⊢
        obtain ⟨t1, t2, t3, t4⟩ := turn s5
        exact ⟨wipeR ρ5 vs, F5, acc, us, t1, t2, ri.mono (A3.ff.trans s5.ff), t3, t4, fun v hv s es => wipeR_mem hv es, hf⟩
      | true =>
        simp only [if_true] at hf ⊢
        obtain ⟨⟨r6, ρ6⟩, e6, hf⟩ := Option.bind_eq_some_iff.mp hf
        obtain ⟨⟨x7, ρ7⟩, e7, hf⟩ := Option.bind_eq_some_iff.mp hf
        split at hf
        · rename_i hlen
          refine tm_use s5.wd e6 fun v6 H6 F6 s6 R6 => ?_
          obtain ⟨F7, s7, R7⟩ := frz_ok s6.wd R6 e7
          have s57 := (s5.trans s6).trans s7
          obtain ⟨t1, t2, t3, t4⟩ := turn s57
          have ra : Reps K F7 us acc := ri.mono (A3.ff.trans s57.ff)
          refine ⟨us, t2, lim_lt (by rw [ra.len]; exact hlen), wipeR ρ7 vs, F7, acc ++ [x7], us ++ [v6], ste_upd Ww t1 hD t3 t4, upd_same, ra.append (.cons R7 .nil), t3, t4, fun v hv s es => wipeR_mem hv es, hf⟩
        · cases hf
    · have e : i = xs.length := by omega
      subst e
      rw [List.drop_length] at hf
      cases hf
      refine .inl ⟨jr.st _ H2 (si.ff.trans Wi.sub) (Nat.le_refl _), ?_⟩
      have sU := unwipe W1 pl si
      exact q _ H2 Fi (s1.trans sU) ⟨D, us, rfl, hDi, ri, fi, s1.back D hD, fun k o => by
        obtain ⟨_, z, _⟩ := W1.ow_there (sU.oo k D o)
        rw [hD] at z; cases z⟩
  · cases hm
end
section
variable {X : Cx} {elt tg iter : Expr} {ifs : List Expr} {scope : Scope} {own : List (Str × Nat)} {pos : Pos} {src : M (List D)} {is : List Nat} {g : D → Rho → Option Rho} {t : M Bool} {e : M Vl}
theorem se_lc (hc : X.calm = true) (hN : X.N.Nodup) (hi : SI X tg iter src) (ok : BlkOk X.N X.env.scope scope own) (sub : ∀ i ∈ is, i ∈ own.map (·.2)) (gok : GOk is g)
    (hg : ∀ (s : Shared) (H : Hp) (C : Addr) (cl : List (Str × Addr)) (fp : List Addr), SG (X.blk s H scope (compEnvC scope cl C X.env) fp) tg is g) (ht : ∀ (s : Shared) (H : Hp) (C : Addr) (cl : List (Str × Addr)) (fp : List Addr), STs (X.blk s H scope (compEnvC scope cl C X.env) fp) ifs t)
    (he : ∀ (s : Shared) (H : Hp) (C : Addr) (cl : List (Str × Addr)) (fp : List Addr), SE (X.blk s H scope (compEnvC scope cl C X.env) fp) elt e) (hs : ∀ x, foldedSetIterable iter X.env x = pure x := by intro _; rfl) :
    SE X (.ListComp elt [⟨tg, iter, ifs, 0⟩] scope pos) (eLc (own.map (·.2)) src g t e) :=
  pe_weak (pe_lc hc hN hi ok hg ht he hs) fun _ _ _ h => tlc_of sub gok h
theorem ss_setlc {i : Nat} {y : Str} {py : Pos} {spos : Pos} (hc : X.calm = true) (hN : X.N.Nodup) (hy : X.N[i]? = some y) (hyl : X.env.scope.names.lookup y = some .local)
    (hsw : swapsWith (.ListComp elt [⟨tg, iter, ifs, 0⟩] scope pos) (some (.Name y py)) spos.line X.env = pure true) (hi : SI X tg iter src) (ok : BlkOk X.N X.env.scope scope own) (sub : ∀ i ∈ is, i ∈ own.map (·.2)) (gok : GOk is g)
    (hg : ∀ (s : Shared) (H : Hp) (C : Addr) (cl : List (Str × Addr)) (fp : List Addr), SG (X.blk s H scope (compEnvC scope cl C X.env) fp) tg is g) (ht : ∀ (s : Shared) (H : Hp) (C : Addr) (cl : List (Str × Addr)) (fp : List Addr), STs (X.blk s H scope (compEnvC scope cl C X.env) fp) ifs t)
    (he : ∀ (s : Shared) (H : Hp) (C : Addr) (cl : List (Str × Addr)) (fp : List Addr), SE (X.blk s H scope (compEnvC scope cl C X.env) fp) elt e) (hs : ∀ x, foldedSetIterable iter X.env x = pure x := by intro _; rfl) :
    SS X (.Assign [.Name y py] (.ListComp elt [⟨tg, iter, ifs, 0⟩] scope pos) spos) (sAsg i (eLc (own.map (·.2)) src g t e)) :=
  ps_weak (ps_setLc hc hN hy hyl hsw hi ok hg ht he hs) fun D σ H h => by
    obtain ⟨G, ρ, F, r, ρ', W, hm, q⟩ := sasg_of h
    exact tlc_of sub gok ⟨G, ρ, F, r, ρ', W, hm, q⟩
end
end Sw
set_option Elab.async false
set_option linter.all false
set_option maxRecDepth 100000
set_option maxHeartbeats 4000000
namespace Sw
open PySem PySem.Spec PyProof.Rows L2

theorem vw_int {K : PySem.W.Frag} {H F : Hp} {v : V} {i : Int} (h : Vw K H F v (.int i)) : v = .int i := by
  cases (show Rep K F v (.int i) from h); rfl
theorem vw_bl {K : PySem.W.Frag} {H F : Hp} {v : V} {i : Bool} (h : Vw K H F v (.bl i)) : v = .bl i := by
  cases (show Rep K F v (.bl i) from h); rfl
theorem vw_str {K : PySem.W.Frag} {H F : Hp} {v : V} {s : List Nat} (h : Vw K H F v (.str s)) : v = .str ⟨s.toArray⟩ := by
  cases (show Rep K F v (.str s) from h); rfl
theorem vw_non {K : PySem.W.Frag} {H F : Hp} {v : V} (h : Vw K H F v .non) : v = .non := by
  cases (show Rep K F v .non from h); rfl

section
variable {K : PySem.W.Frag}
/-! ### ints -/
def fInt (g : Int → Int → D) : D → D → Option D
  | .int i, .int j => some (g i j)
  | _, _ => none
def fIntC (C : Int → Int → Bool) (g : Int → Int → D) : D → D → Option D
  | .int i, .int j => if C i j = true then some (g i j) else none
  | _, _ => none
theorem os_int {g : Int → Int → D} {h : Int → Int → V} (r : ∀ i j F, Rep K F (h i j) (g i j)) : OpS K (rI0 h) (fInt g) := by
  intro H F v u x y z s hx hy e Q q
  unfold fInt at e
  split at e
  · cases e
    rw [vw_int hx, vw_int hy]
    exact ⟨_, _, rfl, rfl, q _ H F (Alc.refl s) (r _ _ F)⟩
  · cases e
theorem os_intC {C : Int → Int → Prop} {c : Int → Int → Bool} {g : Int → Int → D} {h : Int → Int → V} (hc : ∀ i j, c i j = true → C i j) (r : ∀ i j F, Rep K F (h i j) (g i j)) : OpS K (rI C h) (fIntC c g) := by
  intro H F v u x y z s hx hy e Q q
  unfold fIntC at e
  split at e
  · split at e
    · rename_i hC
      cases e
      rw [vw_int hx, vw_int hy]
      exact ⟨_, _, rfl, rfl, hc _ _ hC, q _ H F (Alc.refl s) (r _ _ F)⟩
    · cases e
  · cases e
/-! ### texts -/
def fCatS : D → D → Option D
  | .str a, .str b => if a.length + b.length ≤ lim then some (.str (a ++ b)) else none
  | _, _ => none
theorem os_catS : OpS K (fun x y H Q => ∃ i j : Str, x = .str i ∧ y = .str j ∧ i.length + j.length ≤ sizeLine ∧ Q (.str (i ++ j)) H) fCatS := by
  intro H F v u x y z s hx hy e Q q
  unfold fCatS at e
  split at e
  · split at e
    · rename_i hl
      cases e
      rw [vw_str hx, vw_str hy]
      refine ⟨_, _, rfl, rfl, lim_of (by simpa [Str.length] using hl), q _ H F (Alc.refl s) ?_⟩
      have e : ∀ a b : List Nat, ((⟨a.toArray⟩ : Str) ++ ⟨b.toArray⟩) = ⟨(a ++ b).toArray⟩ := fun a b => by
        show (⟨a.toArray ++ b.toArray⟩ : Str) = _
        simp
      rw [e]
      exact .str _
    · cases e
  · cases e
/-! ### lists, tuples joined -/
def fCatL : D → D → Option D
  | .lst a, .lst b => if a.length + b.length ≤ lim then some (.lst (a ++ b)) else none
  | _, _ => none
theorem os_catL : OpS K rCat fCatL := by
  intro H F v u x y z s hx hy e Q q
  unfold fCatL at e
  split at e
  · split at e
    · rename_i hl
      cases e
      obtain ⟨a, vs, rfl, h1, h2⟩ := hx
      obtain ⟨b, us, rfl, h3, h4⟩ := hy
      refine ⟨a, b, vs, us, rfl, rfl, h1, h3, lim_of (by rw [h2.len, h4.len]; exact hl), fun p hp => ?_⟩
      have A := Alc.new (o := HO.lst (vs ++ us)) s hp
      exact q _ _ _ A (.lst upd_same ((h2.append h4).mono A.ff))
    · cases e
  · cases e
def fCatT : D → D → Option D
  | .tup a, .tup b => if a.length + b.length ≤ lim then some (.tup (a ++ b)) else none
  | _, _ => none
theorem os_catT : OpS K (rCatA K) fCatT := by
  intro H F v u x y z s hx hy e Q q
  unfold fCatT at e
  split at e
  · split at e
    · rename_i hl
      cases e
      cases (show Rep K F v (.tup _) from hx) with
      | @tup a vs _ h1 h2 =>
        cases (show Rep K F u (.tup _) from hy) with
        | @tup b us _ h3 h4 =>
          refine ⟨a, b, vs, us, rfl, rfl, same_t s h1, same_t s h3, lim_of (by rw [h2.len, h4.len]; exact hl), fun z => ?_, fun _ z => ?_, fun _ _ p hp => ?_⟩
          · subst z
            cases h2
            exact q _ H F (Alc.refl s) (.tup h3 h4)
          · subst z
            cases h4
            rw [List.append_nil] at q
            exact q _ H F (Alc.refl s) (.tup h1 h2)
          · have A := Alc.new (o := HO.tup (vs ++ us)) s hp
            exact q _ _ _ A (.tup (SqT.of upd_same) ((h2.append h4).mono A.ff))
    · cases e
  · cases e
/-! ### == of scalars -/
def eqS : D → D → Option Bool
  | .int i, .int j => some (decide (i = j))
  | .str i, .str j => some (decide (i = j))
  | .bl i, .bl j => some (decide (i = j))
  | .non, .non => some true
  | .non, .int _ => some false
  | .non, .str _ => some false
  | .non, .bl _ => some false
  | .int _, .non => some false
  | .str _, .non => some false
  | .bl _, .non => some false
  | .int _, .str _ => some false
  | .str _, .int _ => some false
  | .bl _, .str _ => some false
  | .str _, .bl _ => some false
  | _, _ => none
def fEqS : D → D → Option D := fun x y => (eqS x y).bind fun b => some (.bl b)
def fNeS : D → D → Option D := fun x y => (eqS x y).bind fun b => some (.bl (!b))
theorem eqS_ok {H F : Hp} {v u : V} {x y : D} {b : Bool} (hx : Vw K H F v x) (hy : Vw K H F u y) (e : eqS x y = some b) : scal v u = true ∧ decide (v = u) = b := by
  unfold eqS at e
  split at e <;> (first | cases e | skip)
  · rw [vw_int hx, vw_int hy]; exact ⟨rfl, by simp⟩
  · rw [vw_str hx, vw_str hy]; exact ⟨rfl, by simp⟩
  · rw [vw_bl hx, vw_bl hy]; exact ⟨rfl, by simp⟩
  · rw [vw_non hx, vw_non hy]; exact ⟨rfl, by simp⟩
  · rw [vw_non hx, vw_int hy]; exact ⟨rfl, by simp⟩
  · rw [vw_non hx, vw_str hy]; exact ⟨rfl, by simp⟩
  · rw [vw_non hx, vw_bl hy]; exact ⟨rfl, by simp⟩
  · rw [vw_int hx, vw_non hy]; exact ⟨rfl, by simp⟩
  · rw [vw_str hx, vw_non hy]; exact ⟨rfl, by simp⟩
  · rw [vw_bl hx, vw_non hy]; exact ⟨rfl, by simp⟩
  · rw [vw_int hx, vw_str hy]; exact ⟨rfl, by simp⟩
  · rw [vw_str hx, vw_int hy]; exact ⟨rfl, by simp⟩
  · rw [vw_bl hx, vw_str hy]; exact ⟨rfl, by simp⟩
  · rw [vw_str hx, vw_bl hy]; exact ⟨rfl, by simp⟩
theorem os_eq : OpS K rEq fEqS := by
  intro H F v u x y z s hx hy e Q q
  obtain ⟨b, e1, e⟩ := Option.bind_eq_some_iff.mp e
  cases e
  obtain ⟨h1, h2⟩ := eqS_ok hx hy e1
  exact ⟨h1, by rw [h2]; exact q _ H F (Alc.refl s) (.bl b)⟩
theorem os_ne : OpS K rNe fNeS := by
  intro H F v u x y z s hx hy e Q q
  obtain ⟨b, e1, e⟩ := Option.bind_eq_some_iff.mp e
  cases e
  obtain ⟨h1, h2⟩ := eqS_ok hx hy e1
  exact ⟨h1, by rw [h2]; exact q _ H F (Alc.refl s) (.bl _)⟩
/-! ### is None, is True -/
def fIsN : D → D → Option D
  | .non, .non => some (.bl true)
  | _, .non => some (.bl false)
  | _, _ => none
def fNotN : D → D → Option D
  | .non, .non => some (.bl false)
  | _, .non => some (.bl true)
  | _, _ => none
theorem vw_ne_non {H F : Hp} {v : V} {x : D} (h : Vw K H F v x) (n : x ≠ .non) : v ≠ .non := by
  cases x with
  | non => exact absurd rfl n
  | bl b => rw [vw_bl h]; simp
  | int b => rw [vw_int h]; simp
  | str b => rw [vw_str h]; simp
  | lst b => obtain ⟨a, _, rfl, _⟩ := h; simp
  | tup b => cases (show Rep K F v (.tup b) from h); simp
  | scr b => cases (show Rep K F v (.scr b) from h); simp
theorem os_isN : OpS K (fun x y H Q => y = .non ∧ Q (.bl (decide (x = .non))) H) fIsN := by
  intro H F v u x y z s hx hy e Q q
  unfold fIsN at e
  split at e
  · cases e
    rw [vw_non hx, vw_non hy]
    exact ⟨rfl, by simpa using q _ H F (Alc.refl s) (.bl true)⟩
  · rename_i n
    cases e
    rw [vw_non hy]
    have : decide (v = V.non) = false := decide_eq_false (vw_ne_non hx n)
    exact ⟨rfl, by rw [this]; exact q _ H F (Alc.refl s) (.bl false)⟩
  · cases e
theorem os_notN : OpS K (fun x y H Q => y = .non ∧ Q (.bl (!decide (x = .non))) H) fNotN := by
  intro H F v u x y z s hx hy e Q q
  unfold fNotN at e
  split at e
  · cases e
    rw [vw_non hx, vw_non hy]
    exact ⟨rfl, by simpa using q _ H F (Alc.refl s) (.bl false)⟩
  · rename_i n
    cases e
    rw [vw_non hy]
    have : decide (v = V.non) = false := decide_eq_false (vw_ne_non hx n)
    exact ⟨rfl, by rw [this]; exact q _ H F (Alc.refl s) (.bl true)⟩
  · cases e
def fIsB : D → D → Option D
  | .bl a, .bl b => some (.bl (decide (a = b)))
  | _, _ => none
def fNotB : D → D → Option D
  | .bl a, .bl b => some (.bl (!decide (a = b)))
  | _, _ => none
theorem os_isB : OpS K (fun x y H Q => ∃ a b, x = .bl a ∧ y = .bl b ∧ Q (.bl (decide (a = b))) H) fIsB := by
  intro H F v u x y z s hx hy e Q q
  unfold fIsB at e
  split at e
  · cases e
    rw [vw_bl hx, vw_bl hy]
    exact ⟨_, _, rfl, rfl, q _ H F (Alc.refl s) (.bl _)⟩
  · cases e
theorem os_notB : OpS K (fun x y H Q => ∃ a b, x = .bl a ∧ y = .bl b ∧ Q (.bl (!decide (a = b))) H) fNotB := by
  intro H F v u x y z s hx hy e Q q
  unfold fNotB at e
  split at e
  · cases e
    rw [vw_bl hx, vw_bl hy]
    exact ⟨_, _, rfl, rfl, q _ H F (Alc.refl s) (.bl _)⟩
  · cases e
/-! ### in -/
def fInS : D → D → Option D
  | .str [c], .str s => some (.bl (decide (c ∈ s)))
  | _, _ => none
def fNiS : D → D → Option D
  | .str [c], .str s => some (.bl (!decide (c ∈ s)))
  | _, _ => none
theorem os_inS : OpS K (fun x y H Q => ∃ (c : Nat) (z : Str), x = .str ⟨#[c]⟩ ∧ y = .str z ∧ Q (.bl (decide (c ∈ z.cps.toList))) H) fInS := by
  intro H F v u x y z s hx hy e Q q
  unfold fInS at e
  split at e
  · cases e
    rw [vw_str hx, vw_str hy]
    exact ⟨_, _, rfl, rfl, by simpa using q _ H F (Alc.refl s) (.bl _)⟩
  · cases e
theorem os_niS : OpS K (fun x y H Q => ∃ (c : Nat) (z : Str), x = .str ⟨#[c]⟩ ∧ y = .str z ∧ Q (.bl (!decide (c ∈ z.cps.toList))) H) fNiS := by
  intro H F v u x y z s hx hy e Q q
  unfold fNiS at e
  split at e
  · cases e
    rw [vw_str hx, vw_str hy]
    exact ⟨_, _, rfl, rfl, by simpa using q _ H F (Alc.refl s) (.bl _)⟩
  · cases e
/-! ### items -/
def fIxS : D → D → Option D
  | .str s, .int i => if s.length ≤ lim then (atI s i).bind fun c => some (.str [c]) else none
  | _, _ => none
def fIxT : D → D → Option D
  | .tup xs, .int i => atI xs i
  | _, _ => none
def fIxL : D → D → Option D
  | .lst xs, .int i => atI xs i
  | _, _ => none
theorem atI_reps {F : Hp} {vs : List V} {xs : List D} {i : Int} {x : D} (r : Reps K F vs xs) (h : atI xs i = some x) : ∃ v, atI vs i = some v ∧ Rep K F v x := by
  unfold atI at h ⊢
  obtain ⟨j, e1, e2⟩ := Option.bind_eq_some_iff.mp h
  obtain ⟨v, h1, h2⟩ := r.get' e2
  rw [r.len, e1]
  exact ⟨v, h1, h2⟩
theorem os_ixS : OpS K rIxS fIxS := by
  intro H F v u x y z s hx hy e Q q
  unfold fIxS at e
  split at e
  · split at e
    · rename_i hl
      obtain ⟨c, e1, e⟩ := Option.bind_eq_some_iff.mp e
      cases e
      rw [vw_str hx, vw_int hy]
      exact ⟨_, _, c, rfl, rfl, lim_of (by simpa [Str.length] using hl), by simpa using e1, q _ H F (Alc.refl s) (.str [c])⟩
    · cases e
  · cases e
theorem os_ixT : OpS K (rIxT K) fIxT := by
  intro H F v u x y z s hx hy e Q q
  unfold fIxT at e
  split at e
  · cases (show Rep K F v (.tup _) from hx) with
    | tup h1 h2 =>
      rw [vw_int hy]
      obtain ⟨w, e1, r⟩ := atI_reps h2 e
      exact ⟨_, _, _, w, rfl, rfl, same_t s h1, e1, q _ H F (Alc.refl s) r⟩
  · cases e
theorem os_ixL : OpS K (rIxL K) fIxL := by
  intro H F v u x y z s hx hy e Q q
  unfold fIxL at e
  split at e
  · obtain ⟨a, vs, rfl, h1, h2⟩ := hx
    rw [vw_int hy]
    obtain ⟨w, e1, r⟩ := atI_reps h2 e
    exact ⟨_, _, _, w, rfl, rfl, SqL.of h1, e1, q _ H F (Alc.refl s) r⟩
  · cases e
/-! ### slices -/
def cutL {α : Type} (xs : List α) (lo hi : Option Int) : List α := (xs.drop (HT.sIx xs.length 0 lo)).take (HT.sIx xs.length xs.length hi - HT.sIx xs.length 0 lo)
def fSlS : D → Option Int → Option Int → Option D
  | .str s, lo, hi => if s.length ≤ lim then some (.str (cutL s lo hi)) else none
  | _, _, _ => none
def fSlL : D → Option Int → Option Int → Option D
  | .lst s, lo, hi => some (.lst (cutL s lo hi))
  | _, _, _ => none
def orSl (f g : D → Option Int → Option Int → Option D) : D → Option Int → Option Int → Option D := fun x lo hi => match f x lo hi with
  | some z => some z
  | none => g x lo hi
theorem SlS.or {r r' : V → Option Int → Option Int → Hp → VK → Prop} {f g : D → Option Int → Option Int → Option D} (h : SlS K r f) (h' : SlS K r' g) : SlS K (fun x lo hi H Q => r x lo hi H Q ∨ r' x lo hi H Q) (orSl f g) := by
  intro H F v x z lo hi s hx e Q q
  unfold orSl at e
  cases e1 : f x lo hi with
  | some w =>
    simp [e1] at e; subst e
    exact .inl (h H F v x w lo hi s hx e1 Q q)
  | none =>
    simp [e1] at e
    exact .inr (h' H F v x z lo hi s hx e Q q)
theorem sls_str : SlS K rSlS fSlS := by
  intro H F v x z lo hi s hx e Q q
  unfold fSlS at e
  split at e
  · split at e
    · rename_i hl
      cases e
      rw [vw_str hx]
      refine ⟨_, rfl, lim_of (by simpa [Str.length] using hl), ?_⟩
      have e : ∀ s : List Nat, cutS ⟨s.toArray⟩ lo hi = ⟨(cutL s lo hi).toArray⟩ := fun s => by simp [cutS, cutL, Str.length]
      rw [e]
      exact q _ H F (Alc.refl s) (.str _)
    · cases e
  · cases e
theorem cutV_reps {F : Hp} {vs : List V} {xs : List D} {lo hi : Option Int} (r : Reps K F vs xs) : Reps K F (cutV vs lo hi) (cutL xs lo hi) := by
  unfold cutV cutL
  rw [r.len]
  exact (r.drop _).take _
theorem sls_list : SlS K (rSlL K) fSlL := by
  intro H F v x z lo hi s hx e Q q
  unfold fSlL at e
  split at e
  · cases e
    obtain ⟨a, vs, rfl, h1, h2⟩ := hx
    refine ⟨a, vs, rfl, SqL.of h1, fun p hp => ?_⟩
    have A := Alc.new (o := HO.lst (cutV vs lo hi)) s hp
    exact q _ _ _ A (.lst upd_same ((cutV_reps h2).mono A.ff))
  · cases e
/-! ### calls -/
theorem vws1 {H F : Hp} {vs : List V} {x : D} (h : Vws K H F vs [x]) : ∃ v, vs = [v] ∧ Vw K H F v x := by
  match vs, h with
  | [v], h => exact ⟨v, rfl, h.1⟩
theorem vws2 {H F : Hp} {vs : List V} {x y : D} (h : Vws K H F vs [x, y]) : ∃ v u, vs = [v, u] ∧ Vw K H F v x ∧ Vw K H F u y := by
  match vs, h with
  | [v, u], h => exact ⟨v, u, rfl, h.1, h.2.1⟩
def cLen : List D → Option D
  | [.str s] => if s.length ≤ lim then some (.int s.length) else none
  | [.lst xs] => some (.int xs.length)
  | [.tup xs] => some (.int xs.length)
  | [.scr xs] => some (.int xs.length)
  | _ => none
theorem cs_len : CallS K (fun xs H Q => ∃ x n, xs = [x] ∧ LenV K x H n ∧ Q (.int n) H) cLen := by
  intro H F vs xs z s hx e Q q
  unfold cLen at e
  split at e
  · split at e
    · rename_i hl
      cases e
      obtain ⟨v, rfl, hv⟩ := vws1 hx
      rw [vw_str hv]
      refine ⟨_, _, rfl, ⟨lim_of (by simpa [Str.length] using hl), rfl⟩, ?_⟩
      have := q _ H F (Alc.refl s) (.int _)
      simpa [Str.length] using this
    · cases e
  · cases e
    obtain ⟨v, rfl, a, us, rfl, h1, h2⟩ := vws1 hx
    exact ⟨_, _, rfl, .inl ⟨us, SqL.of h1, rfl⟩, by rw [h2.len]; exact q _ H F (Alc.refl s) (.int _)⟩
  · cases e
    obtain ⟨v, rfl, hv⟩ := vws1 hx
    cases (show Rep K F v (.tup _) from hv) with
    | tup h1 h2 => exact ⟨_, _, rfl, .inr ⟨_, same_t s h1, rfl⟩, by rw [h2.len]; exact q _ H F (Alc.refl s) (.int _)⟩
  · cases e
    obtain ⟨v, rfl, hv⟩ := vws1 hx
    cases (show Rep K F v (.scr _) from hv) with
    | scr h1 => exact ⟨_, _, rfl, .inl ⟨_, s.seq h1, rfl⟩, by rw [List.length_map]; exact q _ H F (Alc.refl s) (.int _)⟩
  · cases e
def cInt : List D → Option D
  | [.int i] => some (.int i)
  | [.bl b] => some (.int (if b then 1 else 0))
  | _ => none
theorem cs_int : CallS K (fun xs H Q => (∃ i, xs = [.int i] ∧ Q (.int i) H) ∨ ∃ k, xs = [.bl k] ∧ Q (.int (if k then 1 else 0)) H) cInt := by
  intro H F vs xs z s hx e Q q
  unfold cInt at e
  split at e
  · cases e
    obtain ⟨v, rfl, hv⟩ := vws1 hx
    rw [vw_int hv]
    exact .inl ⟨_, rfl, q _ H F (Alc.refl s) (.int _)⟩
  · cases e
    obtain ⟨v, rfl, hv⟩ := vws1 hx
    rw [vw_bl hv]
    exact .inr ⟨_, rfl, q _ H F (Alc.refl s) (.int _)⟩
  · cases e
end
section
variable {X : Cx}
/-! ### text * int -/
def rMulS : R2 := fun x y H Q => ∃ (z : Str) (n : Int), x = .str z ∧ y = .int n ∧ MulOk z n ∧ Q (.str (Txt.mul z n)) H
theorem op_mulS : OpR X (binaryOp .Mult) rMulS := by
  intro pins s σ H x y v u Q I rx ry h
  obtain ⟨z, n, rfl, rfl, ok, q⟩ := h
  obtain ⟨t, rfl⟩ := rx
  obtain ⟨t', rfl⟩ := ry
  exact SB.mul ok fun t2 k => ⟨.str _, H, I.tok k, ⟨_, rfl⟩, q⟩
/-- one sign, times n -/
def fMulS : D → D → Option D
  | .str [c], .int n => if -1000000 ≤ n ∧ n ≤ 1000000 then some (.str (List.replicate n.toNat c)) else none
  | _, _ => none
theorem fold_rep (c : Nat) : ∀ (n : Nat) (acc : Array Nat), (List.replicate n #[c]).foldl (· ++ ·) acc = acc ++ (List.replicate n c).toArray
  | 0, acc => by simp
  | n + 1, acc => by
    rw [List.replicate_succ, List.foldl_cons, fold_rep c n, List.replicate_succ]
    apply Array.ext'
    simp
theorem mul_txt (c : Nat) (n : Int) : Txt.mul ⟨#[c]⟩ n = ⟨(List.replicate n.toNat c).toArray⟩ := by
  unfold Txt.mul
  by_cases h : n < 1
  · rw [if_pos h, show n.toNat = 0 by omega]
    rfl
  · rw [if_neg h]
    by_cases h1 : n = 1
    · subst h1; rfl
    · rw [if_neg (by simp [h1]; show ¬ (1 = 0); decide)]
      show (⟨(List.replicate n.toNat #[c]).foldl (· ++ ·) #[]⟩ : Str) = _
      rw [fold_rep]
      simp
theorem os_mulS {K : PySem.W.Frag} : OpS K rMulS fMulS := by
  intro H F v u x y z s hx hy e Q q
  unfold fMulS at e
  split at e
  · split at e
    · rename_i hc
      cases e
      rw [vw_str hx, vw_int hy]
      refine ⟨_, _, rfl, rfl, mulOk_of 1 1000000 (Nat.le_refl 1) hc.2 (Int.le_trans (by decide) hc.1) (by decide) (by decide), ?_⟩
      rw [mul_txt]
      exact q _ H F (Alc.refl s) (.str _)
    · cases e
  · cases e
/-! ### text < text -/
def fLtS : D → D → Option D
  | .str a, .str b => some (.bl (decide (a < b)))
  | _, _ => none
theorem os_ltS {K : PySem.W.Frag} : OpS K (fun x y H Q => ∃ i j, x = .str i ∧ y = .str j ∧ Q (.bl (decide (i.cps.toList < j.cps.toList))) H) fLtS := by
  intro H F v u x y z s hx hy e Q q
  unfold fLtS at e
  split at e
  · cases e
    rw [vw_str hx, vw_str hy]
    exact ⟨_, _, rfl, rfl, q _ H F (Alc.refl s) (.bl _)⟩
  · cases e
end
/-! ### == of lists and tuples -/
mutual
def toP : D → PyData
  | .non => .none
  | .bl b => .bool b
  | .int i => .int i
  | .str s => .str ⟨s.toArray⟩
  | .lst xs => .list (toPs xs)
  | .tup xs => .tuple (toPs xs)
  | .scr xs => .list (xs.map .int)
def toPs : List D → List PyData
  | [] => []
  | x :: xs => toP x :: toPs xs
end
theorem dp_ints {K : PySem.W.Frag} {H : Hp} : ∀ xs : List Int, DpAll K H (xs.map V.int) (xs.map PyData.int)
  | [] => .nil
  | i :: xs => .cons (.int i) (dp_ints xs)
mutual
theorem Rep.dp {K : PySem.W.Frag} {F H : Hp} (s : Same F H) : ∀ {v : V} {d : D}, Rep K F v d → Dp K H v (toP d)
  | _, _, .non => by unfold toP; exact .non
  | _, _, .bl b => by unfold toP; exact .bl b
  | _, _, .int i => by unfold toP; exact .int i
  | _, _, .str x => by unfold toP; exact .str _
  | _, _, .lst h r => by unfold toP; exact .lst (SqL.of (s _ _ h)) (Reps.dp s r)
  | _, _, .scr h => by unfold toP; exact .lst (s.seq h) (dp_ints _)
  | _, _, .tup h r => by unfold toP; exact .tup (same_t s h) (Reps.dp s r)
theorem Reps.dp {K : PySem.W.Frag} {F H : Hp} (s : Same F H) : ∀ {vs : List V} {ds : List D}, Reps K F vs ds → DpAll K H vs (toPs ds)
  | _, _, .nil => by unfold toPs; exact .nil
  | _, _, .cons h r => by unfold toPs; exact .cons (Rep.dp s h) (Reps.dp s r)
end
theorem vw_dp {K : PySem.W.Frag} {F H : Hp} {v : V} {x : D} (s : Same F H) (h : Vw K H F v x) : Dp K H v (toP x) := by
  cases x with
  | lst xs => obtain ⟨a, vs, rfl, h1, h2⟩ := h; unfold toP; exact .lst (SqL.of h1) (h2.dp s)
  | non => exact Rep.dp s h
  | bl b => exact Rep.dp s h
  | int i => exact Rep.dp s h
  | str t => exact Rep.dp s h
  | tup xs => exact Rep.dp s h
  | scr xs => exact Rep.dp s h
def shD (x : D) : Bool := SeqAt.shaped (toP x)
def fEqD : D → D → Option D := fun x y => if (shD x && shD y) = true then some (.bl (PyData.eqv (toP x) (toP y))) else none
def fNeD : D → D → Option D := fun x y => if (shD x && shD y) = true then some (.bl (!PyData.eqv (toP x) (toP y))) else none
theorem os_eqD {K : PySem.W.Frag} : OpS K (rEqD K) fEqD := by
  intro H F v u x y z s hx hy e Q q
  unfold fEqD at e
  split at e
  · rename_i hc
    cases e
    rw [Bool.and_eq_true] at hc
    exact ⟨_, _, vw_dp s hx, vw_dp s hy, hc.1, hc.2, q _ H F (Alc.refl s) (.bl _)⟩
  · cases e
theorem os_neD {K : PySem.W.Frag} : OpS K (rNeD K) fNeD := by
  intro H F v u x y z s hx hy e Q q
  unfold fNeD at e
  split at e
  · rename_i hc
    cases e
    rw [Bool.and_eq_true] at hc
    exact ⟨_, _, vw_dp s hx, vw_dp s hy, hc.1, hc.2, q _ H F (Alc.refl s) (.bl _)⟩
  · cases e
end Sw
set_option Elab.async false
set_option linter.all false
set_option maxRecDepth 100000
set_option maxHeartbeats 4000000
namespace Sw
open PySem PySem.Spec PyProof.Rows L2

/-! ### the operators as one rule each -/
def Op2 (X : Cx) (fn : Value → Value → Sem Value) (f : D → D → Option D) : Prop := ∃ r, OpR X fn r ∧ OpS X.K r f
theorem Op2.or {X : Cx} {fn : Value → Value → Sem Value} {f g : D → D → Option D} (h : Op2 X fn f) (h' : Op2 X fn g) : Op2 X fn (orF f g) :=
  let ⟨_, a, b⟩ := h
  let ⟨_, a', b'⟩ := h'
  ⟨_, a.or a', b.or b'⟩
section
variable {X : Cx}
def fAdd : D → D → Option D := orF (fInt fun i j => .int (i + j)) (orF fCatS (orF fCatL fCatT))
theorem oAdd : Op2 X (binaryOp .Add) fAdd := Op2.or ⟨_, op_add, os_int fun _ _ _ => .int _⟩ (Op2.or ⟨_, op_add_str, os_catS⟩ (Op2.or ⟨_, op_cat, os_catL⟩ ⟨_, op_catA, os_catT⟩))
def fSub : D → D → Option D := fInt fun i j => .int (i - j)
theorem oSub : Op2 X (binaryOp .Sub) fSub := ⟨_, op_sub, os_int fun _ _ _ => .int _⟩
def cMul (i j : Int) : Bool := decide (-18446744073709551616 < i ∧ i < 18446744073709551616) || decide (-18446744073709551616 < j ∧ j < 18446744073709551616)
def fMul : D → D → Option D := orF (fIntC cMul fun i j => .int (i * j)) fMulS
theorem oMul : Op2 X (binaryOp .Mult) fMul := Op2.or ⟨_, op_mul, os_intC (fun i j h => by
  unfold cMul at h
  rcases (Bool.or_eq_true _ _).mp h with h | h
  · exact .inl (of_decide_eq_true h)
  · exact .inr (of_decide_eq_true h)) fun _ _ _ => .int _⟩ ⟨_, op_mulS, os_mulS⟩
def fDiv : D → D → Option D := fIntC (fun _ j => decide (0 < j ∧ j < 1073741824)) fun i j => .int (i / j)
theorem oDiv : Op2 X (binaryOp .FloorDiv) fDiv := ⟨_, op_fdiv, os_intC (fun i j h => (show CDiv i j from of_decide_eq_true (p := 0 < j ∧ j < 1073741824) h)) fun _ _ _ => .int _⟩
def fMod : D → D → Option D := fIntC (fun _ j => decide (0 < j)) fun i j => .int (i % j)
theorem oMod : Op2 X (binaryOp .Mod) fMod := ⟨_, op_mod, os_intC (fun _ _ h => of_decide_eq_true h) fun _ _ _ => .int _⟩
def fPow : D → D → Option D := fIntC (fun i j => decide (0 ≤ j ∧ j ≤ 1000000 ∧ i.natAbs < 18446744073709551616)) fun i j => .int (i ^ j.toNat)
theorem oPow : Op2 X (binaryOp .Pow) fPow := ⟨_, op_pow, os_intC (fun i j h => (show CPow i j from of_decide_eq_true (p := 0 ≤ j ∧ j ≤ 1000000 ∧ i.natAbs < 18446744073709551616) h)) fun _ _ _ => .int _⟩
def fLt : D → D → Option D := orF (fInt fun i j => .bl (decide (i < j))) fLtS
def fLe : D → D → Option D := fInt fun i j => .bl (decide (i ≤ j))
def fGt : D → D → Option D := fInt fun i j => .bl (decide (j < i))
def fGe : D → D → Option D := fInt fun i j => .bl (decide (j ≤ i))
theorem oLt : Op2 X (compareOp .Lt) fLt := Op2.or ⟨_, op_lt, os_int fun _ _ _ => .bl _⟩ ⟨_, op_lt_str, os_ltS⟩
theorem oLe : Op2 X (compareOp .LtE) fLe := ⟨_, op_le, os_int fun _ _ _ => .bl _⟩
theorem oGt : Op2 X (compareOp .Gt) fGt := ⟨_, op_gt, os_int fun _ _ _ => .bl _⟩
theorem oGe : Op2 X (compareOp .GtE) fGe := ⟨_, op_ge, os_int fun _ _ _ => .bl _⟩
def fEq : D → D → Option D := orF fEqS fEqD
def fNe : D → D → Option D := orF fNeS fNeD
theorem oEq (hu : X.A.units + 64 < cLine) : Op2 X (compareOp .Eq) fEq := Op2.or ⟨_, op_eq, os_eq⟩ ⟨_, op_eqD hu, os_eqD⟩
theorem oNe (hu : X.A.units + 64 < cLine) : Op2 X (compareOp .NotEq) fNe := Op2.or ⟨_, op_ne, os_ne⟩ ⟨_, op_neD hu, os_neD⟩
def fIs : D → D → Option D := orF fIsN fIsB
def fNt : D → D → Option D := orF fNotN fNotB
theorem oIs : Op2 X (compareOp .Is) fIs := Op2.or ⟨_, op_isN, os_isN⟩ ⟨_, op_is_bl, os_isB⟩
theorem oNt : Op2 X (compareOp .IsNot) fNt := Op2.or ⟨_, op_notN, os_notN⟩ ⟨_, op_isnot_bl, os_notB⟩
/-! x in a list or tuple of flat things -/
def flatD : D → Bool
  | .non => true
  | .bl _ => true
  | .int _ => true
  | .str _ => true
  | _ => false
def eqF : D → D → Bool
  | .non, .non => true
  | .bl a, .bl b => a == b
  | .bl a, .int b => (if a then 1 else 0) == b
  | .int a, .bl b => a == (if b then 1 else 0)
  | .int a, .int b => a == b
  | .str a, .str b => decide (a = b)
  | _, _ => false
theorem flat_rep {K : PySem.W.Frag} {F : Hp} {v : V} {x : D} (r : Rep K F v x) (h : flatD x = true) : flatV v = true := by
  cases r <;> first | rfl | cases h
theorem eqF_rep {K : PySem.W.Frag} {F : Hp} {v u : V} {x y : D} (r : Rep K F v x) (r' : Rep K F u y) (h : flatD x = true) (h' : flatD y = true) : eqV v u = eqF x y := by
  have key : ∀ a b : List Nat, ((⟨a.toArray⟩ : Str) == ⟨b.toArray⟩) = decide (a = b) := fun a b => by
    by_cases e : a = b
    · subst e; simp
    · rw [decide_eq_false e]
      have ne : (⟨a.toArray⟩ : Str) ≠ ⟨b.toArray⟩ := fun z => e (by simpa using congrArg (fun s : Str => s.cps.toList) z)
      exact beq_eq_false_iff_ne.mpr ne
  cases r <;> cases r' <;> first | rfl | exact absurd h Bool.false_ne_true | exact absurd h' Bool.false_ne_true | exact key _ _
def inD (x : D) (xs : List D) : Bool := xs.any fun y => eqF y x
theorem inV_reps {K : PySem.W.Frag} {F : Hp} {v : V} {x : D} (r : Rep K F v x) (h : flatD x = true) : ∀ {vs : List V} {xs : List D}, Reps K F vs xs → xs.all flatD = true → inV v vs = inD x xs ∧ vs.all flatV = true
  | _, _, .nil, _ => ⟨rfl, rfl⟩
  | _, _, .cons r1 t, e => by
    rw [List.all_cons, Bool.and_eq_true] at e
    obtain ⟨i1, i2⟩ := inV_reps r h t e.2
    unfold inV inD at i1 ⊢
    rw [List.any_cons, List.any_cons, List.all_cons, i1, i2, eqF_rep r1 r e.1 h, flat_rep r1 e.1]
    exact ⟨rfl, rfl⟩
def fInQ (neg : Bool) : D → D → Option D := fun x y => match y with
  | .lst xs => if (flatD x && xs.all flatD) = true then some (.bl (if neg then !inD x xs else inD x xs)) else none
  | .tup xs => if (flatD x && xs.all flatD) = true then some (.bl (if neg then !inD x xs else inD x xs)) else none
  | _ => none
theorem vw_flat {K : PySem.W.Frag} {H F : Hp} {v : V} {x : D} (h : Vw K H F v x) (f : flatD x = true) : Rep K F v x := by
  cases x <;> first | exact h | cases f
theorem os_inQ {K : PySem.W.Frag} {neg : Bool} : OpS K (rIn K neg) (fInQ neg) := by
  intro H F v u x y z s hx hy e Q q
  unfold fInQ at e
  split at e
  · split at e
    · rename_i hc
      cases e
      rw [Bool.and_eq_true] at hc
      obtain ⟨a, us, rfl, h1, h2⟩ := hy
      have rx := vw_flat hx hc.1
      obtain ⟨i1, i2⟩ := inV_reps rx hc.1 h2 hc.2
      refine ⟨a, us, rfl, .inl (SqL.of h1), flat_rep rx hc.1, i2, ?_⟩
      rw [i1]
      exact q _ H F (Alc.refl s) (.bl _)
    · cases e
  · split at e
    · rename_i hc
      cases e
      rw [Bool.and_eq_true] at hc
      cases (show Rep K F u (.tup _) from hy) with
      | @tup a us _ h1 h2 =>
      have rx := vw_flat hx hc.1
      obtain ⟨i1, i2⟩ := inV_reps rx hc.1 h2 hc.2
      refine ⟨a, us, rfl, .inr (same_t s h1), flat_rep rx hc.1, i2, ?_⟩
      rw [i1]
      exact q _ H F (Alc.refl s) (.bl _)
    · cases e
  · cases e
def fIn : D → D → Option D := orF fInS (fInQ false)
def fNi : D → D → Option D := orF fNiS (fInQ true)
theorem oIn : Op2 X (compareOp .In) fIn := Op2.or ⟨_, op_in_sign, os_inS⟩ ⟨_, op_in_seq, os_inQ⟩
theorem oNi : Op2 X (compareOp .NotIn) fNi := Op2.or ⟨_, op_notIn_sign, os_niS⟩ ⟨_, op_notIn_seq, os_inQ⟩
def fIx : D → D → Option D := orF fIxL (orF fIxT fIxS)
theorem oIx : ∃ r, IxR X r ∧ OpS X.K r fIx := ⟨_, ix_list.or (ix_tup.or ix_str), os_ixL.or (os_ixT.or os_ixS)⟩
def fSl : D → Option Int → Option Int → Option D := orSl fSlL fSlS
theorem oSl : ∃ r, L2.SlR X r ∧ SlS X.K r fSl := ⟨_, sl_list.or sl_str, sls_list.or sls_str⟩
def fNeg : D → Option D
  | .int i => some (.int (-i))
  | _ => none
theorem us_neg : UnS X.K (rU fun i => .int (-i)) fNeg := by
  intro H F v x z s hx e Q q
  unfold fNeg at e
  split at e
  · cases e
    rw [vw_int hx]
    exact ⟨_, rfl, q _ H F (Alc.refl s) (.int _)⟩
  · cases e
end
section
variable {X : Cx} {a b c e : Expr} {ma mb mc me : M Vl} {pos p : Pos} {es : List Expr} {ms : M (List Vl)}
theorem se_b {op : Operator} {f : D → D → Option D} (h : Op2 X (binaryOp op) f) (ha : SE X a ma) (hb : SE X b mb) : SE X (.BinOp a op b pos) (eBin f ma mb) :=
  let ⟨_, h1, h2⟩ := h
  se_bin h1 h2 ha hb
theorem se_c {op : CmpOp} {f : D → D → Option D} (h : Op2 X (compareOp op) f) (ha : SE X a ma) (hb : SE X b mb) (hm : behindInMarks op b = false) : SE X (.Compare a [op] [b] pos) (eBin f ma mb) :=
  let ⟨_, h1, h2⟩ := h
  se_cmp h1 h2 ha hb hm
theorem st_c {op : CmpOp} {f : D → D → Option D} (h : Op2 X (compareOp op) f) (ha : SE X a ma) (hb : SE X b mb) (hm : behindInMarks op b = false) : ST X (.Compare a [op] [b] pos) (tE (eBin f ma mb)) :=
  let ⟨_, h1, h2⟩ := h
  st_cmp h1 h2 ha hb hm
theorem se_cc {op op' : CmpOp} {f g : D → D → Option D} (h : Op2 X (compareOp op) f) (h' : Op2 X (compareOp op') g) (ha : SE X a ma) (hb : SE X b mb) (hc : SE X c mc) (hm : lastMarks [op, op'] [b, c] = false) : SE X (.Compare a [op, op'] [b, c] pos) (eChain f g ma mb mc) :=
  let ⟨_, h1, h2⟩ := h
  let ⟨_, h3, h4⟩ := h'
  se_chain h1 h3 h2 h4 ha hb hc hm
theorem st_cc {op op' : CmpOp} {f g : D → D → Option D} (h : Op2 X (compareOp op) f) (h' : Op2 X (compareOp op') g) (ha : SE X a ma) (hb : SE X b mb) (hc : SE X c mc) (hm : lastMarks [op, op'] [b, c] = false) : ST X (.Compare a [op, op'] [b, c] pos) (tE (eChain f g ma mb mc)) :=
  let ⟨_, h1, h2⟩ := h
  let ⟨_, h3, h4⟩ := h'
  st_chain h1 h3 h2 h4 ha hb hc hm
theorem se_neg (ha : SE X a ma) : SE X (.UnaryOp .USub a pos) (eUn fNeg ma) := se_un un_neg us_neg ha
theorem se_ix (ha : SE X a ma) (hb : SE X b mb) (hs : PlainIx b) : SE X (.Subscript a b pos) (eBin fIx ma mb) :=
  let ⟨_, h1, h2⟩ := oIx (X := X)
  se_ixr h1 h2 ha hb hs
theorem se_slc {lo hi : Option Expr} {ml mu : M (Option Int)} {p2 : Pos} (he : SE X e me) (hl : SO X lo ml) (hu : SO X hi mu) : SE X (.Subscript e (.Slice lo hi none p2) pos) (eSl fSl me ml mu) :=
  let ⟨_, h1, h2⟩ := oSl (X := X)
  se_sl h1 h2 he hl hu
theorem se_len (hm : X.mg "len" = none) (hg : Gl X "len") (ha : SA X [e] ms) (he : starEach [e] X.env = (false, eval e X.env) :: starEach [] X.env := by rfl) (hpl : (backTo pos (starEach [] X.env)).any (·.1) = false := by rfl) : SE X (.Call (.Name "len" p) [e] [] pos) (eBlt cLen ms) :=
  se_blt call_len cs_len hg hm PySem.boot_len ha (by decide) (by decide) he hpl
theorem se_toint (hm : X.mg "int" = none) (hg : Gl X "int") (ha : SA X [e] ms) (he : starEach [e] X.env = (false, eval e X.env) :: starEach [] X.env := by rfl) (hpl : (backTo pos (starEach [] X.env)).any (·.1) = false := by rfl) : SE X (.Call (.Name "int" p) [e] [] pos) (eBlt cInt ms) :=
  se_ty call_int1 cs_int hg hm (by decide +kernel) ha (by decide) (by decide) he hpl
/-! ### sep.join(xs) -/
def strsOf : List D → Option (List (List Nat))
  | [] => some []
  | .str s :: xs => (strsOf xs).bind fun r => some (s :: r)
  | _ => none
def fJoin : D → List D → Option D
  | .str a, [.lst xs] => (strsOf xs).bind fun ys => if (ys.map (·.length)).sum + ys.length * a.length ≤ lim then some (.str (TL.joinL a ys)) else none
  | .str a, [.tup xs] => (strsOf xs).bind fun ys => if (ys.map (·.length)).sum + ys.length * a.length ≤ lim then some (.str (TL.joinL a ys)) else none
  | _, _ => none
theorem strsOf_ok {K : PySem.W.Frag} {F : Hp} : ∀ {vs : List V} {xs : List D} {ys : List (List Nat)}, Reps K F vs xs → strsOf xs = some ys → vs = (ys.map fun y => (⟨y.toArray⟩ : Str)).map V.str
  | _, _, _, .nil, e => by cases e; rfl
  | _, _, ys, .cons r t, e => by
    cases r with
    | str s =>
      unfold strsOf at e
      obtain ⟨zs, e1, e⟩ := Option.bind_eq_some_iff.mp e
      cases e
      rw [strsOf_ok t e1]
      rfl
    | non => cases e
    | bl _ => cases e
    | int _ => cases e
    | lst _ _ => cases e
    | scr _ => cases e
    | tup _ _ => cases e
theorem join_txt (a : List Nat) (ys : List (List Nat)) : Txt.join ⟨a.toArray⟩ (ys.map fun y => (⟨y.toArray⟩ : Str)) = (⟨(TL.joinL a ys).toArray⟩ : Str) := by
  have h := TL.tl_join ⟨a.toArray⟩ (ys.map fun y => (⟨y.toArray⟩ : Str))
  rw [TL.join_eq]
  have e : (ys.map fun y => (⟨y.toArray⟩ : Str)).map TL.tl = ys := by
    rw [List.map_map]
    have : (TL.tl ∘ fun y : List Nat => (⟨y.toArray⟩ : Str)) = id := by
      funext y
      simp [TL.tl]
    rw [this, List.map_id]
  rw [e] at h
  have h2 : TL.tl (⟨a.toArray⟩ : Str) = a := by simp [TL.tl]
  rw [h2] at h
  rw [← h]
theorem ms_join {K : PySem.W.Frag} : MetS K (fun x xs H Q => ∃ a p, ∃ ys : List Str, x = .str a ∧ xs = [.ref p] ∧ (SqL K H p (ys.map V.str) ∨ SqT K H p (ys.map V.str)) ∧
    (ys.map (·.length)).sum + ys.length * a.length ≤ 16777216 ∧ Q (.str (Txt.join a ys)) H) fJoin := by
  have len : ∀ ys : List (List Nat), ((ys.map fun y => (⟨y.toArray⟩ : Str)).map (·.length)).sum = (ys.map (·.length)).sum := fun ys => by
    rw [List.map_map]
    congr 1
  intro H F v vs x xs z s hx hxs e Q q
  unfold fJoin at e
  split at e
  · obtain ⟨ys, e1, e⟩ := Option.bind_eq_some_iff.mp e
    split at e
    · rename_i hl
      cases e
      obtain ⟨u, rfl, p, us, rfl, h1, h2⟩ := vws1 hxs
      rw [vw_str hx]
      rw [strsOf_ok h2 e1] at h1
      refine ⟨_, p, _, rfl, rfl, .inl (SqL.of h1), ?_, ?_⟩
      · rw [len, List.length_map]; simpa [Str.length] using hl
      · rw [join_txt]; exact q _ H F (Alc.refl s) (.str _)
    · cases e
  · obtain ⟨ys, e1, e⟩ := Option.bind_eq_some_iff.mp e
    split at e
    · rename_i hl
      cases e
      obtain ⟨u, rfl, hu⟩ := vws1 hxs
      cases (show Rep K F u (.tup _) from hu) with
      | @tup p us _ h1 h2 =>
      rw [vw_str hx]
      rw [strsOf_ok h2 e1] at h1
      refine ⟨_, p, _, rfl, rfl, .inr (same_t s h1), ?_, ?_⟩
      · rw [len, List.length_map]; simpa [Str.length] using hl
      · rw [join_txt]; exact q _ H F (Alc.refl s) (.str _)
    · cases e
  · cases e
theorem se_join {o : Expr} {mo : M Vl} {apos cpos : Pos} (ho : SE X o mo) (ha : SA X [e] ms)
    (hbase : attributeBase o "join" X.env (eval o X.env) = eval o X.env := by rfl)
    (hfew : ((backTo cpos (starEach [e] X.env)).all (fun x => !x.1) && (backToKw cpos (keywordEach [] X.env)).all (fun x => x.1.isSome)
      && decide ([e].length + ([] : List Keyword).length + (if ([] : List Keyword).isEmpty then 0 else 1) < 30)) = true := by rfl)
    (hline : (apos.endLine == cpos.line) = true := by rfl) (hs : starEach [e] X.env = (false, eval e X.env) :: starEach [] X.env := by rfl) (hplain : (backTo cpos (starEach [] X.env)).any (·.1) = false := by rfl) :
    SE X (.Call (.Attribute o "join" apos) [e] [] cpos) (eMet fJoin mo ms) := se_met PySem.F.slot_str_join PySem.F.type_str_join mt_join (fun x xs z h => by
  unfold fJoin at h
  split at h
  · exact ⟨_, rfl⟩
  · exact ⟨_, rfl⟩
  · cases h) ms_join ho ha hbase hfew hline hs hplain
/-- a text of the module -/
theorem se_gstr {x : Str} {u : Value} {cs : List Nat} (hu : ∃ (y : Str) (t : Tok), u = .str y t ∧ y.cps.toList = cs) (hm : X.mg x = some u) (hg : Gl X x) (hd : (x == ("__debug__" : Str)) = false := by decide) : SE X (.Name x pos) (eC (.str cs)) := by
  obtain ⟨y, t, rfl, rfl⟩ := hu
  exact se_glob (v := .str y) hm ⟨t, rfl⟩ (fun _ => rep_str y) hg hd
/-- a number of the module -/
theorem se_gint {x : Str} {u : Value} {i : Int} (hu : ∃ t : Tok, u = .int i t) (hm : X.mg x = some u) (hg : Gl X x) (hd : (x == ("__debug__" : Str)) = false := by decide) : SE X (.Name x pos) (eC (.int i)) := by
  obtain ⟨t, rfl⟩ := hu
  exact se_glob (v := .int i) hm ⟨t, rfl⟩ (fun _ => .int i) hg hd
end
/-- the law's own promise at the script -/
theorem law_sp {K : PySem.W.Frag} {H : Hp} {a : Addr} {ns : List Int} {f : Fn} {E : XK} (hS : SqL K H a (ns.map V.int)) (h : f [.da (.scr ns)] = some (.fz (.bl true), [])) : spF K 1 f [.ref a] H (fun v _ => v = .bl true) E :=
  ⟨rfl, H, [.da (.scr ns)], .fz (.bl true), [], Same.refl _, ⟨.scr hS, trivial⟩, List.nodup_nil, h, fun v H' F' _ _ _ _ _ R => by
    cases (show Rep K F' v (.bl true) from R)
    rfl⟩
end Sw
set_option Elab.async false
set_option linter.all false
set_option maxRecDepth 100000
set_option maxHeartbeats 4000000
/-! Sw9: reckoning in the pure semantics. -/
namespace Sw
open L2

def Ev {α : Type} (m : M α) (ρ : Rho) (Q : α → Rho → Prop) : Prop := ∃ a ρ', m ρ = some (a, ρ') ∧ Q a ρ'
abbrev Sv (s : S) (ρ : Rho) (Q : Fl → Rho → Prop) : Prop := ∃ fl ρ', s ρ = some (fl, ρ') ∧ Q fl ρ'

theorem sv_seq {a b : S} {ρ : Rho} {Q : Fl → Rho → Prop} (h : Sv a ρ fun fl ρ' => match fl with
    | .nx => Sv b ρ' Q
    | fl => Q fl ρ') : Sv (sSeq a b) ρ Q := by
  obtain ⟨fl, ρ1, e, h⟩ := h
  have un : sSeq a b ρ = (a ρ).bind fun p => match p.1 with
    | .nx => b p.2
    | fl => some (fl, p.2) := rfl
  cases fl with
  | nx =>
    obtain ⟨f2, ρ2, e2, h⟩ := h
    exact ⟨f2, ρ2, by rw [un, e]; exact e2, h⟩
  | bk => exact ⟨.bk, ρ1, by rw [un, e]; rfl, h⟩
  | ct => exact ⟨.ct, ρ1, by rw [un, e]; rfl, h⟩
  | rt v => exact ⟨.rt v, ρ1, by rw [un, e]; rfl, h⟩
theorem sv_seq_eq {a b : S} {ρ ρ1 : Rho} {Q : Fl → Rho → Prop} (e : a ρ = some (.nx, ρ1)) (h : Sv b ρ1 Q) : Sv (sSeq a b) ρ Q := sv_seq ⟨.nx, ρ1, e, h⟩
theorem sv_nx {ρ : Rho} {Q : Fl → Rho → Prop} (h : Q .nx ρ) : Sv sNx ρ Q := ⟨_, _, rfl, h⟩
theorem sv_if {t : M Bool} {a b : S} {ρ ρ1 : Rho} {c : Bool} {Q : Fl → Rho → Prop} (e : t ρ = some (c, ρ1)) (h1 : c = true → Sv a ρ1 Q) (h2 : c = false → Sv b ρ1 Q) : Sv (sIf t a b) ρ Q := by
  have un : sIf t a b ρ = (t ρ).bind fun p => if p.1 = true then a p.2 else b p.2 := rfl
  cases c with
  | true => obtain ⟨f, r, e2, h⟩ := h1 rfl; exact ⟨f, r, by rw [un, e]; exact e2, h⟩
  | false => obtain ⟨f, r, e2, h⟩ := h2 rfl; exact ⟨f, r, by rw [un, e]; exact e2, h⟩
theorem forM_inv {g : D → Rho → Option Rho} {b : S} (I : Nat → Rho → Prop) : ∀ (xs : List D) (k : Nat) (ρ : Rho), I k ρ →
    (∀ (i : Nat) (x : D), xs[i]? = some x → ∀ ρ, I (k + i) ρ → ∃ ρ1, g x ρ = some ρ1 ∧ ∃ fl ρ2, b ρ1 = some (fl, ρ2) ∧ (fl = .nx ∨ fl = .ct) ∧ I (k + i + 1) ρ2) → ∃ ρ', forM g b xs ρ = some (.nx, ρ') ∧ I (k + xs.length) ρ'
  | [], k, ρ, h, _ => ⟨ρ, rfl, h⟩
  | x :: xs, k, ρ, h, step => by
    obtain ⟨ρ1, e1, fl, ρ2, e2, hf, h2⟩ := step 0 x rfl ρ h
    obtain ⟨ρ', e3, h3⟩ := forM_inv I xs (k + 1) ρ2 h2 fun i y hy ρ h => by
      have := step (i + 1) y (by simpa using hy) ρ (by rw [show k + (i + 1) = k + 1 + i by omega]; exact h)
      rw [show k + (i + 1) + 1 = k + 1 + i + 1 by omega] at this
      exact this
    refine ⟨ρ', ?_, by rw [List.length_cons, show k + (xs.length + 1) = k + 1 + xs.length by omega]; exact h3⟩
    unfold forM
    rw [e1]
    show (b ρ1).bind _ = _
    rw [e2]
    rcases hf with rfl | rfl <;> exact e3
/-- a for that runs through: an invariant by the turn -/
theorem sFor_inv {src : M (List D)} {g : D → Rho → Option Rho} {b : S} {ρ ρ1 : Rho} {xs : List D} (I : Nat → Rho → Prop) (e : src ρ = some (xs, ρ1)) (h0 : I 0 ρ1)
    (step : ∀ (i : Nat) (x : D), xs[i]? = some x → ∀ ρ, I i ρ → ∃ ρ1, g x ρ = some ρ1 ∧ ∃ fl ρ2, b ρ1 = some (fl, ρ2) ∧ (fl = .nx ∨ fl = .ct) ∧ I (i + 1) ρ2) : ∃ ρ', sFor src g b ρ = some (.nx, ρ') ∧ I xs.length ρ' := by
  obtain ⟨ρ', h1, h2⟩ := forM_inv (g := g) (b := b) I xs 0 ρ1 h0 fun i x hx ρ h => by
    rw [Nat.zero_add] at h ⊢
    exact step i x hx ρ h
  rw [Nat.zero_add] at h2
  exact ⟨ρ', by unfold sFor; rw [e]; exact h1, h2⟩

/-! ### evaluation by simp -/
/-- no slot, or one that may not be stored to -/
def ioQ : Option Sl → Bool
  | none => true
  | some (.io _) => true
  | _ => false
@[simp] theorem ioQ_no : ioQ (some .no) = false := rfl
@[simp] theorem ioQ_d {x : D} : ioQ (some (.d x)) = false := rfl
@[simp] theorem ioQ_ow {x : List D} : ioQ (some (.ow x)) = false := rfl
section
variable {ρ : Rho} {a b c : M Vl} {ms : M (List Vl)} {t u : M Bool} {s s' : S} {f g : D → D → Option D}
@[simp] theorem r_eC {x : D} : eC x ρ = some (.fz x, ρ) := rfl
@[simp] theorem r_eVar {i : Nat} : eVar i ρ = match ρ[i]? with
  | some (.d x) => some (.fz x, ρ)
  | some (.ow _) => some (.bw i, ρ)
  | some (.io _) => some (.bw i, ρ)
  | _ => none := rfl
@[simp] theorem r_eBin : eBin f a b ρ = (a ρ).bind fun p => (b p.2).bind fun q => (look q.2 (stl p.1)).bind fun x => (look q.2 (stl q.1)).bind fun y => (f x y).bind fun z => some (.fz z, q.2) := rfl
@[simp] theorem r_eUn {h : D → Option D} : eUn h a ρ = (a ρ).bind fun p => (look p.2 (stl p.1)).bind fun x => (h x).bind fun z => some (.fz z, p.2) := rfl
@[simp] theorem r_tE : tE a ρ = (a ρ).bind fun p => match p.1 with
  | .fz (.bl b) => some (b, p.2)
  | _ => none := rfl
@[simp] theorem r_tAnd : tAnd t u ρ = (t ρ).bind fun p => if p.1 = true then u p.2 else some (false, p.2) := rfl
@[simp] theorem r_tOr : tOr t u ρ = (t ρ).bind fun p => if p.1 = true then some (true, p.2) else u p.2 := rfl
@[simp] theorem r_tNot : tNot t ρ = (t ρ).bind fun p => some (!p.1, p.2) := rfl
@[simp] theorem r_eAnd : eAnd a b ρ = (a ρ).bind fun p => match p.1 with
  | .fz (.bl true) => b p.2
  | .fz (.bl false) => some (.fz (.bl false), p.2)
  | _ => none := rfl
@[simp] theorem r_eOr : eOr a b ρ = (a ρ).bind fun p => match p.1 with
  | .fz (.bl false) => b p.2
  | .fz (.bl true) => some (.fz (.bl true), p.2)
  | _ => none := rfl
@[simp] theorem r_eNot : eNot a ρ = (a ρ).bind fun p => match p.1 with
  | .fz (.bl b) => some (.fz (.bl (!b)), p.2)
  | _ => none := rfl
@[simp] theorem r_eIf : eIf t a b ρ = (t ρ).bind fun p => if p.1 = true then a p.2 else b p.2 := rfl
@[simp] theorem r_eChain : eChain f g a b c ρ = (a ρ).bind fun p => (b p.2).bind fun q => (look q.2 (stl p.1)).bind fun x => (look q.2 (stl q.1)).bind fun y => (f x y).bind fun z => match z with
  | .bl true => (c q.2).bind fun p3 => (look p3.2 (stl q.1)).bind fun y2 => (look p3.2 (stl p3.1)).bind fun w => (g y2 w).bind fun z2 => some (.fz z2, p3.2)
  | .bl false => some (.fz (.bl false), q.2)
  | _ => none := rfl
@[simp] theorem r_aNil : aNil ρ = some ([], ρ) := rfl
@[simp] theorem r_aCons : aCons a ms ρ = (a ρ).bind fun p => (ms p.2).bind fun q => some (stl p.1 :: q.1, q.2) := rfl
@[simp] theorem r_eTup : eTup ms ρ = (ms ρ).bind fun p => (frzs p.2 p.1).bind fun q => if q.1.length ≤ lim then some (.fz (.tup q.1), q.2) else none := rfl
@[simp] theorem r_eLst : eLst ms ρ = (ms ρ).bind fun p => (frzs p.2 p.1).bind fun q => if q.1.length ≤ lim then some (.fr q.1, q.2) else none := rfl
@[simp] theorem r_eBlt {h : List D → Option D} : eBlt h ms ρ = (ms ρ).bind fun p => (looks p.2 p.1).bind fun xs => (h xs).bind fun z => some (.fz z, p.2) := rfl
@[simp] theorem r_eMet {h : D → List D → Option D} : eMet h a ms ρ = (a ρ).bind fun p => (ms p.2).bind fun q => (look q.2 (stl p.1)).bind fun x => (looks q.2 q.1).bind fun xs => (h x xs).bind fun z => some (.fz z, q.2) := rfl
@[simp] theorem r_oNo : oNo ρ = some (none, ρ) := rfl
@[simp] theorem r_oSome : oSome a ρ = (a ρ).bind fun p => match p.1 with
  | .fz (.int i) => some (some i, p.2)
  | _ => none := rfl
@[simp] theorem r_eSl {h : D → Option Int → Option Int → Option D} {l o : M (Option Int)} : eSl h a l o ρ = (a ρ).bind fun p => (l p.2).bind fun p1 => (o p1.2).bind fun p2 => (look p2.2 (stl p.1)).bind fun x => (h x p1.1 p2.1).bind fun z => some (.fz z, p2.2) := rfl
@[simp] theorem r_eCall {h : Fn} {fs : List Bool} : eCall h fs ms ρ = (ms ρ).bind fun p => (ag1 fs p.1 p.2).bind fun q => (ag2 q.2 q.1).bind fun gs => if (agI q.1).Nodup then (h gs).bind fun z => match z.1 with
  | .bw _ => none
  | w => some (w, puts q.2 (agI q.1) z.2) else none := rfl
@[simp] theorem r_look1 {x : D} : look ρ (.fz x) = some x := rfl
@[simp] theorem r_look2 {x : List D} : look ρ (.fr x) = some (.lst x) := rfl
@[simp] theorem r_look3 {i : Nat} : look ρ (.bw i) = match ρ[i]? with
  | some (.ow xs) => some (.lst xs)
  | some (.io xs) => some (.lst xs)
  | _ => none := rfl
@[simp] theorem r_frz1 {x : D} : frz ρ (.fz x) = some (x, ρ) := rfl
@[simp] theorem r_frz2 {x : List D} : frz ρ (.fr x) = some (.lst x, ρ) := rfl
@[simp] theorem r_frz3 {i : Nat} : frz ρ (.bw i) = match ρ[i]? with
    | some (.ow xs) => some (.lst xs, ρ.set i (.d (.lst xs)))
    | _ => none := rfl
@[simp] theorem r_stl1 {x : D} : stl (.fz x) = .fz x := rfl
@[simp] theorem r_stl2 {x : List D} : stl (.fr x) = .fz (.lst x) := rfl
@[simp] theorem r_stl3 {x : Nat} : stl (.bw x) = .bw x := rfl
@[simp] theorem r_looks0 : looks ρ [] = some [] := rfl
@[simp] theorem r_looks1 {r : Vl} {rs : List Vl} : looks ρ (r :: rs) = (look ρ r).bind fun x => (looks ρ rs).bind fun xs => some (x :: xs) := rfl
@[simp] theorem r_frzs0 : frzs ρ [] = some ([], ρ) := rfl
@[simp] theorem r_frzs1 {r : Vl} {rs : List Vl} : frzs ρ (r :: rs) = (frz ρ r).bind fun p => (frzs p.2 rs).bind fun q => some (p.1 :: q.1, q.2) := rfl
@[simp] theorem r_sNx : sNx ρ = some (.nx, ρ) := rfl
@[simp] theorem r_sBk : sBk ρ = some (.bk, ρ) := rfl
@[simp] theorem r_sCt : sCt ρ = some (.ct, ρ) := rfl
@[simp] theorem r_sSeq : sSeq s s' ρ = (s ρ).bind fun p => match p.1 with
  | .nx => s' p.2
  | fl => some (fl, p.2) := rfl
@[simp] theorem r_sIf : sIf t s s' ρ = (t ρ).bind fun p => if p.1 = true then s p.2 else s' p.2 := rfl
@[simp] theorem r_sRet : sRet a ρ = (a ρ).bind fun p => match p.1 with
  | .bw i => match p.2[i]? with
    | some (.ow xs) => some (.rt (.fr xs), p.2)
    | _ => none
  | r => some (.rt r, p.2) := rfl
@[simp] theorem r_sDrop : sDrop a ρ = (a ρ).bind fun p => some (.nx, p.2) := rfl
@[simp] theorem r_asg {i : Nat} {r : Vl} : asg i r ρ = if ioQ ρ[i]? = true then none else match r with
    | .fz x => some (ρ.set i (.d x))
    | .fr xs => some (ρ.set i (.ow xs))
    | .bw j => (frz ρ (.bw j)).bind fun p => some (p.2.set i (.d p.1)) := by
  unfold asg
  cases h : ρ[i]? with
  | none => rfl
  | some s => cases s <;> rfl
@[simp] theorem r_sAsg {i : Nat} : sAsg i a ρ = (a ρ).bind fun p => (asg i p.1 p.2).bind fun ρ2 => some (.nx, ρ2) := rfl
@[simp] theorem r_own {i : Nat} : own? ρ i = match ρ[i]? with
  | some (.ow xs) => some xs
  | some (.io xs) => some xs
  | _ => none := rfl
@[simp] theorem r_put {i : Nat} {xs : List D} : put ρ i xs = match ρ[i]? with
  | some (.ow _) => ρ.set i (.ow xs)
  | some (.io _) => ρ.set i (.io xs)
  | _ => ρ := rfl
@[simp] theorem r_puts0 {xs : List (List D)} : puts ρ [] xs = ρ := by unfold puts; rfl
@[simp] theorem r_puts1 {i : Nat} {is : List Nat} {x : List D} {xs : List (List D)} : puts ρ (i :: is) (x :: xs) = puts (put ρ i x) is xs := rfl
@[simp] theorem r_sApp {i : Nat} : sApp i a ρ = (own? ρ i).bind fun _ => (a ρ).bind fun p => (frz p.2 (stl p.1)).bind fun q => (own? q.2 i).bind fun xs => if xs.length < lim then some (.nx, put q.2 i (xs ++ [q.1])) else none := rfl
@[simp] theorem r_sSetI {i : Nat} : sSetI i a b ρ = (b ρ).bind fun p => (frz p.2 (stl p.1)).bind fun p1 => (own? p1.2 i).bind fun _ => (a p1.2).bind fun p2 => match p2.1 with
  | .fz (.int k) => (own? p2.2 i).bind fun xs => (ixN xs.length k).bind fun j => some (.nx, put p2.2 i (xs.set j p1.1))
  | _ => none := rfl
@[simp] theorem r_gN {i : Nat} {x : D} : gN i x ρ = asg i (.fz x) ρ := rfl
@[simp] theorem r_ag0 {fs : List Bool} : ag1 fs [] ρ = some ([], ρ) := by unfold ag1; rfl
@[simp] theorem r_ag1 {fs : List Bool} {r : Vl} {rs : List Vl} : ag1 fs (r :: rs) ρ = if fs.headD false = true then (match r with
    | .bw i => (ag1 fs.tail rs ρ).bind fun p => some (.inr i :: p.1, p.2)
    | _ => none) else (frz ρ r).bind fun p => (ag1 fs.tail rs p.2).bind fun q => some (.inl p.1 :: q.1, q.2) := by
  conv => lhs; unfold ag1
  all_goals rfl
@[simp] theorem r_ag20 : ag2 ρ [] = some [] := rfl
@[simp] theorem r_ag21 {x : D} {r : List (D ⊕ Nat)} : ag2 ρ (.inl x :: r) = (ag2 ρ r).bind fun gs => some (.da x :: gs) := rfl
@[simp] theorem r_ag22 {i : Nat} {r : List (D ⊕ Nat)} : ag2 ρ (.inr i :: r) = (own? ρ i).bind fun xs => (ag2 ρ r).bind fun gs => some (.li xs :: gs) := rfl
@[simp] theorem r_agI0 : agI [] = [] := rfl
@[simp] theorem r_agI1 {x : D} {r : List (D ⊕ Nat)} : agI (.inl x :: r) = agI r := rfl
@[simp] theorem r_agI2 {i : Nat} {r : List (D ⊕ Nat)} : agI (.inr i :: r) = i :: agI r := rfl
@[simp] theorem r_iSq : iSq a ρ = (a ρ).bind fun p => (frz p.2 (stl p.1)).bind fun q => (itemsOf q.1).bind fun xs => some (xs, q.2) := rfl
@[simp] theorem r_iR1 : iR1 ms ρ = (ms ρ).bind fun p => match p.1 with
  | [.fz (.int j)] => if -(2 ^ 62) ≤ j ∧ j < 2 ^ 62 then some (rngL 0 j.toNat, p.2) else none
  | _ => none := rfl
@[simp] theorem r_itm1 {xs : List D} : itemsOf (.lst xs) = some xs := rfl
@[simp] theorem r_itm2 {xs : List D} : itemsOf (.tup xs) = some xs := rfl
@[simp] theorem r_itm3 {xs : List Nat} : itemsOf (.str xs) = some (xs.map fun c => .str [c]) := rfl
@[simp] theorem r_itm4 {xs : List Int} : itemsOf (.scr xs) = some (xs.map .int) := rfl
@[simp] theorem r_slOf1 {x : D} : slOf (.da x) = .d x := rfl
@[simp] theorem r_slOf2 {x : List D} : slOf (.li x) = .io x := rfl
@[simp] theorem r_outs0 {r : Rho} : outsOf [] r = [] := by cases r <;> rfl
@[simp] theorem r_outs1 {x : D} {gs : List Ag} {sl : Sl} {r : Rho} : outsOf (.da x :: gs) (sl :: r) = outsOf gs r := by cases sl <;> rfl
@[simp] theorem r_outs2 {x ys : List D} {gs : List Ag} {r : Rho} : outsOf (.li x :: gs) (.io ys :: r) = ys :: outsOf gs r := rfl
theorem r_fnS {n nl : Nat} {gs : List Ag} (h : gs.length = n) : fnS n nl s gs = (s (gs.map slOf ++ List.replicate (nl - n) .no)).bind fun p => (match p.1 with
  | .nx => some (.fz .non, outsOf gs p.2)
  | .rt (.fz x) => some (.fz x, outsOf gs p.2)
  | .rt (.fr x) => some (.fr x, outsOf gs p.2)
  | _ => none) := by
  unfold fnS
  rw [if_pos h]
  all_goals rfl
@[simp] theorem lim_val : lim = 16777216 := rfl
/-! the operators at their kinds -/
@[simp] theorem r_add1 {i j : Int} : fAdd (.int i) (.int j) = some (.int (i + j)) := rfl
@[simp] theorem r_add2 {i j : List Nat} : fAdd (.str i) (.str j) = if i.length + j.length ≤ lim then some (.str (i ++ j)) else none := by
  show orF _ _ _ _ = _
  unfold orF fInt fCatS
  dsimp only
  split
  · rename_i h; exact h.symm
  · rename_i h; rw [h]; rfl
@[simp] theorem r_add3 {i j : List D} : fAdd (.lst i) (.lst j) = if i.length + j.length ≤ lim then some (.lst (i ++ j)) else none := by
  show orF _ _ _ _ = _
  unfold orF fInt fCatS fCatL fCatT
  dsimp only
  split
  · rename_i h; exact h.symm
  · rename_i h; rw [h]
@[simp] theorem r_sub {i j : Int} : fSub (.int i) (.int j) = some (.int (i - j)) := rfl
@[simp] theorem r_mul {i j : Int} : fMul (.int i) (.int j) = if cMul i j = true then some (.int (i * j)) else none := by
  show orF _ _ _ _ = _
  unfold orF fMulS fIntC
  by_cases h : cMul i j = true
  · simp [h]
  · simp [h]
@[simp] theorem r_muls {c : Nat} {n : Int} : fMul (.str [c]) (.int n) = if -1000000 ≤ n ∧ n ≤ 1000000 then some (.str (List.replicate n.toNat c)) else none := rfl
@[simp] theorem r_lts {i j : List Nat} : fLt (.str i) (.str j) = some (.bl (decide (i < j))) := rfl
@[simp] theorem r_div {i j : Int} : fDiv (.int i) (.int j) = if 0 < j ∧ j < 1073741824 then some (.int (i / j)) else none := by
  show (if decide _ = true then _ else _) = _
  simp only [decide_eq_true_eq]
@[simp] theorem r_mod {i j : Int} : fMod (.int i) (.int j) = if 0 < j then some (.int (i % j)) else none := by
  show (if decide _ = true then _ else _) = _
  simp only [decide_eq_true_eq]
@[simp] theorem r_pow {i j : Int} : fPow (.int i) (.int j) = if 0 ≤ j ∧ j ≤ 1000000 ∧ i.natAbs < 18446744073709551616 then some (.int (i ^ j.toNat)) else none := by
  show (if decide _ = true then _ else _) = _
  simp only [decide_eq_true_eq]
@[simp] theorem r_lt {i j : Int} : fLt (.int i) (.int j) = some (.bl (decide (i < j))) := rfl
@[simp] theorem r_le {i j : Int} : fLe (.int i) (.int j) = some (.bl (decide (i ≤ j))) := rfl
@[simp] theorem r_gt {i j : Int} : fGt (.int i) (.int j) = some (.bl (decide (j < i))) := rfl
@[simp] theorem r_ge {i j : Int} : fGe (.int i) (.int j) = some (.bl (decide (j ≤ i))) := rfl
@[simp] theorem r_eqi {i j : Int} : fEq (.int i) (.int j) = some (.bl (decide (i = j))) := rfl
@[simp] theorem r_eqs {i j : List Nat} : fEq (.str i) (.str j) = some (.bl (decide (i = j))) := rfl
@[simp] theorem r_eqb {i j : Bool} : fEq (.bl i) (.bl j) = some (.bl (decide (i = j))) := rfl
@[simp] theorem r_nei {i j : Int} : fNe (.int i) (.int j) = some (.bl (!decide (i = j))) := rfl
@[simp] theorem r_nes {i j : List Nat} : fNe (.str i) (.str j) = some (.bl (!decide (i = j))) := rfl
@[simp] theorem r_neb {i j : Bool} : fNe (.bl i) (.bl j) = some (.bl (!decide (i = j))) := rfl
@[simp] theorem r_isb {i j : Bool} : fIs (.bl i) (.bl j) = some (.bl (decide (i = j))) := rfl
@[simp] theorem r_ntb {i j : Bool} : fNt (.bl i) (.bl j) = some (.bl (!decide (i = j))) := rfl
@[simp] theorem r_ins {c : Nat} {z : List Nat} : fIn (.str [c]) (.str z) = some (.bl (decide (c ∈ z))) := rfl
@[simp] theorem r_nis {c : Nat} {z : List Nat} : fNi (.str [c]) (.str z) = some (.bl (!decide (c ∈ z))) := rfl
@[simp] theorem r_ixl {xs : List D} {i : Int} : fIx (.lst xs) (.int i) = atI xs i := by
  show orF _ _ _ _ = _
  unfold orF fIxL fIxT fIxS
  dsimp only
  split
  · rename_i h; exact h.symm
  · rename_i h; rw [h]
@[simp] theorem r_ixt {xs : List D} {i : Int} : fIx (.tup xs) (.int i) = atI xs i := by
  show orF _ _ _ _ = _
  unfold orF fIxL fIxT fIxS
  dsimp only
  split
  · rename_i h; exact h.symm
  · rename_i h; rw [h]
@[simp] theorem r_ixs {xs : List Nat} {i : Int} : fIx (.str xs) (.int i) = if xs.length ≤ lim then (atI xs i).bind fun c => some (.str [c]) else none := by
  show orF _ _ _ _ = _
  unfold orF fIxL fIxT fIxS
  rfl
@[simp] theorem r_sll {xs : List D} {l u : Option Int} : fSl (.lst xs) l u = some (.lst (cutL xs l u)) := rfl
@[simp] theorem r_sls {xs : List Nat} {l u : Option Int} : fSl (.str xs) l u = if xs.length ≤ lim then some (.str (cutL xs l u)) else none := rfl
@[simp] theorem r_neg {i : Int} : fNeg (.int i) = some (.int (-i)) := rfl
@[simp] theorem r_len1 {xs : List Nat} : cLen [.str xs] = if xs.length ≤ lim then some (.int xs.length) else none := rfl
@[simp] theorem r_len2 {xs : List D} : cLen [.lst xs] = some (.int xs.length) := rfl
@[simp] theorem r_len3 {xs : List D} : cLen [.tup xs] = some (.int xs.length) := rfl
@[simp] theorem r_int1 {i : Int} : cInt [.int i] = some (.int i) := rfl
@[simp] theorem atI_zero {α : Type} {x : α} {xs : List α} : atI (x :: xs) 0 = some x := by
  unfold atI ixN
  simp
@[simp] theorem ixN_lit {n k : Nat} : ixN n (no_index (OfNat.ofNat k : Int)) = if k < n then some k else none := by
  unfold ixN
  show (if (0 : Int) ≤ ((k : Nat) : Int) then (if ((k : Nat) : Int) < n then some ((k : Nat) : Int).toNat else none) else _) = _
  rw [if_pos (by omega)]
  by_cases h : k < n
  · rw [if_pos h, if_pos (by omega)]; simp
  · rw [if_neg h, if_neg (by omega)]
@[simp] theorem ixN_zero {n : Nat} : ixN n 0 = if 0 < n then some 0 else none := ixN_lit (k := 0)
@[simp] theorem ixN_one {n : Nat} : ixN n 1 = if 1 < n then some 1 else none := ixN_lit (k := 1)
theorem atI_lit' {α : Type} {xs : List α} {k : Nat} : atI xs ((k : Nat) : Int) = xs[k]? := by
  unfold atI
  have := ixN_lit (n := xs.length) (k := k)
  rw [show ixN xs.length ((k : Nat) : Int) = if k < xs.length then some k else none from this]
  by_cases h : k < xs.length
  · rw [if_pos h]; rfl
  · rw [if_neg h, List.getElem?_eq_none (by omega)]; rfl
@[simp] theorem atI_lit {α : Type} {xs : List α} {k : Nat} : atI xs (no_index (OfNat.ofNat k : Int)) = xs[k]? := atI_lit' (k := k)
@[simp] theorem atI_one {α : Type} {xs : List α} : atI xs (1 : Int) = xs[1]? := atI_lit' (k := 1)
end

/-! ### the laws' draws -/
def lawNextB : S := (sSeq (sAsg 2 (eBin fIx (eVar 0) (eC (.int 0))))
  (sSeq (sIf (tE (eBin fLt (eVar 2) (eBlt cLen (aCons (eBin fIx (eVar 0) (eC (.int 3))) aNil)))) (sSeq (sSetI 0 (eC (.int 0)) (eBin fAdd (eVar 2) (eC (.int 1))))
  (sRet (eBin fMod (eBlt cInt (aCons (eBin fIx (eBin fIx (eVar 0) (eC (.int 3))) (eVar 2)) aNil)) (eVar 1)))) sNx)
  (sSeq (sSetI 0 (eC (.int 1)) (eBin fMod (eBlt cInt (aCons (eBin fAdd (eBin fMul (eBin fIx (eVar 0) (eC (.int 1))) (eC (.int 48271))) (eC (.int 12345))) aNil)) (eC (.int 2147483647))))
  (sSeq (sSetI 0 (eC (.int 2)) (eBin fMod (eBlt cInt (aCons (eBin fAdd (eBin fMul (eBin fIx (eVar 0) (eC (.int 2))) (eC (.int 69621))) (eC (.int 777))) aNil)) (eC (.int 2147483629))))
  (sRet (eBin fMod (eBlt cInt (aCons (eBin fAdd (eBin fDiv (eBin fIx (eVar 0) (eC (.int 1))) (eC (.int 64))) (eBin fDiv (eBin fIx (eVar 0) (eC (.int 2))) (eC (.int 128)))) aNil)) (eVar 1)))))))
def lawNext : Fn := fnS 2 3 lawNextB
structure DrE (e : Int) (xs : List D) : Prop where
  ex : ∃ (k a b : Int) (ds : List Int), xs = [.int k, .int a, .int b, .lst (ds.map .int), .int e] ∧ 0 ≤ k
def Drw (xs : List D) : Prop := ∃ e, DrE e xs

theorem cMul_r {i j : Int} (h : -18446744073709551616 < j ∧ j < 18446744073709551616) : cMul i j = true := by
  unfold cMul
  rw [decide_eq_true h, Bool.or_true]
theorem ixN_nat {n k : Nat} (h : k < n) : ixN n (k : Int) = some k := by
  unfold ixN
  rw [if_pos (by omega), if_pos (by omega)]
  simp
theorem atI_int {α : Type} {xs : List α} {i : Int} (h0 : 0 ≤ i) (h1 : i < xs.length) : atI xs i = some (xs[i.toNat]'(by omega)) := by
  unfold atI
  have : ixN xs.length i = some i.toNat := by
    unfold ixN
    rw [if_pos h0, if_pos h1]
  rw [this]
  simp
theorem next_okE {xs : List D} {m e : Int} (h : DrE e xs) (hm : 0 < m) : ∃ r ys, lawNext [.li xs, .da (.int m)] = some (.fz (.int r), [ys]) ∧ 0 ≤ r ∧ r < m ∧ DrE e ys := by
  obtain ⟨k, a, b, ds, rfl, hk⟩ := h.ex
  by_cases hlt : k < (ds.length : Int)
  · refine ⟨(ds[k.toNat]'(by omega)) % m, [.int (k + 1), .int a, .int b, .lst (ds.map .int), .int e], ?_, Int.emod_nonneg _ (by omega), Int.emod_lt_of_pos _ hm, ⟨_, _, _, _, rfl, by omega⟩⟩
    have e1 : atI (ds.map D.int) k = some (.int (ds[k.toNat]'(by omega))) := by
      rw [atI_int hk (by simpa using hlt)]
      simp
    rw [lawNext, r_fnS (by rfl)]
    simp [lawNextB, hlt, hm, e1]
  · refine ⟨((a * 48271 + 12345) % 2147483647 / 64 + (b * 69621 + 777) % 2147483629 / 128) % m, [.int k, .int ((a * 48271 + 12345) % 2147483647), .int ((b * 69621 + 777) % 2147483629), .lst (ds.map .int), .int e], ?_, Int.emod_nonneg _ (by omega), Int.emod_lt_of_pos _ hm, ⟨_, _, _, _, rfl, hk⟩⟩
    have c1 : cMul a 48271 = true := cMul_r (by decide)
    have c2 : cMul b 69621 = true := cMul_r (by decide)
    rw [lawNext, r_fnS (by rfl)]
    simp [lawNextB, hlt, hm, c1, c2]

theorem next_ok {xs : List D} {m : Int} (h : Drw xs) (hm : 0 < m) : ∃ r ys, lawNext [.li xs, .da (.int m)] = some (.fz (.int r), [ys]) ∧ 0 ≤ r ∧ r < m ∧ Drw ys := by
  obtain ⟨e, h⟩ := h
  obtain ⟨r, ys, h1, h2, h3, h4⟩ := next_okE h hm
  exact ⟨r, ys, h1, h2, h3, e, h4⟩
def lawDrawI : S := (sIf (tE (eBin fGt (eVar 5) (eC (.int 0)))) (sSeq (sApp 1 (eBin fMod (eBlt cInt (aCons (eVar 5) aNil)) (eC (.int 5040))))
  (sAsg 5 (eBin fDiv (eVar 5) (eC (.int 5040))))) sNx)
def lawDrawL : S := (sSeq (sAsg 2 (eBin fMod (eBlt cInt (aCons (eBin fAdd (eBin fMul (eVar 2) (eC (.int 48271))) (eVar 4)) aNil)) (eC (.int 2147483647))))
  (sSeq (sAsg 3 (eBin fMod (eBlt cInt (aCons (eBin fAdd (eBin fMul (eVar 3) (eC (.int 69621))) (eBin fDiv (eVar 4) (eC (.int 1009)))) aNil)) (eC (.int 2147483629))))
  (sSeq (sAsg 5 (eVar 4))
  (sSeq (sIf (tE (eBin fLt (eVar 4) (eBin fPow (eC (.int 10)) (eC (.int 18))))) (sAsg 5 (eC (.int 0))) sNx)
  (sFor (iR1 (aCons (eC (.int 60)) aNil)) (gN 6) lawDrawI)))))
def lawDrawB : S := (sSeq (sAsg 1 (eLst aNil))
  (sSeq (sAsg 2 (eC (.int 7)))
  (sSeq (sAsg 3 (eC (.int 11)))
  (sSeq (sFor (iSq (eVar 0)) (gN 4) lawDrawL)
  (sRet (eLst (aCons (eC (.int 0)) (aCons (eVar 2) (aCons (eVar 3) (aCons (eVar 1) (aCons (eC (.int 3)) aNil)))))))))))
def lawDraw : Fn := fnS 1 7 lawDrawB
theorem rngL_get {lo : Int} {n i : Nat} {x : D} (h : (rngL lo n)[i]? = some x) : i < n ∧ x = .int (lo + i) := by
  unfold rngL at h
  rw [List.getElem?_map] at h
  cases e : (List.range n)[i]? with
  | none => rw [e] at h; cases h
  | some j =>
    rw [e] at h
    obtain ⟨h1, h2⟩ := List.getElem?_eq_some_iff.mp e
    rw [List.length_range] at h1
    rw [List.getElem_range] at h2
    cases h
    exact ⟨h1, by rw [h2]⟩
theorem rngL_len {lo : Int} {n : Nat} : (rngL lo n).length = n := by unfold rngL; simp
theorem draw_okE {ns : List Int} (h : ns.length ≤ 63) : ∃ xs, lawDraw [.da (.scr ns)] = some (.fr xs, []) ∧ DrE 3 xs := by
  have key : Sv lawDrawB [.d (.scr ns), .no, .no, .no, .no, .no, .no] fun fl ρ' => ∃ xs, fl = .rt (.fr xs) ∧ DrE 3 xs := by
    refine sv_seq_eq (ρ1 := [.d (.scr ns), .ow [], .no, .no, .no, .no, .no]) (by simp) ?_
    refine sv_seq_eq (ρ1 := [.d (.scr ns), .ow [], .d (.int 7), .no, .no, .no, .no]) (by simp) ?_
    refine sv_seq_eq (ρ1 := [.d (.scr ns), .ow [], .d (.int 7), .d (.int 11), .no, .no, .no]) (by simp) ?_
    have hl : ∃ ρ', sFor (iSq (eVar 0)) (gN 4) lawDrawL [.d (.scr ns), .ow [], .d (.int 7), .d (.int 11), .no, .no, .no] = some (.nx, ρ') ∧ ∃ (ds : List Int) (a b : Int) (s4 s5 s6 : Sl), ρ' = [.d (.scr ns), .ow (ds.map .int), .d (.int a), .d (.int b), s4, s5, s6] ∧ ds.length ≤ 60 * (ns.map D.int).length ∧ ioQ (some s4) = false ∧ ioQ (some s5) = false ∧ ioQ (some s6) = false := by
      refine sFor_inv (fun i ρ => ∃ (ds : List Int) (a b : Int) (s4 s5 s6 : Sl), ρ = [.d (.scr ns), .ow (ds.map .int), .d (.int a), .d (.int b), s4, s5, s6] ∧ ds.length ≤ 60 * i ∧ ioQ (some s4) = false ∧ ioQ (some s5) = false ∧ ioQ (some s6) = false) (by simp) ⟨[], 7, 11, .no, .no, .no, rfl, by simp, rfl, rfl, rfl⟩ ?_
      rintro i x hx ρ ⟨ds, a, b, s4, s5, s6, rfl, hd, h4, h5, h6⟩
      rw [List.getElem?_map] at hx
      obtain ⟨n, hn, rfl⟩ : ∃ n, ns[i]? = some n ∧ x = .int n := by
        cases e : ns[i]? with
        | none => rw [e] at hx; cases hx
        | some n => rw [e] at hx; cases hx; exact ⟨n, rfl, rfl⟩
      have hi : i < 63 := by
        have := (List.getElem?_eq_some_iff.mp hn).1
        omega
      refine ⟨[.d (.scr ns), .ow (ds.map .int), .d (.int a), .d (.int b), .d (.int n), s5, s6], by simp [h4], ?_⟩
      have c1 : cMul a 48271 = true := cMul_r (by decide)
      have c2 : cMul b 69621 = true := cMul_r (by decide)
      show Sv _ _ fun fl ρ2 => (fl = .nx ∨ fl = .ct) ∧ _
      refine sv_seq_eq (ρ1 := [.d (.scr ns), .ow (ds.map .int), .d (.int ((a * 48271 + n) % 2147483647)), .d (.int b), .d (.int n), s5, s6]) (by simp [c1]) ?_
      refine sv_seq_eq (ρ1 := [.d (.scr ns), .ow (ds.map .int), .d (.int ((a * 48271 + n) % 2147483647)), .d (.int ((b * 69621 + n / 1009) % 2147483629)), .d (.int n), s5, s6]) (by simp [c2]) ?_
      refine sv_seq_eq (ρ1 := [.d (.scr ns), .ow (ds.map .int), .d (.int ((a * 48271 + n) % 2147483647)), .d (.int ((b * 69621 + n / 1009) % 2147483629)), .d (.int n), .d (.int n), s6]) (by simp [h5]) ?_
      refine sv_seq_eq (ρ1 := [.d (.scr ns), .ow (ds.map .int), .d (.int ((a * 48271 + n) % 2147483647)), .d (.int ((b * 69621 + n / 1009) % 2147483629)), .d (.int n), .d (.int (if n < 10 ^ 18 then 0 else n)), s6]) ?_ ?_
      · by_cases q : n < 1000000000000000000
        · simp [q]
        · simp [q]
      generalize (if n < (10 ^ 18 : Int) then 0 else n) = r0
      generalize (a * 48271 + n) % 2147483647 = a1
      generalize (b * 69621 + n / 1009) % 2147483629 = b1
      have hl2 : ∃ ρ', sFor (iR1 (aCons (eC (.int 60)) aNil)) (gN 6) lawDrawI [.d (.scr ns), .ow (ds.map .int), .d (.int a1), .d (.int b1), .d (.int n), .d (.int r0), s6] = some (.nx, ρ') ∧ ∃ (ds' : List Int) (r : Int) (s6 : Sl), ρ' = [.d (.scr ns), .ow (ds'.map .int), .d (.int a1), .d (.int b1), .d (.int n), .d (.int r), s6] ∧ ds'.length ≤ 60 * i + (rngL 0 60).length ∧ ioQ (some s6) = false := by
        refine sFor_inv (fun j ρ => ∃ (ds' : List Int) (r : Int) (s6 : Sl), ρ = [.d (.scr ns), .ow (ds'.map .int), .d (.int a1), .d (.int b1), .d (.int n), .d (.int r), s6] ∧ ds'.length ≤ 60 * i + j ∧ ioQ (some s6) = false) (by simp) ⟨ds, r0, s6, rfl, by omega, h6⟩ ?_
        rintro j x hx ρ ⟨ds', r, s6, rfl, hd', h6⟩
        obtain ⟨hj, rfl⟩ := rngL_get hx
        have hj : j < 60 := hj
        refine ⟨[.d (.scr ns), .ow (ds'.map .int), .d (.int a1), .d (.int b1), .d (.int n), .d (.int r), .d (.int (0 + j))], by simp [h6], ?_⟩
        have hl : (ds'.map D.int).length < lim := by
          rw [List.length_map]
          show _ < 16777216
          omega
        by_cases q : 0 < r
        · refine ⟨.nx, [.d (.scr ns), .ow ((ds' ++ [r % 5040]).map .int), .d (.int a1), .d (.int b1), .d (.int n), .d (.int (r / 5040)), .d (.int (0 + j))], ?_, .inl rfl, ds' ++ [r % 5040], r / 5040, .d (.int (0 + j)), rfl, by rw [List.length_append]; simp; omega, rfl⟩
          rw [List.length_map] at hl
          simp [lawDrawI, q, hl]
        · refine ⟨.nx, [.d (.scr ns), .ow (ds'.map .int), .d (.int a1), .d (.int b1), .d (.int n), .d (.int r), .d (.int (0 + j))], ?_, .inl rfl, ds', r, .d (.int (0 + j)), rfl, by omega, rfl⟩
          simp [lawDrawI, q]
      obtain ⟨ρ', e, ds', r', s6', rfl, hd', h6'⟩ := hl2
      rw [rngL_len] at hd'
      exact ⟨.nx, _, e, .inl rfl, ds', a1, b1, .d (.int n), .d (.int r'), s6', rfl, by omega, rfl, rfl, h6'⟩
    obtain ⟨ρ', e, ds, a, b, s4, s5, s6, rfl, hd, _⟩ := hl
    refine sv_seq_eq e ?_
    exact ⟨_, _, by simp; rfl, _, rfl, ⟨0, a, b, ds, rfl, by decide⟩⟩
  obtain ⟨fl, ρ', e, xs, rfl, hx⟩ := key
  refine ⟨xs, ?_, hx⟩
  rw [lawDraw, r_fnS (by rfl)]
  show (lawDrawB [.d (.scr ns), .no, .no, .no, .no, .no, .no]).bind _ = _
  rw [e]
  cases ρ' <;> rfl
theorem draw_ok {ns : List Int} (h : ns.length ≤ 63) : ∃ xs, lawDraw [.da (.scr ns)] = some (.fr xs, []) ∧ Drw xs :=
  let ⟨xs, h1, h2⟩ := draw_okE h
  ⟨xs, h1, 3, h2⟩
end Sw
set_option Elab.async false
set_option linter.all false
set_option maxRecDepth 100000
set_option maxHeartbeats 4000000
/-! Sw10: comprehensions in the pure semantics; the letters that most laws draw. -/
namespace Sw
open L2

theorem iR1_ok {ms : M (List Vl)} {ρ ρ' : Rho} {j : Int} (h : ms ρ = some ([.fz (.int j)], ρ')) (h0 : -1000000 ≤ j) (h1 : j ≤ 1000000) : iR1 ms ρ = some (rngL 0 j.toNat, ρ') := by
  have q : -(2 ^ 62) ≤ j ∧ j < 2 ^ 62 := ⟨Int.le_trans (by decide) h0, Int.lt_of_le_of_lt h1 (by decide)⟩
  unfold iR1
  rw [h]
  show (if _ then _ else _) = _
  rw [if_pos q]
theorem outs_dn {x : D} {gs : List Ag} (h : ∀ r, outsOf gs r = []) : ∀ r, outsOf (.da x :: gs) r = []
  | [] => rfl
  | s :: r => by rw [r_outs1]; exact h r
@[simp] theorem outs_d1 {x : D} {r : Rho} : outsOf [.da x] r = [] := outs_dn (fun _ => r_outs0) r
@[simp] theorem outs_d2 {x y : D} {r : Rho} : outsOf [.da x, .da y] r = [] := outs_dn (fun _ => outs_d1) r
@[simp] theorem outs_d3 {x y z : D} {r : Rho} : outsOf [.da x, .da y, .da z] r = [] := outs_dn (fun _ => outs_d2) r
@[simp] theorem outs_d4 {x y z w : D} {r : Rho} : outsOf [.da x, .da y, .da z, .da w] r = [] := outs_dn (fun _ => outs_d3) r
/-- a comprehension whose turns change nothing else -/
theorem lcM_pure {vs : List Nat} {g : D → Rho → Option Rho} {t : M Bool} {e : M Vl} {ρ : Rho} (p : D → Bool) (h : D → D) : ∀ (xs acc : List D),
    (∀ x ∈ xs, ∃ ρ1, g x ρ = some ρ1 ∧ t ρ1 = some (p x, ρ1) ∧ (p x = true → e ρ1 = some (.fz (h x), ρ1)) ∧ wipeR ρ1 vs = ρ) → acc.length + xs.length ≤ lim → lcM vs g t e xs acc ρ = some (acc ++ (xs.filter p).map h, ρ)
  | [], acc, _, _ => by simp [lcM]
  | x :: xs, acc, hx, hl => by
    obtain ⟨ρ1, e1, e2, e3, e4⟩ := hx x List.mem_cons_self
    rw [List.length_cons] at hl
    unfold lcM
    rw [e1]
    show (t ρ1).bind _ = _
    rw [e2]
    show (if p x = true then _ else _) = _
    by_cases q : p x = true
    · rw [if_pos q, e3 q]
      show (if acc.length < lim then _ else _) = _
      rw [if_pos (by omega)]
      show lcM vs g t e xs (acc ++ [h x]) (wipeR ρ1 vs) = _
      rw [e4, lcM_pure p h xs _ (fun y hy => hx y (List.mem_cons_of_mem _ hy)) (by rw [List.length_append, List.length_singleton]; omega), List.filter_cons, if_pos q]
      simp
    · rw [if_neg q]
      show lcM vs g t e xs acc (wipeR ρ1 vs) = _
      rw [e4, lcM_pure p h xs _ (fun y hy => hx y (List.mem_cons_of_mem _ hy)) (by omega), List.filter_cons, if_neg q]
/-- .. and one with an invariant of the slots and of the list so far -/
theorem lcM_inv {vs : List Nat} {g : D → Rho → Option Rho} {t : M Bool} {e : M Vl} (I : Nat → List D → Rho → Prop) : ∀ (xs acc : List D) (k : Nat) (ρ : Rho), I k acc ρ →
    (∀ (i : Nat) (x : D), xs[i]? = some x → ∀ acc ρ, I (k + i) acc ρ → ∃ ρ1, g x ρ = some ρ1 ∧ ∃ b ρ2, t ρ1 = some (b, ρ2) ∧ (if b = true then ∃ r ρ3 z ρ4, e ρ2 = some (r, ρ3) ∧ frz ρ3 (stl r) = some (z, ρ4) ∧ acc.length < lim ∧ I (k + i + 1) (acc ++ [z]) (wipeR ρ4 vs) else I (k + i + 1) acc (wipeR ρ2 vs))) →
    ∃ acc' ρ', lcM vs g t e xs acc ρ = some (acc', ρ') ∧ I (k + xs.length) acc' ρ'
  | [], acc, k, ρ, h, _ => ⟨acc, ρ, rfl, h⟩
  | x :: xs, acc, k, ρ, h, step => by
    obtain ⟨ρ1, e1, b, ρ2, e2, h2⟩ := step 0 x rfl acc ρ h
    have next : ∀ (acc : List D) (ρ : Rho), I (k + 1) acc ρ → ∃ acc' ρ', lcM vs g t e xs acc ρ = some (acc', ρ') ∧ I (k + (x :: xs).length) acc' ρ' := fun acc ρ hI => by
      obtain ⟨acc', ρ', h3, h4⟩ := lcM_inv I xs acc (k + 1) ρ hI fun i y hy acc ρ h => by
        have := step (i + 1) y (by simpa using hy) acc ρ (by rw [show k + (i + 1) = k + 1 + i by omega]; exact h)
        rw [show k + (i + 1) + 1 = k + 1 + i + 1 by omega] at this
        exact this
      exact ⟨acc', ρ', h3, by rw [List.length_cons, show k + (xs.length + 1) = k + 1 + xs.length by omega]; exact h4⟩
    have un : lcM vs g t e (x :: xs) acc ρ = (g x ρ).bind fun ρ1 => (t ρ1).bind fun p => if p.1 = true then (e p.2).bind fun q => (frz q.2 (stl q.1)).bind fun z => if acc.length < lim then lcM vs g t e xs (acc ++ [z.1]) (wipeR z.2 vs) else none else lcM vs g t e xs acc (wipeR p.2 vs) := by
      conv => lhs; unfold lcM
    cases b with
    | true =>
      simp only [if_true] at h2
      obtain ⟨r, ρ3, z, ρ4, e3, e4, hl, h5⟩ := h2
      obtain ⟨acc', ρ', h6, h7⟩ := next _ _ h5
      refine ⟨acc', ρ', ?_, h7⟩
      rw [un, e1]
      show (t ρ1).bind _ = _
      rw [e2]
      show (e ρ2).bind _ = _
      rw [e3]
      show (frz ρ3 (stl r)).bind _ = _
      rw [e4]
      show (if acc.length < lim then _ else _) = _
      rw [if_pos hl]
      exact h6
    | false =>
      simp only [Bool.false_eq_true, if_false] at h2
      obtain ⟨acc', ρ', h6, h7⟩ := next _ _ h2
      refine ⟨acc', ρ', ?_, h7⟩
      rw [un, e1]
      show (t ρ1).bind _ = _
      rw [e2]
      exact h6
@[simp] theorem r_wipeR0 {ρ : Rho} : wipeR ρ [] = ρ := rfl
@[simp] theorem r_wipeR1 {ρ : Rho} {v : Nat} {vs : List Nat} : wipeR ρ (v :: vs) = (wipeR ρ vs).set v .no := rfl
@[simp] theorem r_backR0 {ρ0 ρ : Rho} : backR ρ0 ρ [] = ρ := rfl
@[simp] theorem r_backR1 {ρ0 ρ : Rho} {v : Nat} {vs : List Nat} : backR ρ0 ρ (v :: vs) = (backR ρ0 ρ vs).set v ((ρ0[v]?).getD .no) := rfl
@[simp] theorem r_plain1 : plainSl (some .no) = true := rfl
@[simp] theorem r_plain2 {x : D} : plainSl (some (.d x)) = true := rfl
theorem eLc_of {vs : List Nat} {src : M (List D)} {g : D → Rho → Option Rho} {t : M Bool} {e : M Vl} {ρ ρ1 ρ2 : Rho} {xs acc : List D} (h1 : src ρ = some (xs, ρ1)) (h2 : (vs.all fun v => plainSl ρ1[v]?) = true) (h3 : lcM vs g t e xs [] (wipeR ρ1 vs) = some (acc, ρ2)) : eLc vs src g t e ρ = some (.fr acc, backR ρ1 ρ2 vs) := by
  unfold eLc
  rw [h1]
  show (if _ then _ else _) = _
  rw [if_pos h2, h3]
  rfl
/-- join of a list of one-sign texts -/
theorem strsOf_map (cs : List (List Nat)) : strsOf (cs.map D.str) = some cs := by
  induction cs with
  | nil => rfl
  | cons c cs ih =>
    show (strsOf (cs.map D.str)).bind _ = _
    rw [ih]
    rfl
theorem join_nil : ∀ ys : List (List Nat), TL.joinL [] ys = ys.flatten
  | [] => rfl
  | [y] => by simp [TL.joinL]
  | y :: z :: r => by
    show y ++ ([] ++ TL.joinL [] (z :: r)) = _
    rw [join_nil (z :: r)]
    simp
theorem join_empty {cs : List (List Nat)} (h : (cs.map (·.length)).sum ≤ lim) : fJoin (.str []) [.lst (cs.map D.str)] = some (.str cs.flatten) := by
  unfold fJoin
  dsimp only
  rw [strsOf_map]
  show (if _ then _ else _) = _
  rw [if_pos (by simpa using h), join_nil]
/-- the texts of single signs -/
theorem flat1 : ∀ cs : List Nat, (cs.map fun c => [c]).flatten = cs
  | [] => rfl
  | c :: cs => by rw [List.map_cons, List.flatten_cons, flat1 cs]; rfl
theorem sum1 : ∀ cs : List Nat, ((cs.map fun c => [c]).map (·.length)).sum = cs.length
  | [] => rfl
  | c :: cs => by
    rw [List.map_cons, List.map_cons, List.sum_cons, sum1 cs, List.length_cons]
    show 1 + cs.length = cs.length + 1
    omega
theorem join_signs {cs : List Nat} (h : cs.length ≤ lim) : fJoin (.str []) [.lst (cs.map fun c => D.str [c])] = some (.str cs) := by
  have e : (cs.map fun c => D.str [c]) = (cs.map fun c => [c]).map D.str := by rw [List.map_map]; rfl
  rw [e, join_empty (by rw [sum1]; exact h), flat1]
/-! ### three different places -/
theorem cnt3 {a b c : Nat} (hab : a ≠ b) (hac : a ≠ c) (hbc : b ≠ c) : ∀ n : Nat, ((List.range n).filter fun k => decide (k = a) || (decide (k = b) || decide (k = c))).length = (if a < n then 1 else 0) + (if b < n then 1 else 0) + (if c < n then 1 else 0)
  | 0 => by simp
  | n + 1 => by
    rw [List.range_succ, List.filter_append, List.length_append, cnt3 hab hac hbc n]
    by_cases q1 : n = a
    · subst q1; simp; (repeat' split) <;> omega
    · by_cases q2 : n = b
      · subst q2; simp [q1]; (repeat' split) <;> omega
      · by_cases q3 : n = c
        · subst q3; simp [q1, q2]; (repeat' split) <;> omega
        · simp [q1, q2, q3]
          (repeat' split) <;> omega

def lawT1 : List Nat := [9, 10, 32, 33, 34, 35, 36, 38, 39, 40, 41, 42, 43, 44, 45, 46, 47, 48, 49, 50, 51, 52, 53, 54, 55, 56, 57, 58, 59, 60, 61, 62, 63, 64, 65, 66, 67, 68, 69, 70, 71, 72, 73, 74, 75, 76, 77, 78, 79, 80, 81, 82, 83, 84, 85, 86, 87, 88, 89, 90, 91, 92, 93, 94, 95, 96]
def lawT2 : List Nat := [97, 98, 99, 100, 101, 102, 103, 104, 105, 106, 107, 108, 109, 110, 111, 112, 113, 114, 115, 116, 117, 118, 119, 120, 121, 122, 123, 124, 125, 126]
/-- the 96 signs -/
def SGN : List Nat := lawT1 ++ lawT2
theorem SGN_len : SGN.length = 96 := by decide
def lawSignsB : S := (sSeq (sAsg 0 (eC (.str lawT1)))
  (sRet (eBin fAdd (eVar 0) (eC (.str lawT2)))))
def lawSigns : Fn := fnS 0 1 lawSignsB
theorem signs_ok : lawSigns [] = some (.fz (.str SGN), []) := by
  rw [lawSigns, r_fnS (by rfl)]
  simp [lawSignsB, SGN, show lawT1.length + lawT2.length ≤ lim by decide]
def lawLetC : M Vl := (eLc [6] (iR1 (aCons (eC (.int 96)) aNil)) (gN 6) (tOr (tE (eBin fEq (eVar 6) (eVar 3))) (tOr (tE (eBin fEq (eVar 6) (eVar 4))) (tE (eBin fEq (eVar 6) (eVar 5))))) (eBin fIx (eVar 2) (eVar 6)))
def lawLettersB : S := (sSeq (sAsg 1 (eCall lawNext [true, false] (aCons (eVar 0) (aCons (eC (.int 6)) aNil))))
  (sSeq (sIf (tE (eBin fEq (eVar 1) (eC (.int 0)))) (sRet (eC (.str [10, 97, 98]))) sNx)
  (sSeq (sIf (tE (eBin fEq (eVar 1) (eC (.int 1)))) (sRet (eC (.str [32, 97, 98]))) sNx)
  (sSeq (sIf (tE (eBin fEq (eVar 1) (eC (.int 2)))) (sRet (eC (.str [97, 98, 99]))) sNx)
  (sSeq (sAsg 2 (eCall lawSigns [] aNil))
  (sSeq (sAsg 3 (eCall lawNext [true, false] (aCons (eVar 0) (aCons (eC (.int 96)) aNil))))
  (sSeq (sAsg 4 (eBin fMod (eBlt cInt (aCons (eBin fAdd (eBin fAdd (eVar 3) (eC (.int 1))) (eCall lawNext [true, false] (aCons (eVar 0) (aCons (eC (.int 95)) aNil)))) aNil)) (eC (.int 96))))
  (sSeq (sAsg 5 (eBin fMod (eBlt cInt (aCons (eBin fAdd (eBin fAdd (eVar 3) (eC (.int 1))) (eCall lawNext [true, false] (aCons (eVar 0) (aCons (eC (.int 95)) aNil)))) aNil)) (eC (.int 96))))
  (sSeq (sIf (tE (eBin fEq (eVar 5) (eVar 4))) (sAsg 5 (eBin fMod (eBlt cInt (aCons (eBin fAdd (eVar 5) (eC (.int 1))) aNil)) (eC (.int 96)))) sNx)
  (sSeq (sIf (tE (eBin fEq (eVar 5) (eVar 3))) (sAsg 5 (eBin fMod (eBlt cInt (aCons (eBin fAdd (eVar 5) (eC (.int 1))) aNil)) (eC (.int 96)))) sNx)
  (sRet (eMet fJoin (eC (.str [])) (aCons lawLetC aNil)))))))))))))
def lawLetters : Fn := fnS 1 7 lawLettersB
/-- a call of the draw: the slot's list turns, the answer is a number below m -/
theorem draw_call {ρ : Rho} {i : Nat} {xs : List D} {m : Int} (h : Drw xs) (hm : 0 < m) (hi : ρ[i]? = some (.ow xs) ∨ ρ[i]? = some (.io xs)) : ∃ r ys, eCall lawNext [true, false] (aCons (eVar i) (aCons (eC (.int m)) aNil)) ρ = some (.fz (.int r), put ρ i ys) ∧ 0 ≤ r ∧ r < m ∧ Drw ys := by
  obtain ⟨r, ys, e, h1, h2, h3⟩ := next_ok h hm
  refine ⟨r, ys, ?_, h1, h2, h3⟩
  rcases hi with hi | hi
  · simp [hi, e]
  · simp [hi, e]
theorem SGN_at {r : Int} (h0 : 0 ≤ r) (h1 : r < 96) : atI SGN r = some (SGN[r.toNat]'(by rw [SGN_len]; omega)) := atI_int h0 (by rw [SGN_len]; omega)
theorem let_comp {f s t : Nat} {io : List D} {c : D} (hf : f < 96) (hs : s < 96) (ht : t < 96) (n1 : f ≠ s) (n2 : f ≠ t) (n3 : s ≠ t) :
    ∃ cs : List Nat, cs.length = 3 ∧ lawLetC [.io io, .d c, .d (.str SGN), .d (.int f), .d (.int s), .d (.int t), .no] = some (.fr (cs.map fun c => .str [c]), [.io io, .d c, .d (.str SGN), .d (.int f), .d (.int s), .d (.int t), .no]) ∧ cs.Sublist SGN := by
  refine ⟨((List.range 96).filter fun k => decide (k = f) || (decide (k = s) || decide (k = t))).map fun k => SGN.getD k 0, ?_, ?_, ?_⟩
  · rw [List.length_map, cnt3 n1 n2 n3]
    simp [hf, hs, ht]
  · have hl := lcM_pure (vs := [6]) (g := gN 6) (t := (tOr (tE (eBin fEq (eVar 6) (eVar 3))) (tOr (tE (eBin fEq (eVar 6) (eVar 4))) (tE (eBin fEq (eVar 6) (eVar 5)))))) (e := (eBin fIx (eVar 2) (eVar 6))) (ρ := [.io io, .d c, .d (.str SGN), .d (.int f), .d (.int s), .d (.int t), .no])
      (fun x => match x with
        | .int k => decide (k = f) || (decide (k = s) || decide (k = t))
        | _ => false) (fun x => match x with
        | .int k => .str [SGN.getD k.toNat 0]
        | _ => .non) (rngL 0 96) [] (fun x hx => ?_) (by rw [rngL_len]; decide)
    · rw [List.nil_append] at hl
      have e := eLc_of (vs := [6]) (src := iR1 (aCons (eC (.int 96)) aNil)) (ρ := [.io io, .d c, .d (.str SGN), .d (.int f), .d (.int s), .d (.int t), .no]) (ρ1 := [.io io, .d c, .d (.str SGN), .d (.int f), .d (.int s), .d (.int t), .no]) (xs := rngL 0 96) (by simp) (by simp) hl
      unfold lawLetC
      rw [e]
      refine congrArg some (Prod.ext (congrArg Vl.fr ?_) rfl)
      unfold rngL
      rw [List.filter_map, List.map_map, List.map_map]
      have e2 : ((fun x : D => match x with
        | .int k => decide (k = f) || (decide (k = s) || decide (k = t))
        | _ => false) ∘ fun i : Nat => D.int (0 + (i : Int))) = fun k => decide (k = f) || (decide (k = s) || decide (k = t)) := by
        funext k
        show (decide ((0 : Int) + k = f) || (decide ((0 : Int) + k = s) || decide ((0 : Int) + k = t))) = _
        congr 1
        · exact decide_eq_decide.mpr (by omega)
        · congr 1
          · exact decide_eq_decide.mpr (by omega)
          · exact decide_eq_decide.mpr (by omega)
      rw [e2]
      apply List.map_congr_left
      intro k _
      show D.str [SGN.getD ((0 : Int) + k).toNat 0] = _
      rw [show ((0 : Int) + k).toNat = k by omega]
      rfl
    · obtain ⟨i, hi⟩ := List.mem_iff_getElem?.mp hx
      obtain ⟨hi96, rfl⟩ := rngL_get hi
      refine ⟨[.io io, .d c, .d (.str SGN), .d (.int f), .d (.int s), .d (.int t), .d (.int (0 + i))], by simp, ?_, fun _ => ?_, by simp⟩
      · generalize (0 : Int) + i = z
        by_cases q1 : z = f
        · simp [q1]
        · by_cases q2 : z = s
          · simp [q1, q2]
          · simp [q1, q2]
      · have e := SGN_at (r := (0 : Int) + i) (by omega) (by omega)
        have hl : SGN.length ≤ lim := by rw [SGN_len]; decide
        simp only [r_eBin, r_eVar, List.getElem?_cons_succ, List.getElem?_cons_zero, Option.bind_some, r_stl1, r_look1, r_ixs, hl, if_true, e]
        rw [List.getD_eq_getElem?_getD, List.getElem?_eq_getElem (by rw [SGN_len]; omega)]
        rfl
  · have e : (List.range 96).map (fun k => SGN.getD k 0) = SGN := by decide
    have := (List.filter_sublist (p := fun k => decide (k = f) || (decide (k = s) || decide (k = t))) (l := List.range 96)).map (fun k => SGN.getD k 0)
    rw [e] at this
    exact this

theorem sv_seq_rt {a b : S} {ρ ρ1 : Rho} {v : Vl} {Q : Fl → Rho → Prop} (e : a ρ = some (.rt v, ρ1)) (h : Q (.rt v) ρ1) : Sv (sSeq a b) ρ Q := sv_seq ⟨_, _, e, h⟩
theorem letters_sub {xs : List D} (h : Drw xs) : ∃ cs ys, lawLetters [.li xs] = some (.fz (.str cs), [ys]) ∧ cs.length = 3 ∧ cs.Sublist SGN ∧ Drw ys := by
  have key : Sv lawLettersB [.io xs, .no, .no, .no, .no, .no, .no] fun fl ρ' => ∃ cs ys r, fl = .rt (.fz (.str cs)) ∧ ρ' = .io ys :: r ∧ cs.length = 3 ∧ cs.Sublist SGN ∧ Drw ys := by
    obtain ⟨r0, y0, e0, a0, b0, h0⟩ := draw_call (ρ := [.io xs, .no, .no, .no, .no, .no, .no]) (i := 0) (m := 6) h (by decide) (.inr rfl)
    refine sv_seq_eq (ρ1 := [.io y0, .d (.int r0), .no, .no, .no, .no, .no]) (by rw [r_sAsg, e0]; simp) ?_
    by_cases q0 : r0 = 0
    · exact sv_seq_rt (v := .fz (.str [10, 97, 98])) (by simp [q0]; rfl) ⟨_, y0, _, rfl, rfl, rfl, by decide, h0⟩
    refine sv_seq_eq (ρ1 := [.io y0, .d (.int r0), .no, .no, .no, .no, .no]) (by simp [q0]) ?_
    by_cases q1 : r0 = 1
    · exact sv_seq_rt (v := .fz (.str [32, 97, 98])) (by simp [q1]; rfl) ⟨_, y0, _, rfl, rfl, rfl, by decide, h0⟩
    refine sv_seq_eq (ρ1 := [.io y0, .d (.int r0), .no, .no, .no, .no, .no]) (by simp [q1]) ?_
    by_cases q2 : r0 = 2
    · exact sv_seq_rt (v := .fz (.str [97, 98, 99])) (by simp [q2]; rfl) ⟨_, y0, _, rfl, rfl, rfl, by decide, h0⟩
    refine sv_seq_eq (ρ1 := [.io y0, .d (.int r0), .no, .no, .no, .no, .no]) (by simp [q2]) ?_
    refine sv_seq_eq (ρ1 := [.io y0, .d (.int r0), .d (.str SGN), .no, .no, .no, .no]) (by simp [signs_ok]) ?_
    obtain ⟨f, y1, e1, a1, b1, h1⟩ := draw_call (ρ := [.io y0, .d (.int r0), .d (.str SGN), .no, .no, .no, .no]) (i := 0) (m := 96) h0 (by decide) (.inr rfl)
    refine sv_seq_eq (ρ1 := [.io y1, .d (.int r0), .d (.str SGN), .d (.int f), .no, .no, .no]) (by rw [r_sAsg, e1]; simp) ?_
    obtain ⟨s, y2, e2, a2, b2, h2⟩ := draw_call (ρ := [.io y1, .d (.int r0), .d (.str SGN), .d (.int f), .no, .no, .no]) (i := 0) (m := 95) h1 (by decide) (.inr rfl)
    refine sv_seq_eq (ρ1 := [.io y2, .d (.int r0), .d (.str SGN), .d (.int f), .d (.int ((f + 1 + s) % 96)), .no, .no]) ?_ ?_
    · have e3 : eBin fAdd (eBin fAdd (eVar 3) (eC (.int 1))) (eCall lawNext [true, false] (aCons (eVar 0) (aCons (eC (.int 95)) aNil))) [.io y1, .d (.int r0), .d (.str SGN), .d (.int f), .no, .no, .no] = some (.fz (.int (f + 1 + s)), [.io y2, .d (.int r0), .d (.str SGN), .d (.int f), .no, .no, .no]) := by
        rw [r_eBin]
        simp only [r_eBin, r_eVar, r_eC, List.getElem?_cons_succ, List.getElem?_cons_zero, Option.bind_some, r_stl1, r_look1, r_add1, e2]
        rfl
      simp only [r_sAsg, r_eBin (f := fMod), r_eBlt, r_aCons, e3, Option.bind_some, r_aNil]
      simp
    obtain ⟨t, y3, e3, a3, b3, h3⟩ := draw_call (ρ := [.io y2, .d (.int r0), .d (.str SGN), .d (.int f), .d (.int ((f + 1 + s) % 96)), .no, .no]) (i := 0) (m := 95) h2 (by decide) (.inr rfl)
    refine sv_seq_eq (ρ1 := [.io y3, .d (.int r0), .d (.str SGN), .d (.int f), .d (.int ((f + 1 + s) % 96)), .d (.int ((f + 1 + t) % 96)), .no]) ?_ ?_
    · have e4 : eBin fAdd (eBin fAdd (eVar 3) (eC (.int 1))) (eCall lawNext [true, false] (aCons (eVar 0) (aCons (eC (.int 95)) aNil))) [.io y2, .d (.int r0), .d (.str SGN), .d (.int f), .d (.int ((f + 1 + s) % 96)), .no, .no] = some (.fz (.int (f + 1 + t)), [.io y3, .d (.int r0), .d (.str SGN), .d (.int f), .d (.int ((f + 1 + s) % 96)), .no, .no]) := by
        rw [r_eBin]
        simp only [r_eBin, r_eVar, r_eC, List.getElem?_cons_succ, List.getElem?_cons_zero, Option.bind_some, r_stl1, r_look1, r_add1, e3]
        rfl
      simp only [r_sAsg, r_eBin (f := fMod), r_eBlt, r_aCons, e4, Option.bind_some, r_aNil]
      simp
    -- the two exchanges
    generalize hs' : (f + 1 + s) % 96 = s'
    generalize ht' : (f + 1 + t) % 96 = t'
    have ns : s' ≠ f := by omega
    have nt : t' ≠ f := by omega
    have rs : 0 ≤ s' ∧ s' < 96 := by omega
    have rt : 0 ≤ t' ∧ t' < 96 := by omega
    clear hs' ht' e2 e3 e1 e0 a2 b2 a3 b3
    obtain ⟨t1, et1, rt1, nt1, nx1⟩ : ∃ t1, sIf (tE (eBin fEq (eVar 5) (eVar 4))) (sAsg 5 (eBin fMod (eBlt cInt (aCons (eBin fAdd (eVar 5) (eC (.int 1))) aNil)) (eC (.int 96)))) sNx [.io y3, .d (.int r0), .d (.str SGN), .d (.int f), .d (.int s'), .d (.int t'), .no] = some (.nx, [.io y3, .d (.int r0), .d (.str SGN), .d (.int f), .d (.int s'), .d (.int t1), .no]) ∧ (0 ≤ t1 ∧ t1 < 96) ∧ t1 ≠ s' ∧ (t1 = f → f = (s' + 1) % 96) := by
      by_cases q : t' = s'
      · exact ⟨(t' + 1) % 96, by simp [q], by omega, by omega, fun z => by omega⟩
      · exact ⟨t', by simp [q], rt, q, fun z => absurd z nt⟩
    refine sv_seq_eq et1 ?_
    obtain ⟨t2, et2, rt2, nt2, nt3⟩ : ∃ t2, sIf (tE (eBin fEq (eVar 5) (eVar 3))) (sAsg 5 (eBin fMod (eBlt cInt (aCons (eBin fAdd (eVar 5) (eC (.int 1))) aNil)) (eC (.int 96)))) sNx [.io y3, .d (.int r0), .d (.str SGN), .d (.int f), .d (.int s'), .d (.int t1), .no] = some (.nx, [.io y3, .d (.int r0), .d (.str SGN), .d (.int f), .d (.int s'), .d (.int t2), .no]) ∧ (0 ≤ t2 ∧ t2 < 96) ∧ t2 ≠ s' ∧ t2 ≠ f := by
      by_cases q : t1 = f
      · exact ⟨(t1 + 1) % 96, by simp [q], by omega, by have := nx1 q; omega, by omega⟩
      · exact ⟨t1, by simp [q], rt1, nt1, q⟩
    refine sv_seq_eq et2 ?_
    obtain ⟨cs, hl, ec, hm⟩ := let_comp (f := f.toNat) (s := s'.toNat) (t := t2.toNat) (io := y3) (c := .int r0) (by omega) (by omega) (by omega) (by omega) (by omega) (by omega)
    rw [show ((f.toNat : Nat) : Int) = f by omega, show ((s'.toNat : Nat) : Int) = s' by omega, show ((t2.toNat : Nat) : Int) = t2 by omega] at ec
    have ej := join_signs (cs := cs) (by rw [hl]; decide)
    refine ⟨.rt (.fz (.str cs)), [.io y3, .d (.int r0), .d (.str SGN), .d (.int f), .d (.int s'), .d (.int t2), .no], ?_, cs, y3, _, rfl, rfl, hl, hm, h3⟩
    rw [r_sRet, r_eMet, r_eC]
    simp only [Option.bind_some, r_aCons, ec, r_aNil, r_stl1, r_stl2, r_look1, r_looks0, r_looks1, ej]
  obtain ⟨fl, ρ', e, cs, ys, r, rfl, rfl, h1, h2, h3⟩ := key
  refine ⟨cs, ys, ?_, h1, h2, h3⟩
  rw [lawLetters, r_fnS (by rfl)]
  show (lawLettersB [.io xs, .no, .no, .no, .no, .no, .no]).bind _ = _
  rw [e]
  simp
theorem letters_ok {xs : List D} (h : Drw xs) : ∃ cs ys, lawLetters [.li xs] = some (.fz (.str cs), [ys]) ∧ cs.length = 3 ∧ (∀ c ∈ cs, c ∈ SGN) ∧ Drw ys :=
  let ⟨cs, ys, e, h1, h2, h3⟩ := letters_sub h
  ⟨cs, ys, e, h1, fun _ hc => h2.subset hc, h3⟩
end Sw
set_option Elab.async false
set_option linter.all false
set_option maxRecDepth 100000
set_option maxHeartbeats 4000000
/-! Sw11: isinstance, find, text * int, text < text, [::-1]. -/
namespace Sw
open PySem PySem.Spec PyProof.Rows L2

/-! ### isinstance(x, T), T a built-in type -/
def tyN : D → String
  | .non => "NoneType"
  | .bl _ => "bool"
  | .int _ => "int"
  | .str _ => "str"
  | .lst _ => "list"
  | .tup _ => "tuple"
  | .scr _ => "list"
theorem tyx {K : PySem.W.Frag} {H F : Hp} {v : V} {x : D} (s : Same F H) (h : Vw K H F v x) : TyX K H v (.type (tyN x)) := by
  cases x with
  | non => rw [vw_non h]; exact .base .non
  | bl b => rw [vw_bl h]; exact .base (.bl b)
  | int i => rw [vw_int h]; exact .base (.int i)
  | str t => rw [vw_str h]; exact .base (.str _)
  | lst xs => obtain ⟨a, vs, rfl, h1, _⟩ := h; exact .base (.lst h1)
  | tup xs =>
    cases (show Rep K F v (.tup xs) from h) with
    | tup h1 _ =>
      rcases same_t s h1 with (q | ⟨o, q⟩) | ⟨o, its, n, q, c, _⟩
      · exact .base (.tup q)
      · exact .fTuple q
      · exact .kTuple q c
  | scr xs =>
    cases (show Rep K F v (.scr xs) from h) with
    | scr h1 =>
      rcases s.seq h1 with (q | ⟨o, q⟩) | ⟨o, its, n, q, c, _⟩
      · exact .base (.lst q)
      · exact .base (.frz q)
      · exact .kList q c
def fIsi (T : String) : D → Option D := fun x => (kitB (tyN x) T).bind fun b => some (.bl b)
section
variable {X : Cx} {a b c e : Expr} {ma mb mc me : M Vl} {pos p : Pos} {es : List Expr} {ms : M (List Vl)}
theorem se_isi {T : String} {y : Str} {p2 : Pos} (hm : X.mg "isinstance" = none) (hg : Gl X "isinstance") (hm2 : X.mg y = none) (hg2 : Gl X y) (hv : bootBuiltins y = some (.type T)) (ha : SE X a ma) (hn : y ≠ "__name__" := by decide) (hdb : (y == ("__debug__" : Str)) = false := by decide)
    (he : starEach [a, .Name y p2] X.env = (false, eval a X.env) :: starEach [.Name y p2] X.env := by rfl) (he2 : starEach [.Name y p2] X.env = (false, eval (.Name y p2) X.env) :: starEach [] X.env := by rfl) (hpl : (backTo pos (starEach [.Name y p2] X.env)).any (·.1) = false := by rfl) :
    SE X (.Call (.Name "isinstance" p) [a, .Name y p2] [] pos) (eUn (fIsi T) ma) := by
  have pT : PE X (.Name y p2) (tC (.ty T)) := pe_bltn hg2 hm2 hv rfl hn hdb
  refine pe_weak (pe_callB call_isi hg hm (by decide +kernel) (pa_cons ha (pa_cons pT pa_nil he2) he) (by decide) (by decide) he hpl) fun σ H Q ⟨G, ρ, F, r0, ρ', W, hm, q⟩ => ?_
  unfold eUn at hm
  obtain ⟨⟨x, ρ1⟩, e1, hm⟩ := Option.bind_eq_some_iff.mp hm
  obtain ⟨dx, e3, hm⟩ := Option.bind_eq_some_iff.mp hm
  obtain ⟨dz, e5, hm⟩ := Option.bind_eq_some_iff.mp hm
  cases hm
  refine tm_use W e1 fun v H1 F1 s1 R1 => ?_
  obtain ⟨bb, e6, e7⟩ := Option.bind_eq_some_iff.mp e5
  cases e7
  exact ⟨v, .ty T, _, _, bb, rfl, .ty T, tyx s1.wd.sub (vw_of s1.wd R1 e3), kit_ty e6, q _ H1 F1 s1 (.bl bb)⟩
theorem st_isi {T : String} {y : Str} {p2 : Pos} (hm : X.mg "isinstance" = none) (hg : Gl X "isinstance") (hm2 : X.mg y = none) (hg2 : Gl X y) (hv : bootBuiltins y = some (.type T)) (ha : SE X a ma)
    (hw : ∀ whole, isTrue (.Call (.Name "isinstance" p) [a, .Name y p2] [] pos) X.env whole = (do let v ← whole; standAt (Expr.pos (.Call (.Name "isinstance" p) [a, .Name y p2] [] pos)); holding [v] (truthy v))) (hn : y ≠ "__name__" := by decide) (hdb : (y == ("__debug__" : Str)) = false := by decide)
    (he : starEach [a, .Name y p2] X.env = (false, eval a X.env) :: starEach [.Name y p2] X.env := by rfl) (he2 : starEach [.Name y p2] X.env = (false, eval (.Name y p2) X.env) :: starEach [] X.env := by rfl) (hpl : (backTo pos (starEach [.Name y p2] X.env)).any (·.1) = false := by rfl) :
    ST X (.Call (.Name "isinstance" p) [a, .Name y p2] [] pos) (tE (eUn (fIsi T) ma)) := st_val (se_isi hm hg hm2 hg2 hv ha hn hdb he he2 hpl) hw

/-! ### text.find(sign) -/
def findC (s : List Nat) (c : Nat) : Int := if c ∈ s then (s.idxOf c : Int) else -1
def fFind : D → List D → Option D
  | .str s, [.str [c]] => some (.int (findC s c))
  | _, _ => none
theorem find_txt (s : List Nat) (c : Nat) : Txt.find ⟨s.toArray⟩ ⟨#[c]⟩ = findC s c := by
  unfold Txt.find findC
  rcases PySem.StrLaws.occ_head ⟨s.toArray⟩ ⟨#[c]⟩ 1 (Nat.le_refl 1) with ⟨h1, h2⟩ | ⟨i, r, h1, h2, h3⟩
  · rw [h1, if_neg]
    intro hc
    obtain ⟨i, hi⟩ := List.mem_iff_getElem?.mp hc
    exact h2 i ((PySem.StrLaws.subAt_one _ c i).mpr (by simpa using hi))
  · rw [h1]
    have hi := (PySem.StrLaws.subAt_one _ c i).mp h2
    have hi : s[i]? = some c := by simpa using hi
    obtain ⟨hlt, hge⟩ := List.getElem?_eq_some_iff.mp hi
    have hm : c ∈ s := by rw [← hge]; exact List.getElem_mem hlt
    rw [if_pos hm]
    show ((i : Nat) : Int) = _
    have : s.idxOf c = i := by
      have hl : s.idxOf c < s.length := List.idxOf_lt_length_of_mem hm
      have hg : s[s.idxOf c] = c := List.getElem_idxOf hl
      by_cases q : s.idxOf c < i
      · exact absurd ((PySem.StrLaws.subAt_one ⟨s.toArray⟩ c (s.idxOf c)).mpr (by simpa [List.getElem?_eq_getElem hl] using hg)) (h3 _ q)
      · by_cases q2 : i < s.idxOf c
        · have := List.not_of_lt_findIdx (p := fun x => x == c) (xs := s) (i := i) (by simpa [List.idxOf] using q2)
          simp [hge] at this
        · omega
    rw [this]
theorem ms_find {K : PySem.W.Frag} : MetS K (fun x xs H Q => ∃ a b, x = .str a ∧ xs = [.str b] ∧ Q (.int (Txt.find a b)) H) fFind := by
  intro H F v vs x xs z s hx hxs e Q q
  unfold fFind at e
  split at e
  · cases e
    obtain ⟨u, rfl, hu⟩ := vws1 hxs
    rw [vw_str hx, vw_str hu]
    refine ⟨_, _, rfl, rfl, ?_⟩
    rw [find_txt]
    exact q _ H F (Alc.refl s) (.int _)
  · cases e
theorem se_find {o : Expr} {mo : M Vl} {apos cpos : Pos} (ho : SE X o mo) (ha : SA X [e] ms)
    (hbase : attributeBase o "find" X.env (eval o X.env) = eval o X.env := by rfl)
    (hfew : ((backTo cpos (starEach [e] X.env)).all (fun x => !x.1) && (backToKw cpos (keywordEach [] X.env)).all (fun x => x.1.isSome)
      && decide ([e].length + ([] : List Keyword).length + (if ([] : List Keyword).isEmpty then 0 else 1) < 30)) = true := by rfl)
    (hline : (apos.endLine == cpos.line) = true := by rfl) (hs : starEach [e] X.env = (false, eval e X.env) :: starEach [] X.env := by rfl) (hplain : (backTo cpos (starEach [] X.env)).any (·.1) = false := by rfl) :
    SE X (.Call (.Attribute o "find" apos) [e] [] cpos) (eMet fFind mo ms) := se_met PySem.F.slot_str_find PySem.F.type_str_find mt_find (fun x xs z h => by
  unfold fFind at h
  split at h
  · exact ⟨_, rfl⟩
  · cases h) ms_find ho ha hbase hfew hline hs hplain

/-! ### x[::-1] -/
def tRevS (te : TE) : TE := fun σ H Q => te σ H fun x H1 => ∃ z : Str, x = .str z ∧ z.length ≤ sizeLine ∧ Q (.str ⟨z.cps.toList.reverse.toArray⟩) H1
theorem rev_picked (z : Str) (st : Tok) : slicePicked z none none (some (-1, st)) = (List.range z.length).reverse := by
  unfold slicePicked Builtin.Str.strSliceIndices
  show sliceRange ((z.length : Int) - 1) (-1) (-1) = _
  rw [PySem.W.krv_sliceRange, PySem.W.krv_range]
theorem pe_revS {e : Expr} {te : TE} {k : Nat} {p1 p2 p3 pos : Pos} (he : PE X e te) : PE X (.Subscript e (.Slice none none (some (.UnaryOp .USub (.Constant (.int 1) k p1) p2)) p3) pos) (fun σ H Q => te σ H fun x H1 => (∃ a xs, x = .ref a ∧ SqL X.K H1 a xs ∧ ∀ p, H1 p = none → Q (.ref p) (upd H1 p (.lst xs.reverse))) ∨ ∃ z : Str, x = .str z ∧ z.length ≤ sizeLine ∧ Q (.str ⟨z.cps.toList.reverse.toArray⟩) H1) := by
  refine ⟨fun pins s σ H Q I h => ?_⟩
  refine Subscript_ (thn (he.run pins s σ H _ I h) fun v s1 ⟨x, H1, I1, r1, q1⟩ => ?_)
  have hst : PO X (some (.UnaryOp .USub (.Constant (.int 1) k p1) p2)) (tPart (tUn (rU fun i => .int (-i)) (tC (.int 1)))) := po_some (pe_un un_neg pe_int)
  refine wpAny_Slice (thn (po_none.run pins s1 σ H1 (fun o H2 => o = none ∧ H2 = H1) I1 ⟨rfl, rfl⟩) fun vl s2 ⟨l, H2, I2, pl, el, e2⟩ => ?_)
  subst el e2
  refine thn (po_none.run pins s2 σ H2 (fun o H3 => o = none ∧ H3 = H2) I2 ⟨rfl, rfl⟩) fun vu s3 ⟨u, H3, I3, pu, eu, e3⟩ => ?_
  subst eu e3
  refine thn (hst.run pins s3 σ H3 (fun o H4 => o = some (-1) ∧ H4 = H3) I3 ⟨1, rfl, -1, rfl, rfl, rfl⟩) fun vs s4 ⟨o, H4, I4, ps, eo, e4⟩ => ?_
  subst eo e4
  have I5 : Inv X pins σ H4 { s4 with heap := s4.heap.push { cls := .type "slice", data := .fields #[vl, vu, vs] } } := I4.kept (t' := s4.toks) fun b ob q => Heap.get?_push_of_some _ q
  rcases q1 with ⟨a, xs, ex, hx, q⟩ | ⟨z, ex, hz, q⟩
  · subst ex
    cases r1
    obtain ⟨its, r, ht, hz⟩ := I5.list hx
    have hlen := r.length
    show wpAny (model X.prog X.w) X.A (subscriptTail e (.Slice none none (some (.UnaryOp .USub (.Constant (.int 1) k p1) p2)) p3) (.ref a) (.ref s4.heap.objs.size)) (EP X pins σ Q) X.xe { s4 with heap := s4.heap.push { cls := .type "slice", data := .fields #[vl, vu, vs] } }
    refine tail_any (ops := [.ref a, .ref s4.heap.objs.size]) ht.isList.typeIs (PySem.slot_list_getitem.lookup) ?_ (by with_unfolding_all rfl)
    refine wpAny_getItem_list_slice ht.isList (Heap.IsSliceOf.new _ vl vu vs) pl pu ps (by decide) ?_ (by rw [List.size_toArray]; omega)
    rw [PySem.W.krv_pick]
    refine ⟨.ref _, _, I5.laid (t' := s4.toks) (o := .lst xs.reverse) (fun b ob q => Heap.get?_push_of_some _ q) (Nat.le_refl _) ?_, rfl, q _ (I5.hok.fresh (Nat.le_refl _))⟩
    exact ⟨by rw [List.length_reverse]; exact hz, _, 0, r.reverse, Heap.get?_push_size _ rfl⟩
  · subst ex
    obtain ⟨t, rfl⟩ := r1
    obtain ⟨l, rfl, hl⟩ := IsPart.raw pl
    obtain ⟨u, rfl, hu⟩ := IsPart.raw pu
    obtain ⟨st, rfl, hst⟩ := IsPart.raw ps
    cases l with
    | some _ => cases hl
    | none =>
    cases u with
    | some _ => cases hu
    | none =>
    cases st with
    | none => cases hst
    | some st =>
    obtain ⟨i, st⟩ := st
    cases hst
    show wpAny (model X.prog X.w) X.A (subscriptTail e (.Slice none none (some (.UnaryOp .USub (.Constant (.int 1) k p1) p2)) p3) (.str z t) (.ref s4.heap.objs.size)) (EP X pins σ Q) X.xe { s4 with heap := s4.heap.push { cls := .type "slice", data := .fields #[_, _, _] } }
    refine tail_any (ops := [.str z t, .ref s4.heap.objs.size]) (typeIs_str _ _ _) (F.slot_str_getitem.lookup) ?_ (by with_unfolding_all rfl)
    refine wpAny_getItem_str_slice (l := none) (u := none) (st := some (-1, st)) ⟨_, Heap.get?_push_size _ rfl, rfl, rfl⟩ rfl ?_
    unfold sliceMade
    rw [rev_picked, if_neg (by simp)]
    have e : (List.range z.length).reverse.filterMap (z.cps[·]?) = z.cps.toList.reverse := by
      rw [List.filterMap_reverse]
      exact congrArg _ (PySem.W.krv_all z.cps)
    rw [e]
    exact ⟨by show _ ≤ sizeLine; simpa [Str.length] using hz, .str _, H4, I5.tok _, ⟨_, rfl⟩, q⟩
def fRev : D → Option D
  | .lst xs => some (.lst xs.reverse)
  | .str s => if s.length ≤ lim then some (.str s.reverse) else none
  | _ => none
theorem se_rev {k : Nat} {p1 p2 p3 : Pos} (he : SE X e me) : SE X (.Subscript e (.Slice none none (some (.UnaryOp .USub (.Constant (.int 1) k p1) p2)) p3) pos) (eUn fRev me) := by
  refine pe_weak (pe_revS he) fun σ H Q ⟨G, ρ, F, r0, ρ', W, hm, q⟩ => ?_
  unfold eUn at hm
  obtain ⟨⟨x, ρ1⟩, e1, hm⟩ := Option.bind_eq_some_iff.mp hm
  obtain ⟨dx, e3, hm⟩ := Option.bind_eq_some_iff.mp hm
  obtain ⟨dz, e5, hm⟩ := Option.bind_eq_some_iff.mp hm
  cases hm
  refine tm_use W e1 fun v H1 F1 s1 R1 => ?_
  have hv := vw_of s1.wd R1 e3
  unfold fRev at e5
  split at e5
  · cases e5
    obtain ⟨a, vs, rfl, h1, h2⟩ := hv
    refine .inl ⟨a, vs, rfl, SqL.of h1, fun p hp => ?_⟩
    have A := Alc.new (o := HO.lst vs.reverse) s1.wd.sub hp
    exact q _ _ _ (s1.trans (s1.wd.alc A)) (.lst upd_same (h2.reverse.mono A.ff))
  · split at e5
    · rename_i hl
      cases e5
      rw [vw_str hv]
      exact .inr ⟨_, rfl, lim_of (by simpa [Str.length] using hl), by simpa using q _ H1 F1 s1 (.str _)⟩
    · cases e5
  · cases e5
end
/-! ### evaluation -/
section
@[simp] theorem r_fIsi1 {b : Bool} : fIsi "bool" (.bl b) = some (.bl true) := by unfold fIsi; rw [show kitB (tyN (.bl b)) "bool" = some true by show kitB "bool" "bool" = _; decide +kernel]; rfl
@[simp] theorem r_fIsi2 {i : Int} : fIsi "int" (.int i) = some (.bl true) := by unfold fIsi; rw [show kitB (tyN (.int i)) "int" = some true by show kitB "int" "int" = _; decide +kernel]; rfl
@[simp] theorem r_fIsi3 {i : Int} : fIsi "bool" (.int i) = some (.bl false) := by unfold fIsi; rw [show kitB (tyN (.int i)) "bool" = some false by show kitB "int" "bool" = _; decide +kernel]; rfl
@[simp] theorem r_fIsi4 {s : List Nat} : fIsi "str" (.str s) = some (.bl true) := by unfold fIsi; rw [show kitB (tyN (.str s)) "str" = some true by show kitB "str" "str" = _; decide +kernel]; rfl
@[simp] theorem r_fIsi5 {s : List D} : fIsi "list" (.lst s) = some (.bl true) := by unfold fIsi; rw [show kitB (tyN (.lst s)) "list" = some true by show kitB "list" "list" = _; decide +kernel]; rfl
@[simp] theorem r_fIsi6 {s : List D} : fIsi "tuple" (.tup s) = some (.bl true) := by unfold fIsi; rw [show kitB (tyN (.tup s)) "tuple" = some true by show kitB "tuple" "tuple" = _; decide +kernel]; rfl
@[simp] theorem r_fFind {s : List Nat} {c : Nat} : fFind (.str s) [.str [c]] = some (.int (findC s c)) := rfl
@[simp] theorem r_rev1 {xs : List D} : fRev (.lst xs) = some (.lst xs.reverse) := rfl
@[simp] theorem r_rev2 {xs : List Nat} : fRev (.str xs) = if xs.length ≤ lim then some (.str xs.reverse) else none := rfl
end
end Sw
set_option Elab.async false
set_option linter.all false
set_option maxRecDepth 100000
set_option maxHeartbeats 4000000
/-! Sw12: what holds behind a piece (Ev, Sv, Fv): rules that go by the piece's head, and a lemma go that runs them. -/
namespace Sw
open L2

def Fv (f : Fn) (gs : List Ag) (Q : Vl → List (List D) → Prop) : Prop := ∃ r os, f gs = some (r, os) ∧ Q r os
theorem Fv.mono {f : Fn} {gs : List Ag} {Q Q' : Vl → List (List D) → Prop} (h : Fv f gs Q) (w : ∀ r os, Q r os → Q' r os) : Fv f gs Q' :=
  let ⟨r, os, e, q⟩ := h
  ⟨r, os, e, w r os q⟩
theorem fv_eq {f : Fn} {gs : List Ag} {r : Vl} {os : List (List D)} {Q : Vl → List (List D) → Prop} (h : f gs = some (r, os)) (q : Q r os) : Fv f gs Q := ⟨r, os, h, q⟩
theorem Ev.mono {α : Type} {m : M α} {ρ : Rho} {Q Q' : α → Rho → Prop} (h : Ev m ρ Q) (w : ∀ r ρ', Q r ρ' → Q' r ρ') : Ev m ρ Q' :=
  let ⟨r, os, e, q⟩ := h
  ⟨r, os, e, w r os q⟩
theorem Sv.mono {s : S} {ρ : Rho} {Q Q' : Fl → Rho → Prop} (h : Sv s ρ Q) (w : ∀ r ρ', Q r ρ' → Q' r ρ') : Sv s ρ Q' :=
  let ⟨r, os, e, q⟩ := h
  ⟨r, os, e, w r os q⟩
theorem ev_eq {α : Type} {m : M α} {ρ ρ' : Rho} {r : α} {Q : α → Rho → Prop} (h : m ρ = some (r, ρ')) (q : Q r ρ') : Ev m ρ Q := ⟨r, ρ', h, q⟩
/-- a bool that parts -/
def Brn (c : Bool) (A B : Prop) : Prop := (c = true → A) ∧ (c = false → B)
theorem brn_t {A B : Prop} (h : A) : Brn true A B := ⟨fun _ => h, fun z => Bool.noConfusion z⟩
theorem brn_f {A B : Prop} (h : B) : Brn false A B := ⟨fun z => Bool.noConfusion z, fun _ => h⟩
theorem brn_nT {A B : Prop} (h : B) : Brn (!true) A B := brn_f h
theorem brn_nF {A B : Prop} (h : A) : Brn (!false) A B := brn_t h
theorem brn_nn {c : Bool} {A B : Prop} (h : Brn c A B) : Brn (!!c) A B := by rw [Bool.not_not]; exact h
theorem brn_dt {p : Prop} [Decidable p] {A B : Prop} (hp : p) (h : A) : Brn (decide p) A B := ⟨fun _ => h, fun z => absurd hp (of_decide_eq_false z)⟩
theorem brn_df {p : Prop} [Decidable p] {A B : Prop} (hp : ¬ p) (h : B) : Brn (decide p) A B := ⟨fun z => absurd (of_decide_eq_true z) hp, fun _ => h⟩
theorem brn_nt {p : Prop} [Decidable p] {A B : Prop} (hp : ¬ p) (h : A) : Brn (!decide p) A B := by rw [decide_eq_false hp]; exact brn_t h
theorem brn_nf {p : Prop} [Decidable p] {A B : Prop} (hp : p) (h : B) : Brn (!decide p) A B := by rw [decide_eq_true hp]; exact brn_f h
theorem brn_d {p : Prop} [Decidable p] {A B : Prop} (h1 : p → A) (h2 : ¬ p → B) : Brn (decide p) A B := ⟨fun z => h1 (of_decide_eq_true z), fun z => h2 (of_decide_eq_false z)⟩
theorem brn_nd {p : Prop} [Decidable p] {A B : Prop} (h1 : ¬ p → A) (h2 : p → B) : Brn (!decide p) A B := by
  by_cases q : p
  · exact brn_nf q (h2 q)
  · exact brn_nt q (h1 q)
/-- an operation that gives z -/
def Giv (o : Option D) (Q : D → Prop) : Prop := ∃ z, o = some z ∧ Q z
theorem giv {o : Option D} {z : D} {Q : D → Prop} (h : o = some z) (q : Q z) : Giv o Q := ⟨z, h, q⟩
section
variable {ρ : Rho} {a b c : M Vl} {ms : M (List Vl)} {t u : M Bool} {s s' s'' : S} {f g : D → D → Option D} {Q : Vl → Rho → Prop} {QB : Bool → Rho → Prop} {QS : Fl → Rho → Prop} {QL : List Vl → Rho → Prop} {i : Nat}
theorem ev_c {x : D} (q : Q (.fz x) ρ) : Ev (eC x) ρ Q := ⟨_, _, rfl, q⟩
theorem ev_vd {x : D} (h : ρ[i]? = some (.d x)) (q : Q (.fz x) ρ) : Ev (eVar i) ρ Q := ⟨_, _, by rw [r_eVar, h], q⟩
theorem ev_vo {x : List D} (h : ρ[i]? = some (.ow x)) (q : Q (.bw i) ρ) : Ev (eVar i) ρ Q := ⟨_, _, by rw [r_eVar, h], q⟩
theorem ev_vi {x : List D} (h : ρ[i]? = some (.io x)) (q : Q (.bw i) ρ) : Ev (eVar i) ρ Q := ⟨_, _, by rw [r_eVar, h], q⟩
/-- two values seen -/
def See2 (ρ : Rho) (r r2 : Vl) (P : D → D → Prop) : Prop := ∃ x y, look ρ (stl r) = some x ∧ look ρ (stl r2) = some y ∧ P x y
def See1 (ρ : Rho) (r : Vl) (P : D → Prop) : Prop := ∃ x, look ρ (stl r) = some x ∧ P x
def Sees (ρ : Rho) (rs : List Vl) (P : List D → Prop) : Prop := ∃ xs, looks ρ rs = some xs ∧ P xs
theorem see2 {r r2 : Vl} {P : D → D → Prop} {x y : D} (h1 : look ρ (stl r) = some x) (h2 : look ρ (stl r2) = some y) (h : P x y) : See2 ρ r r2 P := ⟨x, y, h1, h2, h⟩
theorem see1 {r : Vl} {P : D → Prop} {x : D} (h1 : look ρ (stl r) = some x) (h : P x) : See1 ρ r P := ⟨x, h1, h⟩
theorem sees {rs : List Vl} {P : List D → Prop} {xs : List D} (h1 : looks ρ rs = some xs) (h : P xs) : Sees ρ rs P := ⟨xs, h1, h⟩
theorem ev_bin (h : Ev a ρ fun r ρ1 => Ev b ρ1 fun r2 ρ2 => See2 ρ2 r r2 fun x y => Giv (f x y) fun z => Q (.fz z) ρ2) : Ev (eBin f a b) ρ Q := by
  obtain ⟨r, ρ1, e1, r2, ρ2, e2, x, y, e3, e4, z, e5, q⟩ := h
  exact ⟨_, ρ2, by rw [r_eBin, e1]; simp only [Option.bind_some, e2, e3, e4, e5], q⟩
theorem ev_un {h' : D → Option D} (h : Ev a ρ fun r ρ1 => See1 ρ1 r fun x => Giv (h' x) fun z => Q (.fz z) ρ1) : Ev (eUn h' a) ρ Q := by
  obtain ⟨r, ρ1, e1, x, e3, z, e5, q⟩ := h
  exact ⟨_, ρ1, by rw [r_eUn, e1]; simp only [Option.bind_some, e3, e5], q⟩
theorem ev_anil (q : QL [] ρ) : Ev aNil ρ QL := ⟨_, _, rfl, q⟩
theorem ev_acons (h : Ev a ρ fun r ρ1 => Ev ms ρ1 fun rs ρ2 => QL (stl r :: rs) ρ2) : Ev (aCons a ms) ρ QL := by
  obtain ⟨r, ρ1, e1, r2, ρ2, e2, q⟩ := h
  exact ⟨_, ρ2, by rw [r_aCons, e1]; simp only [Option.bind_some, e2], q⟩
theorem ev_blt {h' : List D → Option D} (h : Ev ms ρ fun rs ρ1 => Sees ρ1 rs fun xs => Giv (h' xs) fun z => Q (.fz z) ρ1) : Ev (eBlt h' ms) ρ Q := by
  obtain ⟨r, ρ1, e1, x, e3, z, e5, q⟩ := h
  exact ⟨_, ρ1, by rw [r_eBlt, e1]; simp only [Option.bind_some, e3, e5], q⟩
theorem ev_met {h' : D → List D → Option D} (h : Ev a ρ fun r ρ1 => Ev ms ρ1 fun rs ρ2 => See1 ρ2 r fun x => Sees ρ2 rs fun xs => Giv (h' x xs) fun z => Q (.fz z) ρ2) : Ev (eMet h' a ms) ρ Q := by
  obtain ⟨r, ρ1, e1, rs, ρ2, e2, x, e3, xs, e4, z, e5, q⟩ := h
  exact ⟨_, ρ2, by rw [r_eMet, e1]; simp only [Option.bind_some, e2, e3, e4, e5], q⟩
theorem ev_ono {Q : Option Int → Rho → Prop} (q : Q none ρ) : Ev oNo ρ Q := ⟨_, _, rfl, q⟩
def IsI (r : Vl) (P : Int → Prop) : Prop := ∃ i, r = .fz (.int i) ∧ P i
theorem isI {i : Int} {P : Int → Prop} (h : P i) : IsI (.fz (.int i)) P := ⟨i, rfl, h⟩
theorem ev_osome {Q : Option Int → Rho → Prop} (h : Ev a ρ fun r ρ1 => IsI r fun i => Q (some i) ρ1) : Ev (oSome a) ρ Q := by
  obtain ⟨r, ρ1, e1, i, rfl, q⟩ := h
  exact ⟨_, ρ1, by rw [r_oSome, e1]; rfl, q⟩
theorem ev_sl {h' : D → Option Int → Option Int → Option D} {l o : M (Option Int)} (h : Ev a ρ fun r ρ1 => Ev l ρ1 fun lo ρ2 => Ev o ρ2 fun hi ρ3 => See1 ρ3 r fun x => Giv (h' x lo hi) fun z => Q (.fz z) ρ3) : Ev (eSl h' a l o) ρ Q := by
  obtain ⟨r, ρ1, e1, lo, ρ2, e2, hi, ρ3, e3, x, e4, z, e5, q⟩ := h
  exact ⟨_, ρ3, by rw [r_eSl, e1]; simp only [Option.bind_some, e2, e3, e4, e5], q⟩
def Frzs (ρ : Rho) (rs : List Vl) (P : List D → Rho → Prop) : Prop := ∃ xs ρ1, frzs ρ rs = some (xs, ρ1) ∧ P xs ρ1
theorem frzs' {rs : List Vl} {P : List D → Rho → Prop} {xs : List D} {ρ1 : Rho} (h1 : frzs ρ rs = some (xs, ρ1)) (h : P xs ρ1) : Frzs ρ rs P := ⟨xs, ρ1, h1, h⟩
theorem ev_tup (h : Ev ms ρ fun rs ρ1 => Frzs ρ1 rs fun xs ρ2 => xs.length ≤ lim ∧ Q (.fz (.tup xs)) ρ2) : Ev (eTup ms) ρ Q := by
  obtain ⟨rs, ρ1, e1, xs, ρ2, e2, hl, q⟩ := h
  exact ⟨_, ρ2, by rw [r_eTup, e1]; simp only [Option.bind_some, e2, hl, if_true], q⟩
theorem ev_lst (h : Ev ms ρ fun rs ρ1 => Frzs ρ1 rs fun xs ρ2 => xs.length ≤ lim ∧ Q (.fr xs) ρ2) : Ev (eLst ms) ρ Q := by
  obtain ⟨rs, ρ1, e1, xs, ρ2, e2, hl, q⟩ := h
  exact ⟨_, ρ2, by rw [r_eLst, e1]; simp only [Option.bind_some, e2, hl, if_true], q⟩
def IsB (r : Vl) (P : Bool → Prop) : Prop := ∃ b, r = .fz (.bl b) ∧ P b
theorem isB {i : Bool} {P : Bool → Prop} (h : P i) : IsB (.fz (.bl i)) P := ⟨i, rfl, h⟩
theorem ev_tE (h : Ev a ρ fun r ρ1 => IsB r fun b => QB b ρ1) : Ev (tE a) ρ QB := by
  obtain ⟨r, ρ1, e1, i, rfl, q⟩ := h
  exact ⟨_, ρ1, by rw [r_tE, e1]; rfl, q⟩
theorem ev_tyes (q : QB true ρ) : Ev tYesM ρ QB := ⟨_, _, rfl, q⟩
theorem ev_tAnd (h : Ev t ρ fun v ρ1 => Brn v (Ev u ρ1 QB) (QB false ρ1)) : Ev (tAnd t u) ρ QB := by
  obtain ⟨v, ρ1, e1, h1, h2⟩ := h
  cases v with
  | true => obtain ⟨r, ρ2, e2, q⟩ := h1 rfl; exact ⟨r, ρ2, by rw [r_tAnd, e1]; exact e2, q⟩
  | false => exact ⟨false, ρ1, by rw [r_tAnd, e1]; rfl, h2 rfl⟩
theorem ev_tOr (h : Ev t ρ fun v ρ1 => Brn v (QB true ρ1) (Ev u ρ1 QB)) : Ev (tOr t u) ρ QB := by
  obtain ⟨v, ρ1, e1, h1, h2⟩ := h
  cases v with
  | false => obtain ⟨r, ρ2, e2, q⟩ := h2 rfl; exact ⟨r, ρ2, by rw [r_tOr, e1]; exact e2, q⟩
  | true => exact ⟨true, ρ1, by rw [r_tOr, e1]; rfl, h1 rfl⟩
theorem ev_tNot (h : Ev t ρ fun v ρ1 => QB (!v) ρ1) : Ev (tNot t) ρ QB := by
  obtain ⟨v, ρ1, e1, q⟩ := h
  exact ⟨!v, ρ1, by rw [r_tNot, e1]; rfl, q⟩
theorem ev_eAnd (h : Ev a ρ fun r ρ1 => IsB r fun v => Brn v (Ev b ρ1 Q) (Q (.fz (.bl false)) ρ1)) : Ev (eAnd a b) ρ Q := by
  obtain ⟨r, ρ1, e1, v, rfl, h1, h2⟩ := h
  cases v with
  | true => obtain ⟨r, ρ2, e2, q⟩ := h1 rfl; exact ⟨r, ρ2, by rw [r_eAnd, e1]; exact e2, q⟩
  | false => exact ⟨_, ρ1, by rw [r_eAnd, e1]; rfl, h2 rfl⟩
theorem ev_eOr (h : Ev a ρ fun r ρ1 => IsB r fun v => Brn v (Q (.fz (.bl true)) ρ1) (Ev b ρ1 Q)) : Ev (eOr a b) ρ Q := by
  obtain ⟨r, ρ1, e1, v, rfl, h1, h2⟩ := h
  cases v with
  | false => obtain ⟨r, ρ2, e2, q⟩ := h2 rfl; exact ⟨r, ρ2, by rw [r_eOr, e1]; exact e2, q⟩
  | true => exact ⟨_, ρ1, by rw [r_eOr, e1]; rfl, h1 rfl⟩
theorem ev_eNot (h : Ev a ρ fun r ρ1 => IsB r fun v => Q (.fz (.bl (!v))) ρ1) : Ev (eNot a) ρ Q := by
  obtain ⟨r, ρ1, e1, v, rfl, q⟩ := h
  exact ⟨_, ρ1, by rw [r_eNot, e1]; rfl, q⟩
theorem ev_eIf (h : Ev t ρ fun v ρ1 => Brn v (Ev a ρ1 Q) (Ev b ρ1 Q)) : Ev (eIf t a b) ρ Q := by
  obtain ⟨v, ρ1, e1, h1, h2⟩ := h
  cases v with
  | true => obtain ⟨r, ρ2, e2, q⟩ := h1 rfl; exact ⟨r, ρ2, by rw [r_eIf, e1]; exact e2, q⟩
  | false => obtain ⟨r, ρ2, e2, q⟩ := h2 rfl; exact ⟨r, ρ2, by rw [r_eIf, e1]; exact e2, q⟩
def IsBD (z : D) (P : Bool → Prop) : Prop := ∃ b, z = .bl b ∧ P b
theorem isBD {i : Bool} {P : Bool → Prop} (h : P i) : IsBD (.bl i) P := ⟨i, rfl, h⟩
theorem ev_chain (h : Ev a ρ fun r ρ1 => Ev b ρ1 fun r2 ρ2 => See2 ρ2 r r2 fun x y => Giv (f x y) fun z => IsBD z fun v => Brn v (Ev c ρ2 fun r3 ρ3 => See2 ρ3 r2 r3 fun y2 w => Giv (g y2 w) fun z2 => Q (.fz z2) ρ3) (Q (.fz (.bl false)) ρ2)) : Ev (eChain f g a b c) ρ Q := by
  obtain ⟨r, ρ1, e1, r2, ρ2, e2, x, y, e3, e4, z, e5, v, rfl, h1, h2⟩ := h
  cases v with
  | true =>
    obtain ⟨r3, ρ3, e6, y2, w, e7, e8, z2, e9, q⟩ := h1 rfl
    exact ⟨_, ρ3, by rw [r_eChain, e1]; simp only [Option.bind_some, e2, e3, e4, e5, e6, e7, e8, e9], q⟩
  | false => exact ⟨_, ρ2, by rw [r_eChain, e1]; simp only [Option.bind_some, e2, e3, e4, e5], h2 rfl⟩
/-! calls -/
def Arg (fs : List Bool) (rs : List Vl) (ρ : Rho) (P : List (D ⊕ Nat) → List Ag → Rho → Prop) : Prop := ∃ ts ρ2 gs, ag1 fs rs ρ = some (ts, ρ2) ∧ ag2 ρ2 ts = some gs ∧ (agI ts).Nodup ∧ P ts gs ρ2
theorem arg {fs : List Bool} {rs : List Vl} {P : List (D ⊕ Nat) → List Ag → Rho → Prop} {ts : List (D ⊕ Nat)} {ρ2 : Rho} {gs : List Ag} (h1 : ag1 fs rs ρ = some (ts, ρ2)) (h2 : ag2 ρ2 ts = some gs) (h3 : (agI ts).Nodup) (h : P ts gs ρ2) : Arg fs rs ρ P := ⟨ts, ρ2, gs, h1, h2, h3, h⟩
def noBw : Vl → Prop
  | .bw _ => False
  | _ => True
theorem ev_call {h' : Fn} {fs : List Bool} (h : Ev ms ρ fun rs ρ1 => Arg fs rs ρ1 fun ts gs ρ2 => Fv h' gs fun r os => noBw r ∧ Q r (puts ρ2 (agI ts) os)) : Ev (eCall h' fs ms) ρ Q := by
  obtain ⟨rs, ρ1, e1, ts, ρ2, gs, e2, e3, hn, r, os, e4, nb, q⟩ := h
  refine ⟨r, _, ?_, q⟩
  rw [r_eCall, e1]
  simp only [Option.bind_some, e2, e3, if_pos hn, e4]
  cases r with
  | bw j => exact nb.elim
  | fz x => rfl
  | fr x => rfl
/-! statements -/
theorem sv_asg_s {i : Nat} (h : Ev a ρ fun r ρ1 => ∃ ρ2, asg i r ρ1 = some ρ2 ∧ Sv s ρ2 QS) : Sv (sSeq (sAsg i a) s) ρ QS := by
  obtain ⟨r, ρ1, e1, ρ2, e2, h⟩ := h
  exact sv_seq_eq (ρ1 := ρ2) (by rw [r_sAsg, e1]; simp only [Option.bind_some, e2]) h
theorem sv_asg_l {i : Nat} (h : Ev a ρ fun r ρ1 => ∃ ρ2, asg i r ρ1 = some ρ2 ∧ QS .nx ρ2) : Sv (sAsg i a) ρ QS := by
  obtain ⟨r, ρ1, e1, ρ2, e2, h⟩ := h
  exact ⟨.nx, ρ2, by rw [r_sAsg, e1]; simp only [Option.bind_some, e2], h⟩
theorem asg_z {i : Nat} {x : D} (h : ioQ ρ[i]? = false) : asg i (.fz x) ρ = some (ρ.set i (.d x)) := by
  unfold asg
  cases e : ρ[i]? with
  | none => rw [e] at h; cases h
  | some s => cases s with
    | io xs => rw [e] at h; cases h
    | _ => rfl
theorem asg_r {i : Nat} {x : List D} (h : ioQ ρ[i]? = false) : asg i (.fr x) ρ = some (ρ.set i (.ow x)) := by
  unfold asg
  cases e : ρ[i]? with
  | none => rw [e] at h; cases h
  | some s => cases s with
    | io xs => rw [e] at h; cases h
    | _ => rfl
theorem ex_asg {i : Nat} {x : D} {P : Rho → Prop} (h : ioQ ρ[i]? = false) (q : P (ρ.set i (.d x))) : ∃ ρ2, asg i (.fz x) ρ = some ρ2 ∧ P ρ2 := ⟨_, asg_z h, q⟩
theorem ex_asg' {i : Nat} {x : List D} {P : Rho → Prop} (h : ioQ ρ[i]? = false) (q : P (ρ.set i (.ow x))) : ∃ ρ2, asg i (.fr x) ρ = some ρ2 ∧ P ρ2 := ⟨_, asg_r h, q⟩
theorem ex_asg'' {i j : Nat} {P : Rho → Prop} {ρ2 : Rho} (h : asg i (.bw j) ρ = some ρ2) (q : P ρ2) : ∃ ρ2, asg i (.bw j) ρ = some ρ2 ∧ P ρ2 := ⟨_, h, q⟩
theorem sv_if_s (h : Ev t ρ fun v ρ1 => Brn v (Sv (sSeq s s'') ρ1 QS) (Sv (sSeq s' s'') ρ1 QS)) : Sv (sSeq (sIf t s s') s'') ρ QS := by
  obtain ⟨v, ρ1, e1, h1, h2⟩ := h
  have e : ∀ x, sSeq (sIf t s s') s'' ρ = x ↔ (sSeq (if v = true then s else s') s'') ρ1 = x := fun x => by
    rw [r_sSeq, r_sSeq, r_sIf, e1]
    cases v <;> rfl
  cases v with
  | true => obtain ⟨fl, ρ2, e2, q⟩ := h1 rfl; exact ⟨fl, ρ2, (e _).mpr e2, q⟩
  | false => obtain ⟨fl, ρ2, e2, q⟩ := h2 rfl; exact ⟨fl, ρ2, (e _).mpr e2, q⟩
theorem sv_if_l (h : Ev t ρ fun v ρ1 => Brn v (Sv s ρ1 QS) (Sv s' ρ1 QS)) : Sv (sIf t s s') ρ QS := by
  obtain ⟨v, ρ1, e1, h1, h2⟩ := h
  exact sv_if e1 h1 h2
theorem sv_nx_s (h : Sv s ρ QS) : Sv (sSeq sNx s) ρ QS := sv_seq_eq rfl h
theorem sv_seq_s (h : Sv (sSeq s (sSeq s' s'')) ρ QS) : Sv (sSeq (sSeq s s') s'') ρ QS := by
  obtain ⟨fl, ρ2, e2, q⟩ := h
  refine ⟨fl, ρ2, ?_, q⟩
  rw [r_sSeq] at e2
  rw [r_sSeq, r_sSeq]
  cases e : s ρ with
  | none => rw [e] at e2; cases e2
  | some p =>
    rw [e] at e2
    obtain ⟨f1, ρ1⟩ := p
    cases f1 with
    | nx => exact e2
    | bk => exact e2
    | ct => exact e2
    | rt v => exact e2
def Ret (r : Vl) (ρ : Rho) (P : Vl → Prop) : Prop := match r with
  | .fz x => P (.fz x)
  | .fr x => P (.fr x)
  | .bw i => ∃ xs, ρ[i]? = some (.ow xs) ∧ P (.fr xs)
theorem sv_ret_l (h : Ev a ρ fun r ρ1 => Ret r ρ1 fun v => QS (.rt v) ρ1) : Sv (sRet a) ρ QS := by
  obtain ⟨r, ρ1, e1, q⟩ := h
  cases r with
  | fz x => exact ⟨_, ρ1, by rw [r_sRet, e1]; rfl, q⟩
  | fr x => exact ⟨_, ρ1, by rw [r_sRet, e1]; rfl, q⟩
  | bw i => obtain ⟨xs, e2, q⟩ := q; exact ⟨_, ρ1, by rw [r_sRet, e1]; simp only [Option.bind_some, e2], q⟩
theorem sv_ret_s (h : Ev a ρ fun r ρ1 => Ret r ρ1 fun v => QS (.rt v) ρ1) : Sv (sSeq (sRet a) s) ρ QS := sv_seq (sv_ret_l h)
theorem sv_drop_s (h : Ev a ρ fun r ρ1 => Sv s ρ1 QS) : Sv (sSeq (sDrop a) s) ρ QS := by
  obtain ⟨r, ρ1, e1, q⟩ := h
  exact sv_seq_eq (ρ1 := ρ1) (by show (a ρ).bind _ = _; rw [e1]; rfl) q
def App (ρ : Rho) (i : Nat) (r : Vl) (P : Rho → Prop) : Prop := ∃ z ρ1 xs, frz ρ (stl r) = some (z, ρ1) ∧ own? ρ1 i = some xs ∧ xs.length < lim ∧ P (put ρ1 i (xs ++ [z]))
theorem app {r : Vl} {P : Rho → Prop} {z : D} {ρ1 : Rho} {xs : List D} (h1 : frz ρ (stl r) = some (z, ρ1)) (h2 : own? ρ1 i = some xs) (h3 : xs.length < lim) (h : P (put ρ1 i (xs ++ [z]))) : App ρ i r P := ⟨z, ρ1, xs, h1, h2, h3, h⟩
theorem sv_app_l (h0 : (own? ρ i).isSome = true) (h : Ev a ρ fun r ρ1 => App ρ1 i r fun ρ2 => QS .nx ρ2) : Sv (sApp i a) ρ QS := by
  obtain ⟨r, ρ1, e1, z, ρ2, xs, e2, e3, hl, q⟩ := h
  obtain ⟨y, ey⟩ := Option.isSome_iff_exists.mp h0
  refine ⟨.nx, _, ?_, q⟩
  show (own? ρ i).bind _ = _
  rw [ey]
  simp only [Option.bind_some, e1, e2, e3, hl, if_true]
theorem sv_app_s (h0 : (own? ρ i).isSome = true) (h : Ev a ρ fun r ρ1 => App ρ1 i r fun ρ2 => Sv s ρ2 QS) : Sv (sSeq (sApp i a) s) ρ QS := sv_seq (sv_app_l h0 h)
theorem sv_eq {fl : Fl} {ρ1 : Rho} (h : s ρ = some (fl, ρ1)) (q : QS fl ρ1) : Sv s ρ QS := ⟨fl, ρ1, h, q⟩
/-- a function's body -/
def FEnd (Q : Vl → List (List D) → Prop) (gs : List Ag) : Fl → Rho → Prop
  | .nx, ρ => Q (.fz .non) (outsOf gs ρ)
  | .rt (.fz x), ρ => Q (.fz x) (outsOf gs ρ)
  | .rt (.fr x), ρ => Q (.fr x) (outsOf gs ρ)
  | _, _ => False
theorem fv_fn {n nl : Nat} {gs : List Ag} {Q : Vl → List (List D) → Prop} (hn : gs.length = n) (h : Sv s (gs.map slOf ++ List.replicate (nl - n) .no) (FEnd Q gs)) : Fv (fnS n nl s) gs Q := by
  obtain ⟨fl, ρ', e, q⟩ := h
  have un : fnS n nl s gs = if gs.length = n then (s (gs.map slOf ++ List.replicate (nl - n) .no)).bind fun p => (match p.1 with
  | .nx => some (.fz .non, outsOf gs p.2)
  | .rt (.fz x) => some (.fz x, outsOf gs p.2)
  | .rt (.fr x) => some (.fr x, outsOf gs p.2)
  | _ => none) else none := rfl
  unfold Fv
  rw [un, if_pos hn, e]
  cases fl with
  | nx => exact ⟨_, _, rfl, q⟩
  | bk => exact q.elim
  | ct => exact q.elim
  | rt v => cases v with
    | fz x => exact ⟨_, _, rfl, q⟩
    | fr x => exact ⟨_, _, rfl, q⟩
    | bw j => exact q.elim
/-! loops -/
theorem ev_isq {QD : List D → Rho → Prop} (h : Ev a ρ fun r ρ1 => ∃ z ρ2 xs, frz ρ1 (stl r) = some (z, ρ2) ∧ itemsOf z = some xs ∧ QD xs ρ2) : Ev (iSq a) ρ QD := by
  obtain ⟨r, ρ1, e1, z, ρ2, xs, e2, e3, q⟩ := h
  exact ⟨xs, ρ2, by show (a ρ).bind _ = _; rw [e1]; simp only [Option.bind_some, e2, e3], q⟩
theorem ev_ir1 {QD : List D → Rho → Prop} (h : Ev ms ρ fun rs ρ1 => ∃ j, rs = [.fz (.int j)] ∧ -1000000 ≤ j ∧ j ≤ 1000000 ∧ QD (rngL 0 j.toNat) ρ1) : Ev (iR1 ms) ρ QD := by
  obtain ⟨r, ρ1, e1, j, rfl, h0, h1, q⟩ := h
  exact ⟨_, ρ1, iR1_ok e1 h0 h1, q⟩
/-- a for whose turns may return early: I by the turn, else E -/
theorem forM_sv {g : D → Rho → Option Rho} {b : S} (I : Nat → Rho → Prop) : ∀ (xs : List D) (k : Nat) (ρ : Rho), I k ρ →
    (∀ (i : Nat) (x : D), xs[i]? = some x → ∀ ρ, I (k + i) ρ → ∃ ρ1, g x ρ = some ρ1 ∧ Sv b ρ1 fun fl ρ2 => match fl with
      | .nx => I (k + i + 1) ρ2
      | .ct => I (k + i + 1) ρ2
      | .bk => QS .nx ρ2
      | .rt v => QS (.rt v) ρ2) → (∀ ρ', I (k + xs.length) ρ' → QS .nx ρ') → Sv (forM g b xs) ρ QS
  | [], k, ρ, h, _, q => ⟨.nx, ρ, rfl, q ρ h⟩
  | x :: xs, k, ρ, h, step, q => by
    obtain ⟨ρ1, e1, fl, ρ2, e2, hf⟩ := step 0 x rfl ρ h
    have go : I (k + 1) ρ2 → Sv (forM g b xs) ρ2 QS := fun hI => forM_sv I xs (k + 1) ρ2 hI (fun i y hy ρ h => by
      have := step (i + 1) y (by simpa using hy) ρ (by rw [show k + (i + 1) = k + 1 + i by omega]; exact h)
      rw [show k + (i + 1) + 1 = k + 1 + i + 1 by omega] at this
      exact this) fun ρ' h => q ρ' (by rw [List.length_cons, show k + (xs.length + 1) = k + 1 + xs.length by omega]; exact h)
    have un : forM g b (x :: xs) ρ = (g x ρ).bind fun ρ1 => (b ρ1).bind fun p => match p.1 with
      | .nx => forM g b xs p.2
      | .ct => forM g b xs p.2
      | .bk => some (.nx, p.2)
      | .rt v => some (.rt v, p.2) := rfl
    unfold Sv at go ⊢
    rw [un, e1]
    simp only [Option.bind_some, e2]
    cases fl with
    | nx => exact go hf
    | ct => exact go hf
    | bk => exact ⟨_, _, rfl, hf⟩
    | rt v => exact ⟨_, _, rfl, hf⟩
theorem sv_for {src : M (List D)} {g : D → Rho → Option Rho} {b : S} (I : Nat → Rho → Prop) (h : Ev src ρ fun xs ρ1 => I 0 ρ1 ∧
    (∀ (i : Nat) (x : D), xs[i]? = some x → ∀ ρ, I i ρ → ∃ ρ1, g x ρ = some ρ1 ∧ Sv b ρ1 fun fl ρ2 => match fl with
      | .nx => I (i + 1) ρ2
      | .ct => I (i + 1) ρ2
      | .bk => QS .nx ρ2
      | .rt v => QS (.rt v) ρ2) ∧ ∀ ρ', I xs.length ρ' → QS .nx ρ') : Sv (sFor src g b) ρ QS := by
  obtain ⟨xs, ρ1, e, h0, step, q⟩ := h
  obtain ⟨fl, ρ2, e2, h2⟩ := forM_sv (QS := QS) I xs 0 ρ1 h0 (fun i x hx ρ h => by
    rw [Nat.zero_add] at h ⊢
    exact step i x hx ρ h) fun ρ' h => q ρ' (by rw [Nat.zero_add] at h; exact h)
  exact ⟨fl, ρ2, by show (src ρ).bind _ = _; rw [e]; exact e2, h2⟩
end
/-- a list comprehension by an invariant -/
theorem ev_lc {ρ : Rho} {vs : List Nat} {src : M (List D)} {g : D → Rho → Option Rho} {t : M Bool} {e : M Vl} {Q : Vl → Rho → Prop} (I : Nat → List D → Rho → Prop) (h : Ev src ρ fun xs ρ1 => (vs.all fun v => plainSl ρ1[v]?) = true ∧ I 0 [] (wipeR ρ1 vs) ∧
    (∀ (i : Nat) (x : D), xs[i]? = some x → ∀ acc ρ, I i acc ρ → ∃ ρ1, g x ρ = some ρ1 ∧ Ev t ρ1 fun b ρ2 => Brn b (Ev e ρ2 fun r ρ3 => ∃ z ρ4, frz ρ3 (stl r) = some (z, ρ4) ∧ acc.length < lim ∧ I (i + 1) (acc ++ [z]) (wipeR ρ4 vs)) (I (i + 1) acc (wipeR ρ2 vs))) ∧
    ∀ acc ρ', I xs.length acc ρ' → Q (.fr acc) (backR ρ1 ρ' vs)) : Ev (eLc vs src g t e) ρ Q := by
  obtain ⟨xs, ρ1, e1, hp, h0, step, q⟩ := h
  obtain ⟨acc, ρ', e2, h2⟩ := lcM_inv (vs := vs) (g := g) (t := t) (e := e) I xs [] 0 (wipeR ρ1 vs) h0 fun i x hx acc ρ hI => by
    rw [Nat.zero_add] at hI ⊢
    obtain ⟨ρ2, e3, b, ρ3, e4, h1, h2⟩ := step i x hx acc ρ hI
    refine ⟨ρ2, e3, b, ρ3, e4, ?_⟩
    cases b with
    | true =>
      rw [if_pos rfl]
      obtain ⟨r, ρ4, e5, z, ρ5, e6, hl, hI⟩ := h1 rfl
      exact ⟨r, ρ4, z, ρ5, e5, e6, hl, hI⟩
    | false =>
      rw [if_neg (by decide)]
      exact h2 rfl
  rw [Nat.zero_add] at h2
  exact ⟨_, _, eLc_of e1 hp e2, q acc ρ' h2⟩
/-- a while by an invariant that goes down -/
theorem sv_while {t : M Bool} {b : S} {QS : Fl → Rho → Prop} (I : Nat → Rho → Prop) (step : ∀ n ρ, I n ρ → Ev t ρ fun v ρ1 => Brn v (Sv b ρ1 fun fl ρ2 => match fl with
      | .nx => ∃ m, m < n ∧ I m ρ2
      | .ct => ∃ m, m < n ∧ I m ρ2
      | .bk => QS .nx ρ2
      | .rt v => QS (.rt v) ρ2) (QS .nx ρ1)) : ∀ n ρ, I n ρ → Sv (sWhile t b) ρ QS := by
  have key : ∀ (k n : Nat), n ≤ k → ∀ ρ, I n ρ → ∃ fl ρ', wh t b (k + 1) ρ = some (fl, ρ') ∧ QS fl ρ' := by
    intro k
    induction k with
    | zero =>
      intro n hn ρ hI
      obtain ⟨v, ρ1, e1, h1, h2⟩ := step n ρ hI
      unfold wh
      rw [e1]
      cases v with
      | false => exact ⟨.nx, ρ1, rfl, h2 rfl⟩
      | true =>
        obtain ⟨fl, ρ2, e2, h⟩ := h1 rfl
        simp only [Option.bind_some, if_true, e2]
        cases fl with
        | nx => obtain ⟨m, hm, _⟩ := h; omega
        | ct => obtain ⟨m, hm, _⟩ := h; omega
        | bk => exact ⟨_, _, rfl, h⟩
        | rt v => exact ⟨_, _, rfl, h⟩
    | succ k ih =>
      intro n hn ρ hI
      obtain ⟨v, ρ1, e1, h1, h2⟩ := step n ρ hI
      unfold wh
      rw [e1]
      cases v with
      | false => exact ⟨.nx, ρ1, rfl, h2 rfl⟩
      | true =>
        obtain ⟨fl, ρ2, e2, h⟩ := h1 rfl
        simp only [Option.bind_some, if_true, e2]
        cases fl with
        | nx => obtain ⟨m, hm, hI⟩ := h; exact ih m (by omega) ρ2 hI
        | ct => obtain ⟨m, hm, hI⟩ := h; exact ih m (by omega) ρ2 hI
        | bk => exact ⟨_, _, rfl, h⟩
        | rt v => exact ⟨_, _, rfl, h⟩
  intro n ρ hI
  obtain ⟨fl, ρ', e, q⟩ := key n n (Nat.le_refl n) ρ hI
  exact ⟨fl, ρ', sWhile_of e, q⟩
/-- a statement ahead of others: what it leaves, by itself -/
theorem sv_then {ρ : Rho} {s s' : S} {QS : Fl → Rho → Prop} (R : Rho → Prop) (h : Sv s ρ fun fl ρ1 => match fl with
      | .nx => R ρ1
      | fl => QS fl ρ1) (q : ∀ ρ1, R ρ1 → Sv s' ρ1 QS) : Sv (sSeq s s') ρ QS := by
  obtain ⟨fl, ρ1, e, h⟩ := h
  refine sv_seq ⟨fl, ρ1, e, ?_⟩
  cases fl with
  | nx => exact q ρ1 h
  | bk => exact h
  | ct => exact h
  | rt v => exact h
/-! ### the draws -/
theorem fv_next {xs : List D} {m : Int} {Q : Vl → List (List D) → Prop} (h : Drw xs) (hm : 0 < m) (q : ∀ r ys, 0 ≤ r → r < m → Drw ys → Q (.fz (.int r)) [ys]) : Fv lawNext [.li xs, .da (.int m)] Q := by
  obtain ⟨r, ys, e, h1, h2, h3⟩ := next_ok h hm
  exact ⟨_, _, e, q r ys h1 h2 h3⟩
theorem fv_draw {ns : List Int} {Q : Vl → List (List D) → Prop} (h : ns.length ≤ 63) (q : ∀ xs, Drw xs → Q (.fr xs) []) : Fv lawDraw [.da (.scr ns)] Q := by
  obtain ⟨xs, e, h⟩ := draw_ok h
  exact ⟨_, _, e, q xs h⟩
theorem fv_signs {Q : Vl → List (List D) → Prop} (q : Q (.fz (.str SGN)) []) : Fv lawSigns [] Q := ⟨_, _, signs_ok, q⟩
/-- an operation that wants a side -/
theorem giv_if {p : Prop} [Decidable p] {z : D} {Q : D → Prop} (h : p) (q : Q z) : Giv (if p then some z else none) Q := ⟨z, if_pos h, q⟩
theorem giv_mod {i j : Int} {Q : D → Prop} (h : 0 < j) (q : Q (.int (i % j))) : Giv (fMod (.int i) (.int j)) Q := ⟨_, by rw [r_mod, if_pos h], q⟩
theorem giv_div {i j : Int} {Q : D → Prop} (h : 0 < j ∧ j < 1073741824) (q : Q (.int (i / j))) : Giv (fDiv (.int i) (.int j)) Q := ⟨_, by rw [r_div, if_pos h], q⟩
theorem giv_mul {i j : Int} {Q : D → Prop} (h : cMul i j = true) (q : Q (.int (i * j))) : Giv (fMul (.int i) (.int j)) Q := ⟨_, by rw [r_mul, if_pos h], q⟩
theorem giv_muls {c : Nat} {n : Int} {Q : D → Prop} (h : -1000000 ≤ n ∧ n ≤ 1000000) (q : Q (.str (List.replicate n.toNat c))) : Giv (fMul (.str [c]) (.int n)) Q := ⟨_, by rw [r_muls, if_pos h], q⟩
theorem giv_adds {i j : List Nat} {Q : D → Prop} (h : i.length + j.length ≤ lim) (q : Q (.str (i ++ j))) : Giv (fAdd (.str i) (.str j)) Q := ⟨_, by rw [r_add2, if_pos h], q⟩
theorem giv_addl {i j : List D} {Q : D → Prop} (h : i.length + j.length ≤ lim) (q : Q (.lst (i ++ j))) : Giv (fAdd (.lst i) (.lst j)) Q := ⟨_, by rw [r_add3, if_pos h], q⟩
theorem giv_ixl {xs : List D} {i : Int} {z : D} {Q : D → Prop} (h : atI xs i = some z) (q : Q z) : Giv (fIx (.lst xs) (.int i)) Q := ⟨_, by rw [r_ixl, h], q⟩
theorem giv_ixt {xs : List D} {i : Int} {z : D} {Q : D → Prop} (h : atI xs i = some z) (q : Q z) : Giv (fIx (.tup xs) (.int i)) Q := ⟨_, by rw [r_ixt, h], q⟩
theorem giv_ixs {xs : List Nat} {i : Int} {c : Nat} {Q : D → Prop} (hl : xs.length ≤ lim) (h : atI xs i = some c) (q : Q (.str [c])) : Giv (fIx (.str xs) (.int i)) Q := ⟨_, by rw [r_ixs, if_pos hl, h]; rfl, q⟩
theorem giv_sls {xs : List Nat} {l u : Option Int} {Q : D → Prop} (hl : xs.length ≤ lim) (q : Q (.str (cutL xs l u))) : Giv (fSl (.str xs) l u) Q := ⟨_, by rw [r_sls, if_pos hl], q⟩
theorem giv_sll {xs : List D} {l u : Option Int} {Q : D → Prop} (q : Q (.lst (cutL xs l u))) : Giv (fSl (.lst xs) l u) Q := ⟨_, rfl, q⟩
theorem giv_lens {xs : List Nat} {Q : D → Prop} (hl : xs.length ≤ lim) (q : Q (.int xs.length)) : Giv (cLen [.str xs]) Q := ⟨_, by rw [r_len1, if_pos hl], q⟩
theorem giv_revs {xs : List Nat} {Q : D → Prop} (hl : xs.length ≤ lim) (q : Q (.str xs.reverse)) : Giv (fRev (.str xs)) Q := ⟨_, by rw [r_rev2, if_pos hl], q⟩
theorem giv_isi {T : String} {x : D} {b : Bool} {Q : D → Prop} (h : fIsi T x = some (.bl b)) (q : Q (.bl b)) : Giv (fIsi T x) Q := ⟨_, h, q⟩

theorem ret_z {x : D} {ρ : Rho} {P : Vl → Prop} (h : P (.fz x)) : Ret (.fz x) ρ P := h
theorem ret_r {x : List D} {ρ : Rho} {P : Vl → Prop} (h : P (.fr x)) : Ret (.fr x) ρ P := h
theorem ret_b {i : Nat} {xs : List D} {ρ : Rho} {P : Vl → Prop} (e : ρ[i]? = some (.ow xs)) (h : P (.fr xs)) : Ret (.bw i) ρ P := ⟨xs, e, h⟩
theorem sv_asgT_l {m : M Vl} {g : D → Rho → Option Rho} {ρ : Rho} {QS : Fl → Rho → Prop} (h : Ev m ρ fun r ρ1 => ∃ ρ2, (match r with
    | .fz x => g x ρ1
    | _ => none) = some ρ2 ∧ QS .nx ρ2) : Sv (sAsgT m g) ρ QS := by
  obtain ⟨r, ρ1, e1, ρ2, e2, q⟩ := h
  refine ⟨.nx, ρ2, ?_, q⟩
  show (m ρ).bind _ = _
  rw [e1]
  cases r with
  | fz x => simp only [Option.bind_some]; rw [show g x ρ1 = some ρ2 from e2]; rfl
  | fr x => cases e2
  | bw i => cases e2
theorem sv_asgT_s {m : M Vl} {g : D → Rho → Option Rho} {s : S} {ρ : Rho} {QS : Fl → Rho → Prop} (h : Ev m ρ fun r ρ1 => ∃ ρ2, (match r with
    | .fz x => g x ρ1
    | _ => none) = some ρ2 ∧ Sv s ρ2 QS) : Sv (sSeq (sAsgT m g) s) ρ QS := sv_seq (sv_asgT_l h)
theorem ex_asgT {g : Rho → Option Rho} {P : Rho → Prop} {ρ ρ2 : Rho} (h : g ρ = some ρ2) (q : P ρ2) : ∃ ρ2, g ρ = some ρ2 ∧ P ρ2 := ⟨_, h, q⟩
theorem nodup1 {α : Type} {a : α} : [a].Nodup := by simp
theorem nbw_z {x : D} {P : Prop} (h : P) : noBw (.fz x) ∧ P := ⟨trivial, h⟩
theorem nbw_r {x : List D} {P : Prop} (h : P) : noBw (.fr x) ∧ P := ⟨trivial, h⟩
structure Wr (R : Prop) : Prop where
  out : R
/-- laying out the slots anew -/
theorem nrm {R P : Prop} (q : R) (h : Wr R → P := by
    intro k
    try dsimp only [puts, put, agI, outsOf, slOf, List.map, List.set_cons_zero, List.set_cons_succ, List.getElem?_cons_zero, List.getElem?_cons_succ, wipeR, backR, Option.getD_some, List.replicate, List.cons_append, List.nil_append, List.append_eq, List.append_nil, Nat.reduceSub, FEnd, Ret, noBw, stl]
    exact k.out) : P := h ⟨q⟩
/-- one step at the head -/
theorem go1 {R P : Prop} (q : R) (h : Wr R → P := by
    intro k
    (first
    | with_reducible refine ev_c ?_
    | ((with_reducible refine' ev_vd ?s0 ?_); (case s0 => (rfl)))
    | ((with_reducible refine' ev_vo ?s0 ?_); (case s0 => (rfl)))
    | ((with_reducible refine' ev_vi ?s0 ?_); (case s0 => (rfl)))
    | with_reducible refine ev_bin ?_
    | with_reducible refine ev_un ?_
    | with_reducible refine ev_anil ?_
    | with_reducible refine ev_acons ?_
    | with_reducible refine ev_blt ?_
    | with_reducible refine ev_met ?_
    | with_reducible refine ev_ono ?_
    | with_reducible refine ev_osome ?_
    | with_reducible refine ev_sl ?_
    | with_reducible refine ev_tup ?_
    | with_reducible refine ev_lst ?_
    | with_reducible refine ev_tE ?_
    | with_reducible refine ev_tyes ?_
    | with_reducible refine ev_tAnd ?_
    | with_reducible refine ev_tOr ?_
    | with_reducible refine ev_tNot ?_
    | with_reducible refine ev_eAnd ?_
    | with_reducible refine ev_eOr ?_
    | with_reducible refine ev_eNot ?_
    | with_reducible refine ev_eIf ?_
    | with_reducible refine ev_chain ?_
    | with_reducible refine ev_call ?_
    | with_reducible refine sv_asg_s ?_
    | with_reducible refine sv_nx_s ?_
    | with_reducible refine sv_if_s ?_
    | with_reducible refine sv_ret_s ?_
    | with_reducible refine sv_seq_s ?_
    | with_reducible refine sv_drop_s ?_
    | ((with_reducible refine' sv_app_s ?s0 ?_); (case s0 => (rfl)))
    | ((with_reducible refine' sv_app_l ?s0 ?_); (case s0 => (rfl)))
    | with_reducible refine sv_asg_l ?_
    | with_reducible refine sv_if_l ?_
    | with_reducible refine sv_ret_l ?_
    | with_reducible refine sv_nx ?_
    | with_reducible refine sv_asgT_s ?_
    | with_reducible refine sv_asgT_l ?_
    | with_reducible refine ret_z ?_
    | with_reducible refine ret_r ?_
    | ((with_reducible refine' ret_b ?s0 ?_); (case s0 => (rfl)))
    | ((with_reducible refine' see2 ?s0 ?s1 ?_); (case s0 => (rfl)); (case s1 => (rfl)))
    | ((with_reducible refine' see1 ?s0 ?_); (case s0 => (rfl)))
    | ((with_reducible refine' sees ?s0 ?_); (case s0 => (rfl)))
    | with_reducible refine isI ?_
    | with_reducible refine isB ?_
    | with_reducible refine isBD ?_
    | with_reducible refine brn_t ?_
    | with_reducible refine brn_f ?_
    | with_reducible refine brn_nT ?_
    | with_reducible refine brn_nF ?_
    | with_reducible refine brn_nn ?_
    | ((with_reducible refine' frzs' ?s0 (And.intro ?s1 ?_)); (case s0 => rfl); (case s1 => (first | decide | simp)); (try dsimp only [puts, put, agI, outsOf, slOf, List.set_cons_zero, List.set_cons_succ, List.getElem?_cons_zero, List.getElem?_cons_succ, wipeR, backR, Option.getD_some, stl]))
    | ((with_reducible refine' arg ?s0 ?s1 ?s2 ?_); (case s0 => (rfl)); (case s1 => (rfl)); (case s2 => (first | exact List.nodup_nil | exact nodup1 | simp [agI])); (try dsimp only [puts, put, agI, outsOf, slOf, List.set_cons_zero, List.set_cons_succ, List.getElem?_cons_zero, List.getElem?_cons_succ, wipeR, backR, Option.getD_some, stl]))
    | ((with_reducible refine' ex_asg ?s0 ?_); (case s0 => (first | rfl | assumption)); (try dsimp only [puts, put, agI, outsOf, slOf, List.set_cons_zero, List.set_cons_succ, List.getElem?_cons_zero, List.getElem?_cons_succ, wipeR, backR, Option.getD_some, stl]))
    | ((with_reducible refine' ex_asg' ?s0 ?_); (case s0 => (first | rfl | assumption)); (try dsimp only [puts, put, agI, outsOf, slOf, List.set_cons_zero, List.set_cons_succ, List.getElem?_cons_zero, List.getElem?_cons_succ, wipeR, backR, Option.getD_some, stl]))
    | ((with_reducible refine' ex_asg'' ?s0 ?_); (case s0 => (rfl)); (try dsimp only [puts, put, agI, outsOf, slOf, List.set_cons_zero, List.set_cons_succ, List.getElem?_cons_zero, List.getElem?_cons_succ, wipeR, backR, Option.getD_some, stl]))
    | ((with_reducible refine' ex_asgT ?s0 ?_); (case s0 => (rfl)); (try dsimp only [puts, put, agI, outsOf, slOf, List.set_cons_zero, List.set_cons_succ, List.getElem?_cons_zero, List.getElem?_cons_succ, wipeR, backR, Option.getD_some, stl]))
    | ((with_reducible refine' nbw_z ?_); (try dsimp only [puts, put, agI, outsOf, slOf, List.set_cons_zero, List.set_cons_succ, List.getElem?_cons_zero, List.getElem?_cons_succ, wipeR, backR, Option.getD_some, stl]))
    | ((with_reducible refine' nbw_r ?_); (try dsimp only [puts, put, agI, outsOf, slOf, List.set_cons_zero, List.set_cons_succ, List.getElem?_cons_zero, List.getElem?_cons_succ, wipeR, backR, Option.getD_some, stl]))
    | ((with_reducible refine' giv_mod ?s0 ?_); (case s0 => (first | assumption | decide | omega | (show _ ≤ 16777216; omega) | (show _ < 16777216; omega) | (simp only [List.length_append, List.length_cons, List.length_nil, List.length_replicate]; show _ ≤ 16777216; omega))))
    | ((with_reducible refine' giv_div ?s0 ?_); (case s0 => (first | assumption | decide | omega | (show _ ≤ 16777216; omega) | (show _ < 16777216; omega) | (simp only [List.length_append, List.length_cons, List.length_nil, List.length_replicate]; show _ ≤ 16777216; omega))))
    | ((with_reducible refine' giv_mul ?s0 ?_); (case s0 => (first | assumption | exact cMul_r (by decide) | exact cMul_r (by omega))))
    | ((with_reducible refine' giv_muls ?s0 ?_); (case s0 => (first | assumption | decide | omega | (show _ ≤ 16777216; omega) | (show _ < 16777216; omega) | (simp only [List.length_append, List.length_cons, List.length_nil, List.length_replicate]; show _ ≤ 16777216; omega))))
    | ((with_reducible refine' giv_adds ?s0 ?_); (case s0 => (first | assumption | decide | omega | (show _ ≤ 16777216; omega) | (show _ < 16777216; omega) | (simp only [List.length_append, List.length_cons, List.length_nil, List.length_replicate]; show _ ≤ 16777216; omega))))
    | ((with_reducible refine' giv_addl ?s0 ?_); (case s0 => (first | assumption | decide | omega | (show _ ≤ 16777216; omega) | (show _ < 16777216; omega) | (simp only [List.length_append, List.length_cons, List.length_nil, List.length_replicate]; show _ ≤ 16777216; omega))))
    | ((with_reducible refine' giv_ixl ?s0 ?_); (case s0 => (first | assumption | rfl)))
    | ((with_reducible refine' giv_ixt ?s0 ?_); (case s0 => (first | assumption | rfl)))
    | ((with_reducible refine' giv_ixs ?s0 ?s1 ?_); (case s0 => (first | assumption | decide | omega | (show _ ≤ 16777216; omega) | (show _ < 16777216; omega) | (simp only [List.length_append, List.length_cons, List.length_nil, List.length_replicate]; show _ ≤ 16777216; omega))); (case s1 => (first | assumption | rfl)))
    | ((with_reducible refine' giv_sls ?s0 ?_); (case s0 => (first | assumption | decide | omega | (show _ ≤ 16777216; omega) | (show _ < 16777216; omega) | (simp only [List.length_append, List.length_cons, List.length_nil, List.length_replicate]; show _ ≤ 16777216; omega))))
    | with_reducible refine giv_sll ?_
    | ((with_reducible refine' giv_lens ?s0 ?_); (case s0 => (first | assumption | decide | omega | (show _ ≤ 16777216; omega) | (show _ < 16777216; omega) | (simp only [List.length_append, List.length_cons, List.length_nil, List.length_replicate]; show _ ≤ 16777216; omega))))
    | ((with_reducible refine' giv_revs ?s0 ?_); (case s0 => (first | assumption | decide | omega | (show _ ≤ 16777216; omega) | (show _ < 16777216; omega) | (simp only [List.length_append, List.length_cons, List.length_nil, List.length_replicate]; show _ ≤ 16777216; omega))))
    | with_reducible refine giv r_add1 ?_
    | with_reducible refine giv r_sub ?_
    | with_reducible refine giv r_lt ?_
    | with_reducible refine giv r_lts ?_
    | with_reducible refine giv r_le ?_
    | with_reducible refine giv r_gt ?_
    | with_reducible refine giv r_ge ?_
    | with_reducible refine giv r_eqi ?_
    | with_reducible refine giv r_eqs ?_
    | with_reducible refine giv r_eqb ?_
    | with_reducible refine giv r_nei ?_
    | with_reducible refine giv r_nes ?_
    | with_reducible refine giv r_neb ?_
    | with_reducible refine giv r_isb ?_
    | with_reducible refine giv r_ntb ?_
    | with_reducible refine giv r_ins ?_
    | with_reducible refine giv r_nis ?_
    | with_reducible refine giv r_neg ?_
    | with_reducible refine giv r_len2 ?_
    | with_reducible refine giv r_len3 ?_
    | with_reducible refine giv r_int1 ?_
    | with_reducible refine giv r_fFind ?_
    | with_reducible refine giv r_rev1 ?_
    | with_reducible refine giv r_fIsi1 ?_
    | with_reducible refine giv r_fIsi2 ?_
    | with_reducible refine giv r_fIsi3 ?_
    | with_reducible refine giv r_fIsi4 ?_
    | with_reducible refine giv r_fIsi5 ?_
    | with_reducible refine giv r_fIsi6 ?_)
    exact k.out) : P := h ⟨q⟩
/-- steps at the head as far as they go -/
theorem go {R P : Prop} (q : R) (h : Wr R → P := by
    intro k
    repeat (first
    | with_reducible refine ev_c ?_
    | ((with_reducible refine' ev_vd ?s0 ?_); (case s0 => (rfl)))
    | ((with_reducible refine' ev_vo ?s0 ?_); (case s0 => (rfl)))
    | ((with_reducible refine' ev_vi ?s0 ?_); (case s0 => (rfl)))
    | with_reducible refine ev_bin ?_
    | with_reducible refine ev_un ?_
    | with_reducible refine ev_anil ?_
    | with_reducible refine ev_acons ?_
    | with_reducible refine ev_blt ?_
    | with_reducible refine ev_met ?_
    | with_reducible refine ev_ono ?_
    | with_reducible refine ev_osome ?_
    | with_reducible refine ev_sl ?_
    | with_reducible refine ev_tup ?_
    | with_reducible refine ev_lst ?_
    | with_reducible refine ev_tE ?_
    | with_reducible refine ev_tyes ?_
    | with_reducible refine ev_tAnd ?_
    | with_reducible refine ev_tOr ?_
    | with_reducible refine ev_tNot ?_
    | with_reducible refine ev_eAnd ?_
    | with_reducible refine ev_eOr ?_
    | with_reducible refine ev_eNot ?_
    | with_reducible refine ev_eIf ?_
    | with_reducible refine ev_chain ?_
    | with_reducible refine ev_call ?_
    | with_reducible refine sv_asg_s ?_
    | with_reducible refine sv_nx_s ?_
    | with_reducible refine sv_if_s ?_
    | with_reducible refine sv_ret_s ?_
    | with_reducible refine sv_seq_s ?_
    | with_reducible refine sv_drop_s ?_
    | ((with_reducible refine' sv_app_s ?s0 ?_); (case s0 => (rfl)))
    | ((with_reducible refine' sv_app_l ?s0 ?_); (case s0 => (rfl)))
    | with_reducible refine sv_asg_l ?_
    | with_reducible refine sv_if_l ?_
    | with_reducible refine sv_ret_l ?_
    | with_reducible refine sv_nx ?_
    | with_reducible refine sv_asgT_s ?_
    | with_reducible refine sv_asgT_l ?_
    | with_reducible refine ret_z ?_
    | with_reducible refine ret_r ?_
    | ((with_reducible refine' ret_b ?s0 ?_); (case s0 => (rfl)))
    | ((with_reducible refine' see2 ?s0 ?s1 ?_); (case s0 => (rfl)); (case s1 => (rfl)))
    | ((with_reducible refine' see1 ?s0 ?_); (case s0 => (rfl)))
    | ((with_reducible refine' sees ?s0 ?_); (case s0 => (rfl)))
    | with_reducible refine isI ?_
    | with_reducible refine isB ?_
    | with_reducible refine isBD ?_
    | with_reducible refine brn_t ?_
    | with_reducible refine brn_f ?_
    | with_reducible refine brn_nT ?_
    | with_reducible refine brn_nF ?_
    | with_reducible refine brn_nn ?_
    | ((with_reducible refine' frzs' ?s0 (And.intro ?s1 ?_)); (case s0 => rfl); (case s1 => (first | decide | simp)); (try dsimp only [puts, put, agI, outsOf, slOf, List.set_cons_zero, List.set_cons_succ, List.getElem?_cons_zero, List.getElem?_cons_succ, wipeR, backR, Option.getD_some, stl]))
    | ((with_reducible refine' arg ?s0 ?s1 ?s2 ?_); (case s0 => (rfl)); (case s1 => (rfl)); (case s2 => (first | exact List.nodup_nil | exact nodup1 | simp [agI])); (try dsimp only [puts, put, agI, outsOf, slOf, List.set_cons_zero, List.set_cons_succ, List.getElem?_cons_zero, List.getElem?_cons_succ, wipeR, backR, Option.getD_some, stl]))
    | ((with_reducible refine' ex_asg ?s0 ?_); (case s0 => (first | rfl | assumption)); (try dsimp only [puts, put, agI, outsOf, slOf, List.set_cons_zero, List.set_cons_succ, List.getElem?_cons_zero, List.getElem?_cons_succ, wipeR, backR, Option.getD_some, stl]))
    | ((with_reducible refine' ex_asg' ?s0 ?_); (case s0 => (first | rfl | assumption)); (try dsimp only [puts, put, agI, outsOf, slOf, List.set_cons_zero, List.set_cons_succ, List.getElem?_cons_zero, List.getElem?_cons_succ, wipeR, backR, Option.getD_some, stl]))
    | ((with_reducible refine' ex_asg'' ?s0 ?_); (case s0 => (rfl)); (try dsimp only [puts, put, agI, outsOf, slOf, List.set_cons_zero, List.set_cons_succ, List.getElem?_cons_zero, List.getElem?_cons_succ, wipeR, backR, Option.getD_some, stl]))
    | ((with_reducible refine' ex_asgT ?s0 ?_); (case s0 => (rfl)); (try dsimp only [puts, put, agI, outsOf, slOf, List.set_cons_zero, List.set_cons_succ, List.getElem?_cons_zero, List.getElem?_cons_succ, wipeR, backR, Option.getD_some, stl]))
    | ((with_reducible refine' nbw_z ?_); (try dsimp only [puts, put, agI, outsOf, slOf, List.set_cons_zero, List.set_cons_succ, List.getElem?_cons_zero, List.getElem?_cons_succ, wipeR, backR, Option.getD_some, stl]))
    | ((with_reducible refine' nbw_r ?_); (try dsimp only [puts, put, agI, outsOf, slOf, List.set_cons_zero, List.set_cons_succ, List.getElem?_cons_zero, List.getElem?_cons_succ, wipeR, backR, Option.getD_some, stl]))
    | ((with_reducible refine' giv_mod ?s0 ?_); (case s0 => (first | assumption | decide | omega | (show _ ≤ 16777216; omega) | (show _ < 16777216; omega) | (simp only [List.length_append, List.length_cons, List.length_nil, List.length_replicate]; show _ ≤ 16777216; omega))))
    | ((with_reducible refine' giv_div ?s0 ?_); (case s0 => (first | assumption | decide | omega | (show _ ≤ 16777216; omega) | (show _ < 16777216; omega) | (simp only [List.length_append, List.length_cons, List.length_nil, List.length_replicate]; show _ ≤ 16777216; omega))))
    | ((with_reducible refine' giv_mul ?s0 ?_); (case s0 => (first | assumption | exact cMul_r (by decide) | exact cMul_r (by omega))))
    | ((with_reducible refine' giv_muls ?s0 ?_); (case s0 => (first | assumption | decide | omega | (show _ ≤ 16777216; omega) | (show _ < 16777216; omega) | (simp only [List.length_append, List.length_cons, List.length_nil, List.length_replicate]; show _ ≤ 16777216; omega))))
    | ((with_reducible refine' giv_adds ?s0 ?_); (case s0 => (first | assumption | decide | omega | (show _ ≤ 16777216; omega) | (show _ < 16777216; omega) | (simp only [List.length_append, List.length_cons, List.length_nil, List.length_replicate]; show _ ≤ 16777216; omega))))
    | ((with_reducible refine' giv_addl ?s0 ?_); (case s0 => (first | assumption | decide | omega | (show _ ≤ 16777216; omega) | (show _ < 16777216; omega) | (simp only [List.length_append, List.length_cons, List.length_nil, List.length_replicate]; show _ ≤ 16777216; omega))))
    | ((with_reducible refine' giv_ixl ?s0 ?_); (case s0 => (first | assumption | rfl)))
    | ((with_reducible refine' giv_ixt ?s0 ?_); (case s0 => (first | assumption | rfl)))
    | ((with_reducible refine' giv_ixs ?s0 ?s1 ?_); (case s0 => (first | assumption | decide | omega | (show _ ≤ 16777216; omega) | (show _ < 16777216; omega) | (simp only [List.length_append, List.length_cons, List.length_nil, List.length_replicate]; show _ ≤ 16777216; omega))); (case s1 => (first | assumption | rfl)))
    | ((with_reducible refine' giv_sls ?s0 ?_); (case s0 => (first | assumption | decide | omega | (show _ ≤ 16777216; omega) | (show _ < 16777216; omega) | (simp only [List.length_append, List.length_cons, List.length_nil, List.length_replicate]; show _ ≤ 16777216; omega))))
    | with_reducible refine giv_sll ?_
    | ((with_reducible refine' giv_lens ?s0 ?_); (case s0 => (first | assumption | decide | omega | (show _ ≤ 16777216; omega) | (show _ < 16777216; omega) | (simp only [List.length_append, List.length_cons, List.length_nil, List.length_replicate]; show _ ≤ 16777216; omega))))
    | ((with_reducible refine' giv_revs ?s0 ?_); (case s0 => (first | assumption | decide | omega | (show _ ≤ 16777216; omega) | (show _ < 16777216; omega) | (simp only [List.length_append, List.length_cons, List.length_nil, List.length_replicate]; show _ ≤ 16777216; omega))))
    | with_reducible refine giv r_add1 ?_
    | with_reducible refine giv r_sub ?_
    | with_reducible refine giv r_lt ?_
    | with_reducible refine giv r_lts ?_
    | with_reducible refine giv r_le ?_
    | with_reducible refine giv r_gt ?_
    | with_reducible refine giv r_ge ?_
    | with_reducible refine giv r_eqi ?_
    | with_reducible refine giv r_eqs ?_
    | with_reducible refine giv r_eqb ?_
    | with_reducible refine giv r_nei ?_
    | with_reducible refine giv r_nes ?_
    | with_reducible refine giv r_neb ?_
    | with_reducible refine giv r_isb ?_
    | with_reducible refine giv r_ntb ?_
    | with_reducible refine giv r_ins ?_
    | with_reducible refine giv r_nis ?_
    | with_reducible refine giv r_neg ?_
    | with_reducible refine giv r_len2 ?_
    | with_reducible refine giv r_len3 ?_
    | with_reducible refine giv r_int1 ?_
    | with_reducible refine giv r_fFind ?_
    | with_reducible refine giv r_rev1 ?_
    | with_reducible refine giv r_fIsi1 ?_
    | with_reducible refine giv r_fIsi2 ?_
    | with_reducible refine giv r_fIsi3 ?_
    | with_reducible refine giv r_fIsi4 ?_
    | with_reducible refine giv r_fIsi5 ?_
    | with_reducible refine giv r_fIsi6 ?_)
    exact k.out) : P := h ⟨q⟩
/-- the same, but not into an if with statements behind it -/
theorem goS {R P : Prop} (q : R) (h : Wr R → P := by
    intro k
    repeat (first
    | with_reducible refine ev_c ?_
    | ((with_reducible refine' ev_vd ?s0 ?_); (case s0 => (rfl)))
    | ((with_reducible refine' ev_vo ?s0 ?_); (case s0 => (rfl)))
    | ((with_reducible refine' ev_vi ?s0 ?_); (case s0 => (rfl)))
    | with_reducible refine ev_bin ?_
    | with_reducible refine ev_un ?_
    | with_reducible refine ev_anil ?_
    | with_reducible refine ev_acons ?_
    | with_reducible refine ev_blt ?_
    | with_reducible refine ev_met ?_
    | with_reducible refine ev_ono ?_
    | with_reducible refine ev_osome ?_
    | with_reducible refine ev_sl ?_
    | with_reducible refine ev_tup ?_
    | with_reducible refine ev_lst ?_
    | with_reducible refine ev_tE ?_
    | with_reducible refine ev_tyes ?_
    | with_reducible refine ev_tAnd ?_
    | with_reducible refine ev_tOr ?_
    | with_reducible refine ev_tNot ?_
    | with_reducible refine ev_eAnd ?_
    | with_reducible refine ev_eOr ?_
    | with_reducible refine ev_eNot ?_
    | with_reducible refine ev_eIf ?_
    | with_reducible refine ev_chain ?_
    | with_reducible refine ev_call ?_
    | with_reducible refine sv_asg_s ?_
    | with_reducible refine sv_nx_s ?_
    | with_reducible refine sv_ret_s ?_
    | with_reducible refine sv_seq_s ?_
    | with_reducible refine sv_drop_s ?_
    | ((with_reducible refine' sv_app_s ?s0 ?_); (case s0 => (rfl)))
    | ((with_reducible refine' sv_app_l ?s0 ?_); (case s0 => (rfl)))
    | with_reducible refine sv_asg_l ?_
    | with_reducible refine sv_if_l ?_
    | with_reducible refine sv_ret_l ?_
    | with_reducible refine sv_nx ?_
    | with_reducible refine sv_asgT_s ?_
    | with_reducible refine sv_asgT_l ?_
    | with_reducible refine ret_z ?_
    | with_reducible refine ret_r ?_
    | ((with_reducible refine' ret_b ?s0 ?_); (case s0 => (rfl)))
    | ((with_reducible refine' see2 ?s0 ?s1 ?_); (case s0 => (rfl)); (case s1 => (rfl)))
    | ((with_reducible refine' see1 ?s0 ?_); (case s0 => (rfl)))
    | ((with_reducible refine' sees ?s0 ?_); (case s0 => (rfl)))
    | with_reducible refine isI ?_
    | with_reducible refine isB ?_
    | with_reducible refine isBD ?_
    | with_reducible refine brn_t ?_
    | with_reducible refine brn_f ?_
    | with_reducible refine brn_nT ?_
    | with_reducible refine brn_nF ?_
    | with_reducible refine brn_nn ?_
    | ((with_reducible refine' frzs' ?s0 (And.intro ?s1 ?_)); (case s0 => rfl); (case s1 => (first | decide | simp)); (try dsimp only [puts, put, agI, outsOf, slOf, List.set_cons_zero, List.set_cons_succ, List.getElem?_cons_zero, List.getElem?_cons_succ, wipeR, backR, Option.getD_some, stl]))
    | ((with_reducible refine' arg ?s0 ?s1 ?s2 ?_); (case s0 => (rfl)); (case s1 => (rfl)); (case s2 => (first | exact List.nodup_nil | exact nodup1 | simp [agI])); (try dsimp only [puts, put, agI, outsOf, slOf, List.set_cons_zero, List.set_cons_succ, List.getElem?_cons_zero, List.getElem?_cons_succ, wipeR, backR, Option.getD_some, stl]))
    | ((with_reducible refine' ex_asg ?s0 ?_); (case s0 => (first | rfl | assumption)); (try dsimp only [puts, put, agI, outsOf, slOf, List.set_cons_zero, List.set_cons_succ, List.getElem?_cons_zero, List.getElem?_cons_succ, wipeR, backR, Option.getD_some, stl]))
    | ((with_reducible refine' ex_asg' ?s0 ?_); (case s0 => (first | rfl | assumption)); (try dsimp only [puts, put, agI, outsOf, slOf, List.set_cons_zero, List.set_cons_succ, List.getElem?_cons_zero, List.getElem?_cons_succ, wipeR, backR, Option.getD_some, stl]))
    | ((with_reducible refine' ex_asg'' ?s0 ?_); (case s0 => (rfl)); (try dsimp only [puts, put, agI, outsOf, slOf, List.set_cons_zero, List.set_cons_succ, List.getElem?_cons_zero, List.getElem?_cons_succ, wipeR, backR, Option.getD_some, stl]))
    | ((with_reducible refine' ex_asgT ?s0 ?_); (case s0 => (rfl)); (try dsimp only [puts, put, agI, outsOf, slOf, List.set_cons_zero, List.set_cons_succ, List.getElem?_cons_zero, List.getElem?_cons_succ, wipeR, backR, Option.getD_some, stl]))
    | ((with_reducible refine' nbw_z ?_); (try dsimp only [puts, put, agI, outsOf, slOf, List.set_cons_zero, List.set_cons_succ, List.getElem?_cons_zero, List.getElem?_cons_succ, wipeR, backR, Option.getD_some, stl]))
    | ((with_reducible refine' nbw_r ?_); (try dsimp only [puts, put, agI, outsOf, slOf, List.set_cons_zero, List.set_cons_succ, List.getElem?_cons_zero, List.getElem?_cons_succ, wipeR, backR, Option.getD_some, stl]))
    | ((with_reducible refine' giv_mod ?s0 ?_); (case s0 => (first | assumption | decide | omega | (show _ ≤ 16777216; omega) | (show _ < 16777216; omega) | (simp only [List.length_append, List.length_cons, List.length_nil, List.length_replicate]; show _ ≤ 16777216; omega))))
    | ((with_reducible refine' giv_div ?s0 ?_); (case s0 => (first | assumption | decide | omega | (show _ ≤ 16777216; omega) | (show _ < 16777216; omega) | (simp only [List.length_append, List.length_cons, List.length_nil, List.length_replicate]; show _ ≤ 16777216; omega))))
    | ((with_reducible refine' giv_mul ?s0 ?_); (case s0 => (first | assumption | exact cMul_r (by decide) | exact cMul_r (by omega))))
    | ((with_reducible refine' giv_muls ?s0 ?_); (case s0 => (first | assumption | decide | omega | (show _ ≤ 16777216; omega) | (show _ < 16777216; omega) | (simp only [List.length_append, List.length_cons, List.length_nil, List.length_replicate]; show _ ≤ 16777216; omega))))
    | ((with_reducible refine' giv_adds ?s0 ?_); (case s0 => (first | assumption | decide | omega | (show _ ≤ 16777216; omega) | (show _ < 16777216; omega) | (simp only [List.length_append, List.length_cons, List.length_nil, List.length_replicate]; show _ ≤ 16777216; omega))))
    | ((with_reducible refine' giv_addl ?s0 ?_); (case s0 => (first | assumption | decide | omega | (show _ ≤ 16777216; omega) | (show _ < 16777216; omega) | (simp only [List.length_append, List.length_cons, List.length_nil, List.length_replicate]; show _ ≤ 16777216; omega))))
    | ((with_reducible refine' giv_ixl ?s0 ?_); (case s0 => (first | assumption | rfl)))
    | ((with_reducible refine' giv_ixt ?s0 ?_); (case s0 => (first | assumption | rfl)))
    | ((with_reducible refine' giv_ixs ?s0 ?s1 ?_); (case s0 => (first | assumption | decide | omega | (show _ ≤ 16777216; omega) | (show _ < 16777216; omega) | (simp only [List.length_append, List.length_cons, List.length_nil, List.length_replicate]; show _ ≤ 16777216; omega))); (case s1 => (first | assumption | rfl)))
    | ((with_reducible refine' giv_sls ?s0 ?_); (case s0 => (first | assumption | decide | omega | (show _ ≤ 16777216; omega) | (show _ < 16777216; omega) | (simp only [List.length_append, List.length_cons, List.length_nil, List.length_replicate]; show _ ≤ 16777216; omega))))
    | with_reducible refine giv_sll ?_
    | ((with_reducible refine' giv_lens ?s0 ?_); (case s0 => (first | assumption | decide | omega | (show _ ≤ 16777216; omega) | (show _ < 16777216; omega) | (simp only [List.length_append, List.length_cons, List.length_nil, List.length_replicate]; show _ ≤ 16777216; omega))))
    | ((with_reducible refine' giv_revs ?s0 ?_); (case s0 => (first | assumption | decide | omega | (show _ ≤ 16777216; omega) | (show _ < 16777216; omega) | (simp only [List.length_append, List.length_cons, List.length_nil, List.length_replicate]; show _ ≤ 16777216; omega))))
    | with_reducible refine giv r_add1 ?_
    | with_reducible refine giv r_sub ?_
    | with_reducible refine giv r_lt ?_
    | with_reducible refine giv r_lts ?_
    | with_reducible refine giv r_le ?_
    | with_reducible refine giv r_gt ?_
    | with_reducible refine giv r_ge ?_
    | with_reducible refine giv r_eqi ?_
    | with_reducible refine giv r_eqs ?_
    | with_reducible refine giv r_eqb ?_
    | with_reducible refine giv r_nei ?_
    | with_reducible refine giv r_nes ?_
    | with_reducible refine giv r_neb ?_
    | with_reducible refine giv r_isb ?_
    | with_reducible refine giv r_ntb ?_
    | with_reducible refine giv r_ins ?_
    | with_reducible refine giv r_nis ?_
    | with_reducible refine giv r_neg ?_
    | with_reducible refine giv r_len2 ?_
    | with_reducible refine giv r_len3 ?_
    | with_reducible refine giv r_int1 ?_
    | with_reducible refine giv r_fFind ?_
    | with_reducible refine giv r_rev1 ?_
    | with_reducible refine giv r_fIsi1 ?_
    | with_reducible refine giv r_fIsi2 ?_
    | with_reducible refine giv r_fIsi3 ?_
    | with_reducible refine giv r_fIsi4 ?_
    | with_reducible refine giv r_fIsi5 ?_
    | with_reducible refine giv r_fIsi6 ?_)
    exact k.out) : P := h ⟨q⟩
end Sw
set_option Elab.async false
set_option linter.all false
set_option maxRecDepth 100000
set_option maxHeartbeats 4000000
/-! Sw13: str of an int, min and max of two, tuple and list of a sequence. -/
namespace Sw
open PySem PySem.Spec PyProof.Rows L2

section
variable {X : Cx} {a b c e : Expr} {ma mb mc me : M Vl} {pos p : Pos} {es : List Expr} {ms : M (List Vl)} {K : PySem.W.Frag}
/-- the decimals of an int -/
def decS (i : Int) : List Nat := (Str.ofString (toString i)).cps.toList
def cStr : List D → Option D
  | [.int i] => if -1000000000 < i ∧ i < 1000000000 then some (.str (decS i)) else none
  | _ => none
theorem cs_str : CallS K (fun xs H Q => ∃ i, xs = [.int i] ∧ i.natAbs.log2 < 1920 ∧ Q (.str (toString i)) H) cStr := by
  intro H F vs xs z s hx e Q q
  unfold cStr at e
  split at e
  · split at e
    · rename_i i hc
      cases e
      obtain ⟨v, rfl, hv⟩ := vws1 hx
      rw [vw_int hv]
      refine ⟨_, rfl, ?_, q _ H F (Alc.refl s) (rep_str _)⟩
      by_cases z : i.natAbs = 0
      · rw [z]; decide
      · exact (Nat.log2_lt z).mpr (Nat.lt_of_lt_of_le (show i.natAbs < 2 ^ 30 by omega) (Nat.pow_le_pow_right (by decide) (by decide)))
    · cases e
  · cases e
theorem se_tostr (hm : X.mg "str" = none) (hg : Gl X "str") (ha : SA X [e] ms) (he : starEach [e] X.env = (false, eval e X.env) :: starEach [] X.env := by rfl) (hpl : (backTo pos (starEach [] X.env)).any (·.1) = false := by rfl) : SE X (.Call (.Name "str" p) [e] [] pos) (eBlt cStr ms) :=
  se_ty call_str_int cs_str hg hm (by decide +kernel) ha (by decide) (by decide) he hpl
def cMin : List D → Option D
  | [.int i, .int j] => some (.int (if j < i then j else i))
  | _ => none
def cMax : List D → Option D
  | [.int i, .int j] => some (.int (if j > i then j else i))
  | _ => none
theorem cs_min : CallS K (fun xs H Q => ∃ i j, xs = [.int i, .int j] ∧ Q (.int (if j < i then j else i)) H) cMin := by
  intro H F vs xs z s hx e Q q
  unfold cMin at e
  split at e
  · cases e
    obtain ⟨v, u, rfl, hv, hu⟩ := vws2 hx
    rw [vw_int hv, vw_int hu]
    exact ⟨_, _, rfl, q _ H F (Alc.refl s) (.int _)⟩
  · cases e
theorem cs_max : CallS K (fun xs H Q => ∃ i j, xs = [.int i, .int j] ∧ Q (.int (if j > i then j else i)) H) cMax := by
  intro H F vs xs z s hx e Q q
  unfold cMax at e
  split at e
  · cases e
    obtain ⟨v, u, rfl, hv, hu⟩ := vws2 hx
    rw [vw_int hv, vw_int hu]
    exact ⟨_, _, rfl, q _ H F (Alc.refl s) (.int _)⟩
  · cases e
theorem se_min2 (hm : X.mg "min" = none) (hg : Gl X "min") (hc : X.calm = true) (ha : SA X [a, b] ms) (he : starEach [a, b] X.env = (false, eval a X.env) :: starEach [b] X.env := by rfl) (hpl : (backTo pos (starEach [b] X.env)).any (·.1) = false := by rfl) : SE X (.Call (.Name "min" p) [a, b] [] pos) (eBlt cMin ms) :=
  se_blt (call_min2 hc) cs_min hg hm (by decide +kernel) ha (by decide) (by decide) he hpl
theorem se_max2 (hm : X.mg "max" = none) (hg : Gl X "max") (hc : X.calm = true) (ha : SA X [a, b] ms) (he : starEach [a, b] X.env = (false, eval a X.env) :: starEach [b] X.env := by rfl) (hpl : (backTo pos (starEach [b] X.env)).any (·.1) = false := by rfl) : SE X (.Call (.Name "max" p) [a, b] [] pos) (eBlt cMax ms) :=
  se_blt (call_max2 hc) cs_max hg hm (by decide +kernel) ha (by decide) (by decide) he hpl
/-! ### tuple(xs) -/
def cTup : List D → Option D
  | [.lst xs] => some (.tup xs)
  | [.tup xs] => some (.tup xs)
  | _ => none
theorem cs_tup : CallS K (fun xs H Q => ∃ p ys, xs = [.ref p] ∧ ((SqL K H p ys ∧ ∀ l, H l = none → Q (.ref l) (upd H l (.tup ys))) ∨ (SqT K H p ys ∧ Q (.ref p) H))) cTup := by
  intro H F vs xs z s hx e Q q
  unfold cTup at e
  split at e
  · cases e
    obtain ⟨v, rfl, a, us, rfl, h1, h2⟩ := vws1 hx
    refine ⟨a, us, rfl, .inl ⟨SqL.of h1, fun l hl => ?_⟩⟩
    have A := Alc.new (o := HO.tup us) s hl
    exact q _ _ _ A (.tup (SqT.of upd_same) (h2.mono A.ff))
  · cases e
    obtain ⟨v, rfl, hv⟩ := vws1 hx
    cases (show Rep K F v (.tup _) from hv) with
    | @tup a us _ h1 h2 => exact ⟨a, us, rfl, .inr ⟨same_t s h1, q _ H F (Alc.refl s) (.tup h1 h2)⟩⟩
  · cases e
theorem se_totup (hm : X.mg "tuple" = none) (hg : Gl X "tuple") (ha : SA X [e] ms) (he : starEach [e] X.env = (false, eval e X.env) :: starEach [] X.env := by rfl) (hpl : (backTo pos (starEach [] X.env)).any (·.1) = false := by rfl) : SE X (.Call (.Name "tuple" p) [e] [] pos) (eBlt cTup ms) :=
  se_ty call_tuple_of cs_tup hg hm (by decide +kernel) ha (by decide) (by decide) he hpl
/-! ### list(xs) -/
def itemsQ : D → Option (List D)
  | .lst xs => some xs
  | .tup xs => some xs
  | _ => none
def eNew (m : M Vl) : M Vl := fun ρ => (m ρ).bind fun p => (look p.2 (stl p.1)).bind fun x => (itemsQ x).bind fun xs => some (.fr xs, p.2)
theorem se_tolist (hm : X.mg "list" = none) (hg : Gl X "list") (ha : SE X e me) (he : starEach [e] X.env = (false, eval e X.env) :: starEach [] X.env := by rfl) (hpl : (backTo pos (starEach [] X.env)).any (·.1) = false := by rfl) : SE X (.Call (.Name "list" p) [e] [] pos) (eNew me) := by
  refine pe_weak (pe_callTy call_list_of hg hm (by decide +kernel) (pa_cons ha pa_nil he) (by decide) (by decide) he hpl) fun σ H Q ⟨G, ρ, F, r0, ρ', W, hm, q⟩ => ?_
  unfold eNew at hm
  obtain ⟨⟨x, ρ1⟩, e1, hm⟩ := Option.bind_eq_some_iff.mp hm
  obtain ⟨dx, e3, hm⟩ := Option.bind_eq_some_iff.mp hm
  obtain ⟨xs, e5, hm⟩ := Option.bind_eq_some_iff.mp hm
  cases hm
  refine tm_use W e1 fun v H1 F1 s1 R1 => ?_
  have hv := vw_of s1.wd R1 e3
  have fin : ∀ (us : List V), Reps X.K F1 us xs → ∀ l, H1 l = none → Q (.ref l) (upd H1 l (.lst us)) := fun us r l hl => by
    have A : Alc F1 H1 F1 (upd H1 l (.lst us)) := ⟨Same.refl _, s1.wd.sub.trans (same_upd hl), same_upd hl, fun _ h => .inl h⟩
    refine q _ _ _ (s1.trans (s1.wd.alc A)) ⟨l, us, rfl, upd_same, r, s1.wd.sub.free hl, s1.back l hl, fun i o => ?_⟩
    obtain ⟨_, z, _⟩ := s1.wd.ow_there o
    rw [hl] at z; cases z
  unfold itemsQ at e5
  split at e5
  · cases e5
    obtain ⟨a, us, rfl, h1, h2⟩ := hv
    exact ⟨a, us, rfl, .inl (SqL.of h1), fin us h2⟩
  · cases e5
    cases (show Rep X.K F1 v (.tup _) from hv) with
    | @tup a us _ h1 h2 => exact ⟨a, us, rfl, .inr (same_t s1.wd.sub h1), fin us h2⟩
  · cases e5
end
end Sw
set_option Elab.async false
set_option linter.all false
set_option maxRecDepth 100000
set_option maxHeartbeats 4000000
/-! Sw14: small facts that the laws' mathematics share. -/
namespace Sw
open L2

abbrev AscL (cs : List Nat) : Prop := cs.Pairwise (· < ·)
theorem sgn_asc : AscL SGN := by decide
theorem ascl_nodup {cs : List Nat} (h : AscL cs) : cs.Nodup := List.Pairwise.imp (fun h => Nat.ne_of_lt h) h
theorem map_get {t : List Nat} {i : Nat} {x : D} (h : (t.map fun c => D.str [c])[i]? = some x) : ∃ c, t[i]? = some c ∧ x = .str [c] := by
  rw [List.getElem?_map] at h
  cases e : t[i]? with
  | none => rw [e] at h; cases h
  | some c => rw [e] at h; cases h; exact ⟨c, rfl, rfl⟩
theorem mapS_get {t : List (List Nat)} {i : Nat} {x : D} (h : (t.map D.str)[i]? = some x) : ∃ c, t[i]? = some c ∧ x = .str c := by
  rw [List.getElem?_map] at h
  cases e : t[i]? with
  | none => rw [e] at h; cases h
  | some c => rw [e] at h; cases h; exact ⟨c, rfl, rfl⟩
theorem take_s {α : Type} {t : List α} {i : Nat} {c : α} (h : t[i]? = some c) : t.take (i + 1) = t.take i ++ [c] := by rw [List.take_add_one, h]; rfl
theorem findC_in {s : List Nat} {c : Nat} (h : c ∈ s) : findC s c = (s.idxOf c : Int) := if_pos h
theorem findC_at {i : Nat} (h : i < SGN.length) : findC SGN (SGN[i]'h) = (i : Int) := by rw [findC_in (List.getElem_mem _), (ascl_nodup sgn_asc).idxOf_getElem i h]
def lastC (cs : List Nat) : Nat := cs.getD (cs.length - 1) 0
theorem lastC_app {cs : List Nat} {c : Nat} : lastC (cs ++ [c]) = c := by
  unfold lastC
  rw [List.length_append, List.getD_eq_getElem?_getD]
  simp
theorem atI_lastD {xs : List D} {x : D} : atI (xs ++ [x]) (-1) = some x := by
  unfold atI ixN
  rw [if_neg (by decide), if_pos (by rw [List.length_append, List.length_singleton]; omega)]
  show (xs ++ [x])[_]? = _
  rw [show (-1 + ((xs ++ [x]).length : Int)).toNat = xs.length by rw [List.length_append, List.length_singleton]; omega]
  simp
theorem atI_last {cs : List Nat} (hn : cs ≠ []) : atI cs (-1) = some (lastC cs) := by
  have hp : 0 < cs.length := List.length_pos_iff.mpr hn
  unfold atI ixN
  rw [if_neg (by decide), if_pos (by omega)]
  show cs[((cs.length : Int) + -1).toNat]? = _
  rw [show ((cs.length : Int) + -1).toNat = cs.length - 1 by omega, List.getElem?_eq_getElem (by omega), lastC, List.getD_eq_getElem?_getD, List.getElem?_eq_getElem (by omega)]
  rfl
theorem lastC_in {cs : List Nat} (hn : cs ≠ []) : lastC cs ∈ cs := by
  have hp : 0 < cs.length := List.length_pos_iff.mpr hn
  rw [lastC, List.getD_eq_getElem?_getD, List.getElem?_eq_getElem (by omega)]
  exact List.getElem_mem _
theorem atI_first {cs : List Nat} (hn : cs ≠ []) : atI cs 0 = some (cs.getD 0 0) := by
  have hp : 0 < cs.length := List.length_pos_iff.mpr hn
  rw [atI_int (by decide) (by omega), List.getD_eq_getElem?_getD, List.getElem?_eq_getElem hp]
  rfl
theorem cut_sub {α : Type} {t : List α} {l u : Option Int} : (cutL t l u).Sublist t := (List.take_sublist _ _).trans (List.drop_sublist _ _)
theorem cut_len {α : Type} {t : List α} {l u : Option Int} : (cutL t l u).length ≤ t.length := cut_sub.length_le
theorem sub_take {i c : Nat} {ts : List Nat} (h : ts.Sublist (SGN.take i)) (hi : SGN[i]? = some c) : (ts ++ [c]).Sublist (SGN.take (i + 1)) := by
  rw [take_s hi]
  exact h.append (List.Sublist.refl _)
theorem sub_take' {i c : Nat} {ts : List Nat} (h : ts.Sublist (SGN.take i)) (hi : SGN[i]? = some c) : ts.Sublist (SGN.take (i + 1)) := by
  rw [take_s hi]
  exact h.trans (List.sublist_append_left _ _)
theorem filter_sub : ∀ {l cs : List Nat}, cs.Sublist l → l.Nodup → l.filter (fun c => decide (c ∈ cs)) = cs
  | _, _, .slnil, _ => rfl
  | a :: l, cs, .cons _ h, nd => by
    obtain ⟨n1, n2⟩ := List.nodup_cons.mp nd
    rw [List.filter_cons, if_neg (by simpa using fun z => n1 (h.subset z))]
    exact filter_sub h n2
  | a :: l, _ :: cs, .cons_cons _ h, nd => by
    obtain ⟨n1, n2⟩ := List.nodup_cons.mp nd
    rw [List.filter_cons, if_pos (by simp)]
    congr 1
    have e : l.filter (fun c => decide (c ∈ a :: cs)) = l.filter (fun c => decide (c ∈ cs)) := List.filter_congr fun x hx => by
      have ne : x ≠ a := fun z => n1 (z ▸ hx)
      exact decide_eq_decide.mpr ⟨fun z => (List.mem_cons.mp z).resolve_left ne, List.mem_cons_of_mem _⟩
    rw [e]
    exact filter_sub h n2
section
variable {ρ : Rho} {a b : M Vl} {s : S} {QS : Fl → Rho → Prop} {i : Nat}
theorem sv_seti_l (h : Ev b ρ fun r ρ1 => ∃ z ρ2, frz ρ1 (stl r) = some (z, ρ2) ∧ (own? ρ2 i).isSome = true ∧ Ev a ρ2 fun r2 ρ3 => IsI r2 fun k => ∃ xs j, own? ρ3 i = some xs ∧ ixN xs.length k = some j ∧ QS .nx (put ρ3 i (xs.set j z))) : Sv (sSetI i a b) ρ QS := by
  obtain ⟨r, ρ1, e1, z, ρ2, e2, e3, r2, ρ3, e4, k, rfl, xs, j, e5, e6, q⟩ := h
  obtain ⟨y, ey⟩ := Option.isSome_iff_exists.mp e3
  refine ⟨.nx, _, ?_, q⟩
  show (b ρ).bind _ = _
  rw [e1]
  simp only [Option.bind_some, e2, ey, e4, e5, e6]
theorem sv_seti_s (h : Ev b ρ fun r ρ1 => ∃ z ρ2, frz ρ1 (stl r) = some (z, ρ2) ∧ (own? ρ2 i).isSome = true ∧ Ev a ρ2 fun r2 ρ3 => IsI r2 fun k => ∃ xs j, own? ρ3 i = some xs ∧ ixN xs.length k = some j ∧ Sv s (put ρ3 i (xs.set j z)) QS) : Sv (sSeq (sSetI i a b) s) ρ QS := sv_seq (sv_seti_l h)
end
theorem fv_letters {xs : List D} {Q : Vl → List (List D) → Prop} (h : Drw xs) (q : ∀ cs ys, cs.length = 3 → cs.Sublist SGN → Drw ys → Q (.fz (.str cs)) [ys]) : Fv lawLetters [.li xs] Q := by
  obtain ⟨cs, ys, e, h1, h2, h3⟩ := letters_sub h
  exact ⟨_, _, e, q cs ys h1 h2 h3⟩
/-- a join without anything between -/
theorem giv_join {cs : List (List Nat)} {Q : D → Prop} (h : (cs.map (·.length)).sum ≤ lim) (q : Q (.str cs.flatten)) : Giv (fJoin (.str []) [.lst (cs.map D.str)]) Q := giv (join_empty h) q
theorem sum_le {cs : List (List Nat)} {k : Nat} (h : ∀ c ∈ cs, c.length ≤ k) : (cs.map (·.length)).sum ≤ k * cs.length := by
  induction cs with
  | nil => simp
  | cons c cs ih =>
    have h1 := h c List.mem_cons_self
    have h2 := ih fun x hx => h x (List.mem_cons_of_mem _ hx)
    rw [List.map_cons, List.sum_cons, List.length_cons, Nat.mul_add, Nat.mul_one]
    omega
end Sw
set_option Elab.async false
set_option linter.all false
set_option maxRecDepth 100000
set_option maxHeartbeats 4000000
/-! Sw15: == of nested data. -/
namespace Sw
open L2 PySem
mutual
theorem eqv_refl : ∀ d : PyData, d.canLay0 = true → PyData.eqv d d = true
  | .none, _ => by simp [PyData.eqv]
  | .bool b, _ => by simp [PyData.eqv]
  | .int i, _ => by simp [PyData.eqv]
  | .str x, _ => by simp [PyData.eqv]
  | .list xs, h => by simp only [PyData.eqv]; exact eqvAll_refl xs (by simpa [PyData.canLay0] using h)
  | .tuple xs, h => by simp only [PyData.eqv]; exact eqvAll_refl xs (by simpa [PyData.canLay0] using h)
  | .dict _, h => by simp [PyData.canLay0] at h
theorem eqvAll_refl : ∀ ds : List PyData, PyData.canLayAll0 ds = true → PyData.eqvAll ds ds = true
  | [], _ => by simp [PyData.eqvAll]
  | d :: ds, h => by
    simp only [PyData.canLayAll0, Bool.and_eq_true] at h
    simp only [PyData.eqvAll, Bool.and_eq_true]
    exact ⟨eqv_refl d h.1, eqvAll_refl ds h.2⟩
end
theorem eqD_same {x : D} (h : shD x = true) : fEqD x x = some (.bl true) := by
  unfold fEqD
  rw [h]
  show (if true = true then _ else _) = _
  rw [if_pos rfl, eqv_refl _ (SeqAt.canLay_of_shaped h)]
theorem eq_tup {xs : List D} (h : shD (.tup xs) = true) : fEq (.tup xs) (.tup xs) = some (.bl true) := by
  show orF fEqS fEqD _ _ = _
  unfold orF
  rw [show fEqS (.tup xs) (.tup xs) = none from rfl]
  exact eqD_same h
theorem eq_lst {xs : List D} (h : shD (.lst xs) = true) : fEq (.lst xs) (.lst xs) = some (.bl true) := by
  show orF fEqS fEqD _ _ = _
  unfold orF
  rw [show fEqS (.lst xs) (.lst xs) = none from rfl]
  exact eqD_same h
/-! what may be compared: texts of signs, at most 64 deep -/
mutual
def okD : D → Bool
  | .str s => s.all fun c => decide (c < 55296)
  | .lst xs => okDs xs
  | .tup xs => okDs xs
  | _ => true
def okDs : List D → Bool
  | [] => true
  | x :: xs => okD x && okDs xs
end
mutual
def dpD : D → Nat
  | .lst xs => dpDs xs + 1
  | .tup xs => dpDs xs + 1
  | .scr _ => 1
  | _ => 0
def dpDs : List D → Nat
  | [] => 0
  | x :: xs => max (dpD x) (dpDs xs)
end
theorem ints_can : ∀ xs : List Int, PyData.canLayAll0 (xs.map PyData.int) = true
  | [] => by simp [PyData.canLayAll0]
  | i :: xs => by simp only [List.map_cons, PyData.canLayAll0, PyData.canLay0, Bool.true_and]; exact ints_can xs
theorem ints_dp : ∀ xs : List Int, PyData.depthAll (xs.map PyData.int) = 0
  | [] => by simp [PyData.depthAll]
  | i :: xs => by simp only [List.map_cons, PyData.depthAll, PyData.depth, ints_dp xs]; rfl
mutual
theorem can_of : ∀ x : D, okD x = true → (toP x).canLay0 = true
  | .non, _ => by simp [toP, PyData.canLay0]
  | .bl b, _ => by simp [toP, PyData.canLay0]
  | .int i, _ => by simp [toP, PyData.canLay0]
  | .str t, h => by
    simp only [okD, List.all_eq_true, decide_eq_true_eq] at h
    simp only [toP, PyData.canLay0, PyData.strOk, List.all_toArray, List.all_eq_true, decide_eq_true_eq]
    intro c hc
    have := h c hc
    omega
  | .lst xs, h => by simp only [toP, PyData.canLay0]; exact cans_of xs (by simpa [okD] using h)
  | .tup xs, h => by simp only [toP, PyData.canLay0]; exact cans_of xs (by simpa [okD] using h)
  | .scr xs, _ => by simp only [toP, PyData.canLay0]; exact ints_can xs
theorem cans_of : ∀ xs : List D, okDs xs = true → PyData.canLayAll0 (toPs xs) = true
  | [], _ => by simp [toPs, PyData.canLayAll0]
  | x :: xs, h => by
    simp only [okDs, Bool.and_eq_true] at h
    simp only [toPs, PyData.canLayAll0, Bool.and_eq_true]
    exact ⟨can_of x h.1, cans_of xs h.2⟩
end
mutual
theorem dep_of : ∀ x : D, (toP x).depth = dpD x
  | .non => by simp [toP, PyData.depth, dpD]
  | .bl b => by simp [toP, PyData.depth, dpD]
  | .int i => by simp [toP, PyData.depth, dpD]
  | .str t => by simp [toP, PyData.depth, dpD]
  | .lst xs => by simp only [toP, PyData.depth, dpD, deps_of xs]
  | .tup xs => by simp only [toP, PyData.depth, dpD, deps_of xs]
  | .scr xs => by simp only [toP, PyData.depth, dpD, ints_dp xs]
theorem deps_of : ∀ xs : List D, PyData.depthAll (toPs xs) = dpDs xs
  | [] => by simp [toPs, PyData.depthAll, dpDs]
  | x :: xs => by simp only [toPs, PyData.depthAll, dpDs, dep_of x, deps_of xs]
end
theorem shD_of {x : D} (h : okD x = true) (hd : dpD x ≤ 64) : shD x = true := by
  unfold shD SeqAt.shaped
  rw [can_of x h, dep_of x, decide_eq_true hd]
  rfl
end Sw
set_option Elab.async false
set_option linter.all false
set_option maxRecDepth 100000
set_option maxHeartbeats 4000000
/-! Sw16: min of three. -/
namespace Sw
open PySem PySem.Spec PyProof.Rows L2
section
variable {X : Cx} {a b c e : Expr} {pos p : Pos} {es : List Expr} {ms : M (List Vl)} {K : PySem.W.Frag}
def cMin3 : List D → Option D
  | [.int i, .int j, .int k] => some (.int (min (min i j) k))
  | _ => none
theorem min_if (i j : Int) : (if j < i then j else i) = min i j := by
  split <;> omega
theorem nuMin_int (i j : Int) : nuMin2 (.int i) (.int j) = some (.int (min i j)) := by
  show some (if decide (j < i) = true then V.int j else V.int i) = _
  by_cases h : j < i
  · rw [decide_eq_true h, if_pos rfl, show min i j = j by omega]
  · rw [decide_eq_false h, if_neg (by decide), show min i j = i by omega]
theorem cs_min3 : CallS K (rNuC3 nuMin3) cMin3 := by
  intro H F vs xs z s hx e Q q
  unfold cMin3 at e
  split at e
  · rename_i i j k
    cases e
    match vs, hx with
    | [v, u, w], ⟨hv, hu, hw, _⟩ =>
      rw [vw_int hv, vw_int hu, vw_int hw]
      refine ⟨_, _, _, .int (min (min i j) k), rfl, ?_, q _ H F (Alc.refl s) (.int _)⟩
      unfold nuMin3
      rw [nuMin_int, Option.bind_some, nuMin_int]
  · cases e
theorem se_min3 (hm : X.mg "min" = none) (hg : Gl X "min") (hc : X.calm = true) (ha : SA X [a, b, c] ms) (he : starEach [a, b, c] X.env = (false, eval a X.env) :: starEach [b, c] X.env := by rfl) (hpl : (backTo pos (starEach [b, c] X.env)).any (·.1) = false := by rfl) : SE X (.Call (.Name "min" p) [a, b, c] [] pos) (eBlt cMin3 ms) :=
  se_blt (call_min3Nu hc) cs_min3 hg hm (by decide +kernel) ha (by decide) (by decide) he hpl
@[simp] theorem r_min2 {i j : Int} : cMin [.int i, .int j] = some (.int (min i j)) := by show some (D.int _) = _; rw [min_if]
theorem max_if (i j : Int) : (if j > i then j else i) = max i j := by
  split <;> omega
@[simp] theorem r_max2 {i j : Int} : cMax [.int i, .int j] = some (.int (max i j)) := by show some (D.int _) = _; rw [max_if]
@[simp] theorem r_min3 {i j k : Int} : cMin3 [.int i, .int j, .int k] = some (.int (min (min i j) k)) := rfl
/-! ### str of an int, a text, a bool, None -/
theorem call_str_any : CallR X (.type "str") (fun xs H Q => (∃ i, xs = [.int i] ∧ i.natAbs.log2 < 1920 ∧ Q (.str (toString i)) H) ∨ (∃ a, xs = [.str a] ∧ Q (.str a) H) ∨ (∃ b, xs = [.bl b] ∧ Q (.str (if b then "True" else "False")) H) ∨ (xs = [.non] ∧ Q (.str "None") H)) := by
  intro pins s σ H xs us Q I r h
  rcases h with ⟨i, rfl, hz, q⟩ | ⟨a, rfl, q⟩ | ⟨b, rfl, q⟩ | ⟨rfl, q⟩
  · obtain ⟨u, rfl, t, rfl⟩ := vals1 r
    exact PySem.P.str_of_int hz ⟨.str _, H, I.tok _, ⟨_, rfl⟩, q⟩
  · obtain ⟨u, rfl, t, rfl⟩ := vals1 r
    exact PySem.P.str_of_str ⟨.str a, H, I, ⟨t, rfl⟩, q⟩
  · obtain ⟨u, rfl, rfl⟩ := vals1 r
    exact PySem.P.str_of_bool ⟨.str _, H, I.tok _, ⟨_, rfl⟩, q⟩
  · obtain ⟨u, rfl, rfl⟩ := vals1 r
    exact PySem.P.str_of_none ⟨.str _, H, I.tok _, ⟨_, rfl⟩, q⟩
def cStrA : List D → Option D
  | [.int i] => if -1000000000 < i ∧ i < 1000000000 then some (.str (decS i)) else none
  | [.str s] => some (.str s)
  | [.bl b] => some (.str (if b then [84, 114, 117, 101] else [70, 97, 108, 115, 101]))
  | [.non] => some (.str [78, 111, 110, 101])
  | _ => none
theorem cs_strA : CallS K (fun xs H Q => (∃ i, xs = [.int i] ∧ i.natAbs.log2 < 1920 ∧ Q (.str (toString i)) H) ∨ (∃ a, xs = [.str a] ∧ Q (.str a) H) ∨ (∃ b, xs = [.bl b] ∧ Q (.str (if b then "True" else "False")) H) ∨ (xs = [.non] ∧ Q (.str "None") H)) cStrA := by
  intro H F vs xs z s hx e Q q
  unfold cStrA at e
  split at e
  · split at e
    · rename_i i hc
      cases e
      obtain ⟨v, rfl, hv⟩ := vws1 hx
      rw [vw_int hv]
      refine .inl ⟨_, rfl, ?_, q _ H F (Alc.refl s) (rep_str _)⟩
      by_cases z : i.natAbs = 0
      · rw [z]; decide
      · exact (Nat.log2_lt z).mpr (Nat.lt_of_lt_of_le (show i.natAbs < 2 ^ 30 by omega) (Nat.pow_le_pow_right (by decide) (by decide)))
    · cases e
  · rename_i t
    cases e
    obtain ⟨v, rfl, hv⟩ := vws1 hx
    cases (show Rep K F v (.str t) from hv)
    exact .inr (.inl ⟨_, rfl, q _ H F (Alc.refl s) (.str t)⟩)
  · rename_i b
    cases e
    obtain ⟨v, rfl, hv⟩ := vws1 hx
    cases (show Rep K F v (.bl b) from hv)
    refine .inr (.inr (.inl ⟨_, rfl, q _ H F (Alc.refl s) ?_⟩))
    cases b
    · exact rep_str (Str.ofString "False")
    · exact rep_str (Str.ofString "True")
  · cases e
    obtain ⟨v, rfl, hv⟩ := vws1 hx
    cases (show Rep K F v .non from hv)
    exact .inr (.inr (.inr ⟨rfl, q _ H F (Alc.refl s) (rep_str (Str.ofString "None"))⟩))
  · cases e
theorem se_tostrA (hm : X.mg "str" = none) (hg : Gl X "str") (ha : SA X [e] ms) (he : starEach [e] X.env = (false, eval e X.env) :: starEach [] X.env := by rfl) (hpl : (backTo pos (starEach [] X.env)).any (·.1) = false := by rfl) : SE X (.Call (.Name "str" p) [e] [] pos) (eBlt cStrA ms) :=
  se_ty call_str_any cs_strA hg hm (by decide +kernel) ha (by decide) (by decide) he hpl
end
end Sw
set_option Elab.async false
set_option linter.all false
set_option maxRecDepth 100000
set_option maxHeartbeats 4000000
/-! Sw17: the draws with the fifth cell, items of written lists, the fifth cell read and stored. -/
namespace Sw
open L2
theorem fv_nextE {xs : List D} {m e : Int} {Q : Vl → List (List D) → Prop} (h : DrE e xs) (hm : 0 < m) (q : ∀ r ys, 0 ≤ r → r < m → DrE e ys → Q (.fz (.int r)) [ys]) : Fv lawNext [.li xs, .da (.int m)] Q := by
  obtain ⟨r, ys, e, h1, h2, h3⟩ := next_okE h hm
  exact ⟨_, _, e, q r ys h1 h2 h3⟩
theorem fv_drawE {ns : List Int} {Q : Vl → List (List D) → Prop} (h : ns.length ≤ 63) (q : ∀ xs, DrE 3 xs → Q (.fr xs) []) : Fv lawDraw [.da (.scr ns)] Q := by
  obtain ⟨xs, e, h⟩ := draw_okE h
  exact ⟨_, _, e, q xs h⟩
theorem atI_mem {α : Type} {xs : List α} {r : Int} (h0 : 0 ≤ r) (h1 : r < xs.length) : ∃ x, x ∈ xs ∧ atI xs r = some x := ⟨_, List.getElem_mem _, atI_int h0 h1⟩
theorem giv_ixl_all {xs : List D} {r : Int} {Q : D → Prop} (h0 : 0 ≤ r) (h1 : r < xs.length) (q : ∀ x ∈ xs, Q x) : Giv (fIx (.lst xs) (.int r)) Q := by
  obtain ⟨x, hx, e⟩ := atI_mem h0 h1
  exact giv_ixl e (q x hx)
theorem giv_ixt_all {xs : List D} {r : Int} {Q : D → Prop} (h0 : 0 ≤ r) (h1 : r < xs.length) (q : ∀ x ∈ xs, Q x) : Giv (fIx (.tup xs) (.int r)) Q := by
  obtain ⟨x, hx, e⟩ := atI_mem h0 h1
  exact giv_ixt e (q x hx)
theorem giv_ixs_all {xs : List Nat} {r : Int} {Q : D → Prop} (hl : xs.length ≤ lim) (h0 : 0 ≤ r) (h1 : r < xs.length) (q : ∀ c ∈ xs, Q (.str [c])) : Giv (fIx (.str xs) (.int r)) Q := by
  obtain ⟨x, hx, e⟩ := atI_mem h0 h1
  exact giv_ixs hl e (q x hx)
theorem all_nil {α : Type} {Q : α → Prop} : ∀ x ∈ ([] : List α), Q x := fun _ h => by cases h
theorem all_cons {α : Type} {Q : α → Prop} {a : α} {xs : List α} (h : Q a) (t : ∀ x ∈ xs, Q x) : ∀ x ∈ a :: xs, Q x := fun x hx => by
  rcases List.mem_cons.mp hx with rfl | hx
  · exact h
  · exact t x hx
theorem giv_dr4 {xs : List D} {e : Int} {Q : D → Prop} (h : DrE e xs) (q : Q (.int e)) : Giv (fIx (.lst xs) (.int 4)) Q := by
  obtain ⟨k, a, b, ds, rfl, hk⟩ := h.ex
  exact giv_ixl rfl q
theorem DrE.set4 {xs : List D} {e : Int} (h : DrE e xs) (e' : Int) : xs.length = 5 ∧ DrE e' (xs.set 4 (.int e')) := by
  obtain ⟨k, a, b, ds, rfl, hk⟩ := h.ex
  exact ⟨rfl, ⟨k, a, b, ds, rfl, hk⟩⟩
section
variable {ρ : Rho} {b : M Vl} {s : S} {QS : Fl → Rho → Prop} {i : Nat}
/-- the fifth cell is stored -/
theorem sv_set4_s (h : Ev b ρ fun r ρ1 => IsI r fun e' => ∃ xs, own? ρ1 i = some xs ∧ (∃ e, DrE e xs) ∧ ∀ ys, DrE e' ys → Sv s (put ρ1 i ys) QS) : Sv (sSeq (sSetI i (eC (.int 4)) b) s) ρ QS := by
  obtain ⟨r, ρ1, e1, e', rfl, xs, e5, ⟨e, hd⟩, q⟩ := h
  refine sv_seti_s ⟨_, ρ1, e1, .int e', ρ1, rfl, by rw [e5]; rfl, ?_⟩
  exact ev_c (isI ⟨xs, 4, e5, by rw [(hd.set4 e').1]; rfl, q _ (hd.set4 e').2⟩)
end
theorem own_at {ρ : Rho} {i : Nat} {xs : List D} {P : List D → Prop} (h : own? ρ i = some xs) (q : P xs) : ∃ xs, own? ρ i = some xs ∧ P xs := ⟨xs, h, q⟩
theorem giv_tup {xs : List D} {Q : D → Prop} (q : Q (.tup xs)) : Giv (cTup [.lst xs]) Q := ⟨_, rfl, q⟩
theorem giv_tupt {xs : List D} {Q : D → Prop} (q : Q (.tup xs)) : Giv (cTup [.tup xs]) Q := ⟨_, rfl, q⟩
theorem giv_str {i : Int} {Q : D → Prop} (h : -1000000000 < i ∧ i < 1000000000) (q : Q (.str (decS i))) : Giv (cStrA [.int i]) Q := ⟨_, by show (if _ then _ else _) = _; rw [if_pos h], q⟩
theorem giv_strN {Q : D → Prop} (q : Q (.str [78, 111, 110, 101])) : Giv (cStrA [.non]) Q := ⟨_, rfl, q⟩
theorem giv_strS {s : List Nat} {Q : D → Prop} (q : Q (.str s)) : Giv (cStrA [.str s]) Q := ⟨_, rfl, q⟩
@[simp] theorem r_isn1 {i : Int} : fIs (.int i) .non = some (.bl false) := rfl
@[simp] theorem r_isn2 : fIs .non .non = some (.bl true) := rfl
@[simp] theorem r_isn3 {s : List Nat} : fIs (.str s) .non = some (.bl false) := rfl
@[simp] theorem r_isn4 {s : List D} : fIs (.tup s) .non = some (.bl false) := rfl
@[simp] theorem r_isn5 {s : List D} : fIs (.lst s) .non = some (.bl false) := rfl
@[simp] theorem r_ntn1 {i : Int} : fNt (.int i) .non = some (.bl true) := rfl
@[simp] theorem r_ntn2 : fNt .non .non = some (.bl false) := rfl
@[simp] theorem r_ntn3 {s : List Nat} : fNt (.str s) .non = some (.bl true) := rfl
@[simp] theorem r_ntn4 {s : List D} : fNt (.tup s) .non = some (.bl true) := rfl
@[simp] theorem r_ntn5 {s : List D} : fNt (.lst s) .non = some (.bl true) := rfl
@[simp] theorem r_eqn1 {i : Int} : fEq (.int i) .non = some (.bl false) := rfl
@[simp] theorem r_eqn2 {i : Int} : fEq .non (.int i) = some (.bl false) := rfl
/-- the decimals of a small number are few -/
theorem decS_len {i : Int} (h0 : 0 ≤ i) (h1 : i < 1000) : (decS i).length ≤ 3 := by
  obtain ⟨n, rfl⟩ := Int.eq_ofNat_of_zero_le h0
  have hn : n < 1000 := by omega
  have all : (List.range 1000).all (fun n => decide ((decS (n : Int)).length ≤ 3)) = true := by decide +kernel
  rw [List.all_eq_true] at all
  exact of_decide_eq_true (all n (List.mem_range.mpr hn))
theorem gEv {α : Type} {m : M α} {ρ : Rho} {Q : α → Rho → Prop} (h : Ev m ρ Q) : Ev m ρ Q := h
theorem gSv {s : S} {ρ : Rho} {Q : Fl → Rho → Prop} (h : Sv s ρ Q) : Sv s ρ Q := h
theorem gGiv {o : Option D} {Q : D → Prop} (h : Giv o Q) : Giv o Q := h
theorem gFv {f : Fn} {gs : List Ag} {Q : Vl → List (List D) → Prop} (h : Fv f gs Q) : Fv f gs Q := h
theorem gBrn {c : Bool} {A B : Prop} (h : Brn c A B) : Brn c A B := h
theorem brn_c {c : Bool} {A B : Prop} (h1 : c = true → A) (h2 : c = false → B) : Brn c A B := ⟨h1, h2⟩
/-! ### comprehensions that change nothing -/
theorem set_back {ρ : Rho} {v : Nat} (hv : plainSl ρ[v]? = true) : (ρ.set v .no).set v ((ρ[v]?).getD .no) = ρ := by
  rw [List.set_set]
  cases e : ρ[v]? with
  | none => rw [e] at hv; cases hv
  | some s =>
    obtain ⟨h, rfl⟩ := List.getElem?_eq_some_iff.mp e
    exact List.set_getElem_self h
theorem plain_io {ρ : Rho} {v : Nat} (hv : plainSl ρ[v]? = true) : v < ρ.length := by
  cases e : ρ[v]? with
  | none => rw [e] at hv; cases hv
  | some s => exact (List.getElem?_eq_some_iff.mp e).1
theorem ev_lcf {α : Type} {ρ : Rho} {v : Nat} {src : M (List D)} {t : M Bool} {e : M Vl} {Q : Vl → Rho → Prop} (xs : List α) (d : α → D) (p : α → Bool) (h : α → D)
    (hv : plainSl ρ[v]? = true) (hl : xs.length ≤ lim) (hs : ∀ {Q' : List D → Rho → Prop}, Q' (xs.map d) ρ → Ev src ρ Q')
    (ht : ∀ x ∈ xs, ∀ {Q' : Bool → Rho → Prop}, Q' (p x) (ρ.set v (.d (d x))) → Ev t (ρ.set v (.d (d x))) Q')
    (he : ∀ x ∈ xs, p x = true → ∀ {Q' : Vl → Rho → Prop}, Q' (.fz (h x)) (ρ.set v (.d (d x))) → Ev e (ρ.set v (.d (d x))) Q')
    (q : Q (.fr ((xs.filter p).map h)) ρ) : Ev (eLc [v] src (gN v) t e) ρ Q := by
  have hvl := plain_io hv
  refine ev_lc (fun i acc ρ' => acc = ((xs.take i).filter p).map h ∧ ρ' = ρ.set v .no) (hs ?_)
  refine ⟨by simp only [List.all_cons, hv, List.all_nil]; rfl, ⟨by simp, rfl⟩, ?_, ?_⟩
  · rintro i y hy acc ρ' ⟨rfl, rfl⟩
    rw [List.getElem?_map] at hy
    cases hi : xs[i]? with
    | none => rw [hi] at hy; cases hy
    | some x =>
      rw [hi] at hy
      cases hy
      have hx := List.mem_of_getElem? hi
      have hi' : i < xs.length := (List.getElem?_eq_some_iff.mp hi).1
      refine ⟨ρ.set v (.d (d x)), ?_, ht x hx ?_⟩
      · show asg v (.fz (d x)) _ = _
        rw [asg_z (by rw [List.getElem?_set_self hvl]; rfl), List.set_set]
      · refine ⟨fun hp => he x hx hp ⟨h x, _, rfl, ?_, ?_, ?_⟩, fun hp => ⟨?_, ?_⟩⟩
        · rw [List.length_map]
          have := List.length_filter_le p (xs.take i)
          rw [List.length_take] at this
          omega
        · rw [take_s hi, List.filter_append, List.map_append]; simp [hp]
        · show (ρ.set v (.d (d x))).set v .no = _
          rw [List.set_set]
        · rw [take_s hi, List.filter_append, List.map_append]; simp [hp]
        · show (ρ.set v (.d (d x))).set v .no = _
          rw [List.set_set]
  · rintro acc ρ' ⟨rfl, rfl⟩
    rw [List.length_map, List.take_length]
    show Q _ ((ρ.set v .no).set v ((ρ[v]?).getD .no))
    rw [set_back hv]
    exact q
theorem ev_lcm {α : Type} {ρ : Rho} {v : Nat} {src : M (List D)} {e : M Vl} {Q : Vl → Rho → Prop} (xs : List α) (d : α → D) (h : α → D)
    (hv : plainSl ρ[v]? = true) (hl : xs.length ≤ lim) (hs : ∀ {Q' : List D → Rho → Prop}, Q' (xs.map d) ρ → Ev src ρ Q')
    (he : ∀ x ∈ xs, ∀ {Q' : Vl → Rho → Prop}, Q' (.fz (h x)) (ρ.set v (.d (d x))) → Ev e (ρ.set v (.d (d x))) Q')
    (q : Q (.fr (xs.map h)) ρ) : Ev (eLc [v] src (gN v) tYesM e) ρ Q :=
  ev_lcf xs d (fun _ => true) h hv hl hs (fun x _ Q' q => ev_tyes q) (fun x hx _ => he x hx) (by rw [List.filter_eq_self.mpr (fun _ _ => rfl)]; exact q)
/-- what is walked is a datum's items -/
theorem ev_isqd {ρ : Rho} {a : M Vl} {xs : List D} {Q : List D → Rho → Prop} (h : Ev a ρ fun r ρ1 => ∃ z, r = .fz z ∧ itemsOf z = some xs ∧ Q xs ρ1) : Ev (iSq a) ρ Q := by
  obtain ⟨r, ρ1, e1, z, rfl, e2, q⟩ := h
  exact ev_isq ⟨_, _, e1, z, ρ1, xs, rfl, e2, q⟩
theorem giv_joinb {cs : List (List Nat)} {s : List Nat} {Q : D → Prop} (h : (cs.map (·.length)).sum + cs.length * s.length ≤ lim) (q : Q (.str (TL.joinL s cs))) : Giv (fJoin (.str s) [.lst (cs.map D.str)]) Q := by
  refine giv ?_ q
  unfold fJoin
  dsimp only
  rw [strsOf_map]
  show (if _ then _ else _) = _
  rw [if_pos h]
theorem joinL_len {s : List Nat} : ∀ cs : List (List Nat), (TL.joinL s cs).length ≤ (cs.map (·.length)).sum + cs.length * s.length
  | [] => by simp [TL.joinL]
  | [c] => by simp [TL.joinL]
  | c :: d :: r => by
    have := joinL_len (s := s) (d :: r)
    simp only [TL.joinL, List.length_append, List.map_cons, List.sum_cons, List.length_cons, Nat.add_mul, Nat.one_mul] at this ⊢
    omega
/-! ### slices -/
theorem sIx_ge {n d : Nat} {r : Int} (h : 0 ≤ r) : HT.sIx n d (some r) = min r.toNat n := by
  obtain ⟨k, rfl⟩ := Int.eq_ofNat_of_zero_le h
  rw [HT.sIx_nat]; rfl
theorem cut_take {α : Type} {xs : List α} {r : Int} (h : 0 ≤ r) : cutL xs none (some r) = xs.take r.toNat := by
  unfold cutL
  rw [sIx_ge h]
  show (xs.drop 0).take (min r.toNat xs.length - 0) = _
  rw [List.drop_zero, Nat.sub_zero, Nat.min_comm, ← List.take_take]
  rw [List.take_take, Nat.min_comm]
  by_cases hl : r.toNat ≤ xs.length
  · rw [Nat.min_eq_left hl]
  · rw [Nat.min_eq_right (by omega), List.take_length, List.take_of_length_le (by omega)]
theorem cut_drop {α : Type} {xs : List α} {r : Int} (h : 0 ≤ r) : cutL xs (some r) none = xs.drop r.toNat := by
  unfold cutL
  rw [sIx_ge h]
  show (xs.drop (min r.toNat xs.length)).take (xs.length - min r.toNat xs.length) = _
  by_cases hl : r.toNat ≤ xs.length
  · rw [Nat.min_eq_left hl, List.take_of_length_le (by rw [List.length_drop]; omega)]
  · rw [Nat.min_eq_right (by omega), List.drop_length, List.drop_of_length_le (by omega), List.take_nil]
theorem cut_mid {α : Type} {xs : List α} {r u : Int} (h : 0 ≤ r) (h2 : 0 ≤ u) : cutL xs (some r) (some u) = (xs.drop r.toNat).take (u.toNat - r.toNat) := by
  unfold cutL
  rw [sIx_ge h, sIx_ge h2]
  by_cases hl : r.toNat ≤ xs.length
  · rw [Nat.min_eq_left hl]
    by_cases hu : u.toNat ≤ xs.length
    · rw [Nat.min_eq_left hu]
    · rw [Nat.min_eq_right (by omega), List.take_of_length_le (by rw [List.length_drop]; omega), List.take_of_length_le (by rw [List.length_drop]; omega)]
  · rw [show min r.toNat xs.length = xs.length by omega, List.drop_length, List.drop_of_length_le (by omega), List.take_nil, List.take_nil]
theorem cut_m1 {α : Type} {xs : List α} : cutL xs none (some (-1)) = xs.dropLast := by
  unfold cutL
  have e : HT.sIx xs.length xs.length (some (-1)) = xs.length - 1 := by
    unfold HT.sIx
    simp
    omega
  rw [e]
  show (xs.drop 0).take (xs.length - 1 - 0) = _
  rw [List.drop_zero, Nat.sub_zero, List.dropLast_eq_take]
theorem giv_slt {xs : List Nat} {r : Int} {Q : D → Prop} (hl : xs.length ≤ lim) (h : 0 ≤ r) (q : Q (.str (xs.take r.toNat))) : Giv (fSl (.str xs) none (some r)) Q := giv_sls hl (by rw [cut_take h]; exact q)
theorem giv_sld {xs : List Nat} {r : Int} {Q : D → Prop} (hl : xs.length ≤ lim) (h : 0 ≤ r) (q : Q (.str (xs.drop r.toNat))) : Giv (fSl (.str xs) (some r) none) Q := giv_sls hl (by rw [cut_drop h]; exact q)
theorem giv_slm {xs : List Nat} {r u : Int} {Q : D → Prop} (hl : xs.length ≤ lim) (h : 0 ≤ r) (h2 : 0 ≤ u) (q : Q (.str ((xs.drop r.toNat).take (u.toNat - r.toNat)))) : Giv (fSl (.str xs) (some r) (some u)) Q := giv_sls hl (by rw [cut_mid h h2]; exact q)
theorem giv_slm1 {xs : List Nat} {Q : D → Prop} (hl : xs.length ≤ lim) (q : Q (.str xs.dropLast)) : Giv (fSl (.str xs) none (some (-1))) Q := giv_sls hl (by rw [cut_m1]; exact q)
theorem giv_sltl {xs : List D} {r : Int} {Q : D → Prop} (h : 0 ≤ r) (q : Q (.lst (xs.take r.toNat))) : Giv (fSl (.lst xs) none (some r)) Q := giv_sll (by rw [cut_take h]; exact q)
theorem giv_sldl {xs : List D} {r : Int} {Q : D → Prop} (h : 0 ≤ r) (q : Q (.lst (xs.drop r.toNat))) : Giv (fSl (.lst xs) (some r) none) Q := giv_sll (by rw [cut_drop h]; exact q)
/-- what stands behind a return -/
theorem sv_rets {a : M Vl} {ρ : Rho} {s : S} {QS : Fl → Rho → Prop} (h : Sv (sRet a) ρ QS) : Sv (sSeq (sRet a) s) ρ QS := by
  obtain ⟨fl, ρ1, e, q⟩ := h
  have : ∃ v, fl = .rt v := by
    rw [r_sRet] at e
    obtain ⟨⟨r, ρ2⟩, e1, e2⟩ := Option.bind_eq_some_iff.mp e
    cases r with
    | fz x => cases e2; exact ⟨_, rfl⟩
    | fr x => cases e2; exact ⟨_, rfl⟩
    | bw i =>
      dsimp only at e2
      split at e2
      · cases e2; exact ⟨_, rfl⟩
      · cases e2
  obtain ⟨v, rfl⟩ := this
  exact sv_seq_rt e q
/-! ### tests that change nothing, as one question -/
theorem ev_tAnd_d {t u : M Bool} {ρ : Rho} {QB : Bool → Rho → Prop} {p q : Prop} {ip : Decidable p} {iq : Decidable q} (ht : ∀ Q : Bool → Rho → Prop, Q (@decide p ip) ρ → Ev t ρ Q) (hu : p → ∀ Q : Bool → Rho → Prop, Q (@decide q iq) ρ → Ev u ρ Q) (h : QB (decide (p ∧ q)) ρ) : Ev (tAnd t u) ρ QB := by
  refine ev_tAnd (ht _ ?_)
  refine brn_d (fun hp => hu hp _ ?_) (fun hp => ?_)
  · rw [show decide q = decide (p ∧ q) by simp [hp]]; exact h
  · rw [show false = decide (p ∧ q) by simp [hp]]; exact h
theorem ev_tOr_d {t u : M Bool} {ρ : Rho} {QB : Bool → Rho → Prop} {p q : Prop} {ip : Decidable p} {iq : Decidable q} (ht : ∀ Q : Bool → Rho → Prop, Q (@decide p ip) ρ → Ev t ρ Q) (hu : ¬ p → ∀ Q : Bool → Rho → Prop, Q (@decide q iq) ρ → Ev u ρ Q) (h : QB (decide (p ∨ q)) ρ) : Ev (tOr t u) ρ QB := by
  refine ev_tOr (ht _ ?_)
  refine brn_d (fun hp => ?_) (fun hp => hu hp _ ?_)
  · rw [show true = decide (p ∨ q) by simp [hp]]; exact h
  · rw [show decide q = decide (p ∨ q) by simp [hp]]; exact h
theorem toD_t {Q : Bool → Rho → Prop} {ρ : Rho} (q : Q (decide ((0 : Int) = 0)) ρ) : Q true ρ := q
theorem toD_f {Q : Bool → Rho → Prop} {ρ : Rho} (q : Q (decide ((0 : Int) = 1)) ρ) : Q false ρ := q
theorem toD_b {Q : Bool → Rho → Prop} {ρ : Rho} {o : Bool} (q : Q (decide (o = true)) ρ) : Q o ρ := by rw [Bool.decide_eq_true] at q; exact q
theorem toD_n {Q : Bool → Rho → Prop} {ρ : Rho} {p : Prop} {ip : Decidable p} (q : Q (decide (¬ p)) ρ) : Q (!@decide p ip) ρ := by rw [decide_not] at q; exact q
end Sw
set_option Elab.async false
set_option linter.all false
set_option maxRecDepth 100000
namespace K09
open Sw

def tx_empty : List Nat := [101, 109, 112, 116, 121]
def tx_repeat : List Nat := [114, 101, 112, 101, 97, 116]
def tx_group : List Nat := [103, 114, 111, 117, 112]
def tx_as : List Nat := [123, 97, 115, 32]
def tx_look : List Nat := [108, 111, 111, 107]
def tx_not : List Nat := [123, 110, 111, 116, 32]
def tx_edge : List Nat := [101, 100, 103, 101]
def tx_same : List Nat := [115, 97, 109, 101]
def tx_same2 : List Nat := [123, 115, 97, 109, 101, 32]
def tx_ : List Nat := [92, 124, 42, 43, 63, 60, 62, 40, 41, 91, 93, 123, 125, 46, 126, 94]
def tx_0123456789abcd : List Nat := [9, 10, 32, 33, 34, 35, 36, 38, 39, 40, 41, 42, 43, 44, 45, 46, 47, 48, 49, 50, 51, 52, 53, 54, 55, 56, 57, 58, 59, 60, 61, 62, 63, 64, 65, 66, 67, 68, 69, 70, 71, 72, 73, 74, 75, 76, 77, 78, 79, 80, 81, 82, 83, 84, 85, 86, 87, 88, 89, 90, 91, 92, 93, 94, 95, 96]
def tx_abcdefghijklmn : List Nat := [97, 98, 99, 100, 101, 102, 103, 104, 105, 106, 107, 108, 109, 110, 111, 112, 113, 114, 115, 116, 117, 118, 119, 120, 121, 122, 123, 124, 125, 126]
def tx_2 : List Nat := [92, 91, 93, 94, 45]
def c_BRACKET_SIGNS : List Nat := [92, 91, 93, 94, 45]
def c_SIGNS : List Nat := [9, 10, 32, 33, 34, 35, 36, 38, 39, 40, 41, 42, 43, 44, 45, 46, 47, 48, 49, 50, 51, 52, 53, 54, 55, 56, 57, 58, 59, 60, 61, 62, 63, 64, 65, 66, 67, 68, 69, 70, 71, 72, 73, 74, 75, 76, 77, 78, 79, 80, 81, 82, 83, 84, 85, 86, 87, 88, 89, 90, 91, 92, 93, 94, 95, 96, 97, 98, 99, 100, 101, 102, 103, 104, 105, 106, 107, 108, 109, 110, 111, 112, 113, 114, 115, 116, 117, 118, 119, 120, 121, 122, 123, 124, 125, 126]
def c_SPECIAL_SIGNS : List Nat := [92, 124, 42, 43, 63, 60, 62, 40, 41, 91, 93, 123, 125, 46, 126, 94]
/-- _law_draw(_law_script): slots 0=_law_script 1=_law_digits 2=_law_one 3=_law_two 4=_law_cell 5=_law_rest 6=_law_k -/
def b_law_draw : S := (sSeq (sAsg 1 (eLst aNil))
  (sSeq (sAsg 2 (eC (.int 7)))
  (sSeq (sAsg 3 (eC (.int 11)))
  (sSeq (sFor (iSq (eVar 0)) (gN 4) (sSeq (sAsg 2 (eBin fMod (eBlt cInt (aCons (eBin fAdd (eBin fMul (eVar 2) (eC (.int 48271))) (eVar 4)) aNil)) (eC (.int 2147483647))))
  (sSeq (sAsg 3 (eBin fMod (eBlt cInt (aCons (eBin fAdd (eBin fMul (eVar 3) (eC (.int 69621))) (eBin fDiv (eVar 4) (eC (.int 1009)))) aNil)) (eC (.int 2147483629))))
  (sSeq (sAsg 5 (eVar 4))
  (sSeq (sIf (tE (eBin fLt (eVar 4) (eBin fPow (eC (.int 10)) (eC (.int 18))))) (sAsg 5 (eC (.int 0))) sNx)
  (sFor (iR1 (aCons (eC (.int 60)) aNil)) (gN 6) (sIf (tE (eBin fGt (eVar 5) (eC (.int 0)))) (sSeq (sApp 1 (eBin fMod (eBlt cInt (aCons (eVar 5) aNil)) (eC (.int 5040))))
  (sAsg 5 (eBin fDiv (eVar 5) (eC (.int 5040))))) sNx)))))))
  (sRet (eLst (aCons (eC (.int 0)) (aCons (eVar 2) (aCons (eVar 3) (aCons (eVar 1) (aCons (eC (.int 3)) aNil)))))))))))
def f_law_draw : Fn := fnS 1 7 b_law_draw
/-- _law_next(_law_draw_here, _law_many): slots 0=_law_draw_here 1=_law_many 2=_law_at -/
def b_law_next : S := (sSeq (sAsg 2 (eBin fIx (eVar 0) (eC (.int 0))))
  (sSeq (sIf (tE (eBin fLt (eVar 2) (eBlt cLen (aCons (eBin fIx (eVar 0) (eC (.int 3))) aNil)))) (sSeq (sSetI 0 (eC (.int 0)) (eBin fAdd (eVar 2) (eC (.int 1))))
  (sRet (eBin fMod (eBlt cInt (aCons (eBin fIx (eBin fIx (eVar 0) (eC (.int 3))) (eVar 2)) aNil)) (eVar 1)))) sNx)
  (sSeq (sSetI 0 (eC (.int 1)) (eBin fMod (eBlt cInt (aCons (eBin fAdd (eBin fMul (eBin fIx (eVar 0) (eC (.int 1))) (eC (.int 48271))) (eC (.int 12345))) aNil)) (eC (.int 2147483647))))
  (sSeq (sSetI 0 (eC (.int 2)) (eBin fMod (eBlt cInt (aCons (eBin fAdd (eBin fMul (eBin fIx (eVar 0) (eC (.int 2))) (eC (.int 69621))) (eC (.int 777))) aNil)) (eC (.int 2147483629))))
  (sRet (eBin fMod (eBlt cInt (aCons (eBin fAdd (eBin fDiv (eBin fIx (eVar 0) (eC (.int 1))) (eC (.int 64))) (eBin fDiv (eBin fIx (eVar 0) (eC (.int 2))) (eC (.int 128)))) aNil)) (eVar 1)))))))
def f_law_next : Fn := fnS 2 3 b_law_next
/-- _law_signs(): slots 0=_law_signs_here -/
def b_law_signs : S := (sSeq (sAsg 0 (eC (.str tx_0123456789abcd)))
  (sRet (eBin fAdd (eVar 0) (eC (.str tx_abcdefghijklmn)))))
def f_law_signs : Fn := fnS 0 1 b_law_signs
/-- _law_drawn_set(_law_draw_here): slots 0=_law_draw_here 1=_law_signs_here 2=_law_choice 3=_law_chosen 4=_law_flip 5=_law_k 6=_law_at 7=_law_many 8=_law_special 9=_law_low 10=_law_sign -/
def b_law_drawn_set : S := (sSeq (sAsg 1 (eCall f_law_signs [] aNil))
  (sSeq (sAsg 2 (eCall f_law_next [true, false] (aCons (eVar 0) (aCons (eC (.int 9)) aNil))))
  (sSeq (sAsg 3 (eC (.str [])))
  (sSeq (sIf (tE (eBin fLt (eVar 2) (eC (.int 2)))) (sAsg 3 (eBin fIx (eVar 1) (eCall f_law_next [true, false] (aCons (eVar 0) (aCons (eC (.int 96)) aNil))))) sNx)
  (sSeq (sIf (tOr (tE (eBin fEq (eVar 2) (eC (.int 2)))) (tE (eBin fEq (eVar 2) (eC (.int 3))))) (sFor (iR1 (aCons (eBin fAdd (eC (.int 1)) (eCall f_law_next [true, false] (aCons (eVar 0) (aCons (eC (.int 6)) aNil)))) aNil)) (gN 5) (sSeq (sAsg 9 (eCall f_law_next [true, false] (aCons (eVar 0) (aCons (eC (.int 96)) aNil))))
  (sAsg 3 (eBin fAdd (eVar 3) (eSl fSl (eVar 1) (oSome (eVar 9)) (oSome (eBin fAdd (eBin fAdd (eVar 9) (eC (.int 1))) (eCall f_law_next [true, false] (aCons (eVar 0) (aCons (eC (.int 6)) aNil)))))))))) sNx)
  (sSeq (sIf (tE (eBin fEq (eVar 2) (eC (.int 4)))) (sSeq (sAsg 6 (eCall f_law_next [true, false] (aCons (eVar 0) (aCons (eC (.int 96)) aNil))))
  (sFor (iR1 (aCons (eBin fAdd (eC (.int 1)) (eCall f_law_next [true, false] (aCons (eVar 0) (aCons (eC (.int 40)) aNil)))) aNil)) (gN 5) (sSeq (sIf (tE (eBin fLt (eVar 6) (eC (.int 96)))) (sAsg 3 (eBin fAdd (eVar 3) (eBin fIx (eVar 1) (eVar 6)))) sNx)
  (sAsg 6 (eBin fAdd (eBin fAdd (eVar 6) (eC (.int 1))) (eCall f_law_next [true, false] (aCons (eVar 0) (aCons (eC (.int 3)) aNil)))))))) sNx)
  (sSeq (sIf (tAnd (tE (eBin fGt (eVar 2) (eC (.int 4)))) (tE (eBin fLt (eVar 2) (eC (.int 8))))) (sSeq (sAsg 7 (eBin fIx (eLst (aCons (eC (.int 2)) (aCons (eC (.int 2)) (aCons (eC (.int 3)) (aCons (eC (.int 6)) aNil))))) (eCall f_law_next [true, false] (aCons (eVar 0) (aCons (eC (.int 4)) aNil)))))
  (sAsg 3 (eMet fJoin (eC (.str [])) (aCons (eLc [10] (iSq (eVar 1)) (gN 10) (tE (eBin fEq (eCall f_law_next [true, false] (aCons (eVar 0) (aCons (eVar 7) aNil))) (eC (.int 0)))) (eVar 10)) aNil)))) sNx)
  (sSeq (sIf (tE (eBin fEq (eVar 2) (eC (.int 8)))) (sSeq (sAsg 8 (eLst (aCons (eC (.str [])) (aCons (eC (.str [10])) (aCons (eC (.str [9, 10])) (aCons (eC (.str [10, 32])) (aCons (eC (.str [9, 10, 32])) (aCons (eC (.str [9, 32])) (aCons (eC (.str [36, 38])) (aCons (eC (.str [35, 36, 38])) (aCons (eC (.str [36, 38, 39])) (aCons (eC (.str tx_2)) (aCons (eC (.str [91, 92, 93])) (aCons (eC (.str [92, 93, 94])) (aCons (eC (.str [43, 44, 45])) (aCons (eC (.str [45, 46, 47])) aNil))))))))))))))))
  (sAsg 3 (eBin fIx (eBin fAdd (eVar 8) (eLst (aCons (eC (.str tx_)) (aCons (eC (.str [125, 126])) (aCons (eC (.str [10])) (aCons (eC (.str [10])) aNil)))))) (eCall f_law_next [true, false] (aCons (eVar 0) (aCons (eC (.int 18)) aNil)))))) sNx)
  (sSeq (sAsg 4 (eBin fEq (eCall f_law_next [true, false] (aCons (eVar 0) (aCons (eC (.int 2)) aNil))) (eC (.int 0))))
  (sRet (eMet fJoin (eC (.str [])) (aCons (eLc [10] (iSq (eVar 1)) (gN 10) (tE (eBin fNe (eBin fIn (eVar 10) (eVar 3)) (eVar 4))) (eVar 10)) aNil))))))))))))
def f_law_drawn_set : Fn := fnS 1 11 b_law_drawn_set
/-- _law_escaped(_law_sign, _law_marked): slots 0=_law_sign 1=_law_marked -/
def b_law_escaped : S := (sSeq (sIf (tE (eBin fEq (eVar 0) (eC (.str [10])))) (sRet (eC (.str [92, 110]))) sNx)
  (sSeq (sIf (tE (eBin fEq (eVar 0) (eC (.str [9])))) (sRet (eC (.str [92, 116]))) sNx)
  (sSeq (sIf (tE (eBin fIn (eVar 0) (eVar 1))) (sRet (eBin fAdd (eC (.str [92])) (eVar 0))) sNx)
  (sRet (eVar 0)))))
def f_law_escaped : Fn := fnS 2 2 b_law_escaped
/-- _law_inside(_law_text): slots 0=_law_text 1=_law_signs_here 2=_law_marked 3=_law_written 4=_law_run 5=_law_k 6=_law_sign -/
def b_law_inside : S := (sSeq (sAsg 1 (eCall f_law_signs [] aNil))
  (sSeq (sAsg 2 (eC (.str tx_2)))
  (sSeq (sAsg 3 (eC (.str [])))
  (sSeq (sAsg 4 (eC (.str [])))
  (sSeq (sFor (iR1 (aCons (eC (.int 97)) aNil)) (gN 5) (sIf (tAnd (tE (eBin fLt (eVar 5) (eC (.int 96)))) (tE (eBin fIn (eBin fIx (eVar 1) (eVar 5)) (eVar 0)))) (sAsg 4 (eBin fAdd (eVar 4) (eBin fIx (eVar 1) (eVar 5)))) (sSeq (sIf (tE (eBin fGt (eBlt cLen (aCons (eVar 4) aNil)) (eC (.int 2)))) (sAsg 4 (eBin fAdd (eBin fAdd (eCall f_law_escaped [] (aCons (eBin fIx (eVar 4) (eC (.int 0))) (aCons (eVar 2) aNil))) (eC (.str [45]))) (eCall f_law_escaped [] (aCons (eBin fIx (eVar 4) (eUn fNeg (eC (.int 1)))) (aCons (eVar 2) aNil))))) (sAsg 4 (eMet fJoin (eC (.str [])) (aCons (eLc [6] (iSq (eVar 4)) (gN 6) tYesM (eCall f_law_escaped [] (aCons (eVar 6) (aCons (eVar 2) aNil)))) aNil))))
  (sSeq (sAsg 3 (eBin fAdd (eVar 3) (eVar 4)))
  (sAsg 4 (eC (.str [])))))))
  (sRet (eVar 3)))))))
def f_law_inside : Fn := fnS 1 7 b_law_inside
/-- _law_written_set(_law_text): slots 0=_law_text 1=_law_rest 2=_law_direct 3=_law_other 4=_law_sign -/
def b_law_written_set : S := (sSeq (sIf (tE (eBin fEq (eBlt cLen (aCons (eVar 0) aNil)) (eC (.int 1)))) (sRet (eCall f_law_escaped [] (aCons (eVar 0) (aCons (eC (.str tx_)) aNil)))) sNx)
  (sSeq (sAsg 1 (eMet fJoin (eC (.str [])) (aCons (eLc [4] (iSq (eCall f_law_signs [] aNil)) (gN 4) (tE (eBin fNi (eVar 4) (eVar 0))) (eVar 4)) aNil)))
  (sSeq (sIf (tE (eBin fEq (eVar 1) (eC (.str [10])))) (sRet (eC (.str [46]))) sNx)
  (sSeq (sAsg 2 (eBin fAdd (eBin fAdd (eC (.str [91])) (eCall f_law_inside [] (aCons (eVar 0) aNil))) (eC (.str [93]))))
  (sSeq (sAsg 3 (eBin fAdd (eBin fAdd (eC (.str [91, 94])) (eCall f_law_inside [] (aCons (eVar 1) aNil))) (eC (.str [93]))))
  (sSeq (sIf (tE (eBin fLt (eBlt cLen (aCons (eVar 3) aNil)) (eBlt cLen (aCons (eVar 2) aNil)))) (sRet (eVar 3)) sNx)
  (sRet (eVar 2))))))))
def f_law_written_set : Fn := fnS 1 5 b_law_written_set
/-- write_repeat(least, most, lazy): slots 0=least 1=most 2=lazy 3=mark -/
def b_write_repeat : S := (sSeq (sIf (tE (eBin fEq (eVar 1) (eVar 0))) (sAsg 3 (eBin fAdd (eBin fAdd (eC (.str [60])) (eBlt cStrA (aCons (eVar 0) aNil))) (eC (.str [62])))) (sIf (tAnd (tE (eBin fEq (eVar 0) (eC (.int 0)))) (tE (eBin fIs (eVar 1) (eC .non)))) (sAsg 3 (eC (.str [42]))) (sIf (tAnd (tE (eBin fEq (eVar 0) (eC (.int 1)))) (tE (eBin fIs (eVar 1) (eC .non)))) (sAsg 3 (eC (.str [43]))) (sIf (tAnd (tE (eBin fEq (eVar 0) (eC (.int 0)))) (tE (eBin fEq (eVar 1) (eC (.int 1))))) (sAsg 3 (eC (.str [63]))) (sIf (tE (eBin fIs (eVar 1) (eC .non))) (sAsg 3 (eBin fAdd (eBin fAdd (eC (.str [60])) (eBlt cStrA (aCons (eVar 0) aNil))) (eC (.str [44, 62])))) (sAsg 3 (eBin fAdd (eBin fAdd (eBin fAdd (eBin fAdd (eC (.str [60])) (eBlt cStrA (aCons (eVar 0) aNil))) (eC (.str [44]))) (eBlt cStrA (aCons (eVar 1) aNil))) (eC (.str [62])))))))))
  (sSeq (sIf (tE (eVar 2)) (sRet (eBin fAdd (eVar 3) (eC (.str [126])))) sNx)
  (sRet (eVar 3))))
def f_write_repeat : Fn := fnS 3 4 b_write_repeat
/-- rank(sign): slots 0=sign -/
def b_rank : S := (sRet (eMet fFind (eC (.str c_SIGNS)) (aCons (eVar 0) aNil)))
def f_rank : Fn := fnS 1 1 b_rank
/-- runs_of(signs): slots 0=signs 1=runs 2=sign -/
def b_runs_of : S := (sSeq (sAsg 1 (eLst aNil))
  (sSeq (sFor (iSq (eVar 0)) (gN 2) (sIf (tAnd (tE (eBin fGt (eBlt cLen (aCons (eVar 1) aNil)) (eC (.int 0)))) (tE (eBin fEq (eCall f_rank [] (aCons (eVar 2) aNil)) (eBin fAdd (eCall f_rank [] (aCons (eBin fIx (eBin fIx (eVar 1) (eUn fNeg (eC (.int 1)))) (eUn fNeg (eC (.int 1)))) aNil)) (eC (.int 1)))))) (sSetI 1 (eUn fNeg (eC (.int 1))) (eBin fAdd (eBin fIx (eVar 1) (eUn fNeg (eC (.int 1)))) (eVar 2))) (sApp 1 (eVar 2))))
  (sRet (eVar 1))))
def f_runs_of : Fn := fnS 1 3 b_runs_of
/-- write_sign(sign, escaped): slots 0=sign 1=escaped -/
def b_write_sign : S := (sSeq (sIf (tE (eBin fEq (eVar 0) (eC (.str [10])))) (sRet (eC (.str [92, 110]))) sNx)
  (sSeq (sIf (tE (eBin fEq (eVar 0) (eC (.str [9])))) (sRet (eC (.str [92, 116]))) sNx)
  (sSeq (sIf (tE (eBin fIn (eVar 0) (eVar 1))) (sRet (eBin fAdd (eC (.str [92])) (eVar 0))) sNx)
  (sRet (eVar 0)))))
def f_write_sign : Fn := fnS 2 2 b_write_sign
/-- write_run(run): slots 0=run 1=sign -/
def b_write_run : S := (sSeq (sIf (tE (eBin fLt (eBlt cLen (aCons (eVar 0) aNil)) (eC (.int 3)))) (sRet (eMet fJoin (eC (.str [])) (aCons (eLc [1] (iSq (eVar 0)) (gN 1) tYesM (eCall f_write_sign [] (aCons (eVar 1) (aCons (eC (.str c_BRACKET_SIGNS)) aNil)))) aNil))) sNx)
  (sRet (eBin fAdd (eBin fAdd (eCall f_write_sign [] (aCons (eBin fIx (eVar 0) (eC (.int 0))) (aCons (eC (.str c_BRACKET_SIGNS)) aNil))) (eC (.str [45]))) (eCall f_write_sign [] (aCons (eBin fIx (eVar 0) (eUn fNeg (eC (.int 1)))) (aCons (eC (.str c_BRACKET_SIGNS)) aNil))))))
def f_write_run : Fn := fnS 1 2 b_write_run
/-- write_entries(signs): slots 0=signs 1=run -/
def b_write_entries : S := (sRet (eMet fJoin (eC (.str [])) (aCons (eLc [1] (iSq (eCall f_runs_of [] (aCons (eVar 0) aNil))) (gN 1) tYesM (eCall f_write_run [] (aCons (eVar 1) aNil))) aNil)))
def f_write_entries : Fn := fnS 1 2 b_write_entries
/-- write_set(signs): slots 0=signs 1=others 2=direct 3=negated 4=sign -/
def b_write_set : S := (sSeq (sIf (tE (eBin fEq (eBlt cLen (aCons (eVar 0) aNil)) (eC (.int 1)))) (sRet (eCall f_write_sign [] (aCons (eVar 0) (aCons (eC (.str c_SPECIAL_SIGNS)) aNil)))) sNx)
  (sSeq (sAsg 1 (eMet fJoin (eC (.str [])) (aCons (eLc [4] (iSq (eC (.str c_SIGNS))) (gN 4) (tE (eBin fNi (eVar 4) (eVar 0))) (eVar 4)) aNil)))
  (sSeq (sIf (tE (eBin fEq (eVar 1) (eC (.str [10])))) (sRet (eC (.str [46]))) sNx)
  (sSeq (sAsg 2 (eBin fAdd (eBin fAdd (eC (.str [91])) (eCall f_write_entries [] (aCons (eVar 0) aNil))) (eC (.str [93]))))
  (sSeq (sAsg 3 (eBin fAdd (eBin fAdd (eC (.str [91, 94])) (eCall f_write_entries [] (aCons (eVar 1) aNil))) (eC (.str [93]))))
  (sSeq (sIf (tE (eBin fLt (eBlt cLen (aCons (eVar 3) aNil)) (eBlt cLen (aCons (eVar 2) aNil)))) (sRet (eVar 3)) sNx)
  (sRet (eVar 2))))))))
def f_write_set : Fn := fnS 1 5 b_write_set
/-- write_child(child, wrapped): slots 0=child 1=wrapped -/
def b_write_child (f_write_child f_write_pattern : Fn) : S := (sSeq (sIf (tE (eBin fIn (eBin fIx (eVar 0) (eC (.int 0))) (eVar 1))) (sRet (eBin fAdd (eBin fAdd (eC (.str [40])) (eCall f_write_pattern [] (aCons (eVar 0) aNil))) (eC (.str [41])))) sNx)
  (sRet (eCall f_write_pattern [] (aCons (eVar 0) aNil))))
/-- write_pattern(tree): slots 0=tree 1=kind 2=body 3=head 4=part 5=branch -/
def b_write_pattern (f_write_child f_write_pattern : Fn) : S := (sSeq (sAsg 1 (eBin fIx (eVar 0) (eC (.int 0))))
  (sSeq (sIf (tE (eBin fEq (eVar 1) (eC (.str [115, 101, 116])))) (sRet (eCall f_write_set [] (aCons (eBin fIx (eVar 0) (eC (.int 1))) aNil))) sNx)
  (sSeq (sIf (tE (eBin fEq (eVar 1) (eC (.str [115, 101, 113])))) (sRet (eMet fJoin (eC (.str [])) (aCons (eLc [4] (iSq (eBin fIx (eVar 0) (eC (.int 1)))) (gN 4) tYesM (eCall f_write_child [] (aCons (eVar 4) (aCons (eTup (aCons (eC (.str [97, 108, 116])) (aCons (eC (.str tx_empty)) (aCons (eC (.str [115, 101, 113])) aNil)))) aNil)))) aNil))) sNx)
  (sSeq (sIf (tE (eBin fEq (eVar 1) (eC (.str [97, 108, 116])))) (sRet (eMet fJoin (eC (.str [124])) (aCons (eLc [5] (iSq (eBin fIx (eVar 0) (eC (.int 1)))) (gN 5) tYesM (eCall f_write_child [] (aCons (eVar 5) (aCons (eTup (aCons (eC (.str [97, 108, 116])) aNil)) aNil)))) aNil))) sNx)
  (sSeq (sIf (tE (eBin fEq (eVar 1) (eC (.str tx_repeat)))) (sSeq (sAsg 2 (eCall f_write_child [] (aCons (eBin fIx (eVar 0) (eC (.int 1))) (aCons (eTup (aCons (eC (.str [97, 108, 116])) (aCons (eC (.str [115, 101, 113])) (aCons (eC (.str tx_empty)) (aCons (eC (.str tx_repeat)) aNil))))) aNil))))
  (sRet (eBin fAdd (eVar 2) (eCall f_write_repeat [] (aCons (eBin fIx (eVar 0) (eC (.int 2))) (aCons (eBin fIx (eVar 0) (eC (.int 3))) (aCons (eBin fIx (eVar 0) (eC (.int 4))) aNil))))))) sNx)
  (sSeq (sIf (tE (eBin fEq (eVar 1) (eC (.str tx_group)))) (sRet (eBin fAdd (eBin fAdd (eBin fAdd (eBin fAdd (eC (.str tx_as)) (eBin fIx (eVar 0) (eC (.int 1)))) (eC (.str [58]))) (eCall f_write_pattern [] (aCons (eBin fIx (eVar 0) (eC (.int 2))) aNil))) (eC (.str [125])))) sNx)
  (sSeq (sIf (tE (eBin fEq (eVar 1) (eC (.str tx_look)))) (sSeq (sAsg 3 (eIf (tE (eBin fIx (eVar 0) (eC (.int 2)))) (eC (.str [123])) (eC (.str tx_not))))
  (sRet (eBin fAdd (eBin fAdd (eBin fAdd (eBin fAdd (eVar 3) (eBin fIx (eVar 0) (eC (.int 1)))) (eC (.str [58]))) (eCall f_write_pattern [] (aCons (eBin fIx (eVar 0) (eC (.int 3))) aNil))) (eC (.str [125]))))) sNx)
  (sSeq (sIf (tE (eBin fEq (eVar 1) (eC (.str tx_edge)))) (sRet (eBin fAdd (eBin fAdd (eC (.str [123])) (eBin fIx (eVar 0) (eC (.int 1)))) (eC (.str [125])))) sNx)
  (sSeq (sIf (tE (eBin fEq (eVar 1) (eC (.str tx_same)))) (sRet (eBin fAdd (eBin fAdd (eC (.str tx_same2)) (eBin fIx (eVar 0) (eC (.int 1)))) (eC (.str [125])))) sNx)
  (sRet (eC (.str []))))))))))))
mutual
def fx_write_child : Nat → Fn
  | 0 => fun _ => none
  | n + 1 => fnS 2 2 (b_write_child (fx_write_child n) (fx_write_pattern n))
def fx_write_pattern : Nat → Fn
  | 0 => fun _ => none
  | n + 1 => fnS 1 6 (b_write_pattern (fx_write_child n) (fx_write_pattern n))
end
def f_write_child : Fn := fx_write_child 60
theorem fx_write_child_len : ∀ (n : Nat) (gs : List Ag) (z : Vl × List (List D)), fx_write_child n gs = some z → gs.length = 2
  | 0, _, _, h => by unfold fx_write_child at h; cases h
  | n + 1, gs, z, h => by unfold fx_write_child at h; exact fnS_len gs z h
def f_write_pattern : Fn := fx_write_pattern 60
theorem fx_write_pattern_len : ∀ (n : Nat) (gs : List Ag) (z : Vl × List (List D)), fx_write_pattern n gs = some z → gs.length = 1
  | 0, _, _, h => by unfold fx_write_pattern at h; cases h
  | n + 1, gs, z, h => by unfold fx_write_pattern at h; exact fnS_len gs z h
/-- law(_law_script): slots 0=_law_script 1=_law_draw_here 2=_law_texts 3=_law_told 4=_law_k 5=_law_due 6=_law_found 7=_law_text -/
def b_law : S := (sSeq (sAsg 1 (eCall f_law_draw [] (aCons (eVar 0) aNil)))
  (sSeq (sAsg 2 (eLc [4] (iR1 (aCons (eC (.int 6)) aNil)) (gN 4) tYesM (eCall f_law_drawn_set [true] (aCons (eVar 1) aNil))))
  (sSeq (sAsg 3 (eLc [7] (iSq (eVar 2)) (gN 7) tYesM (eCall f_write_set [] (aCons (eVar 7) aNil))))
  (sSeq (sFor (iR1 (aCons (eC (.int 6)) aNil)) (gN 4) (sSeq (sAsg 5 (eCall f_law_written_set [] (aCons (eBin fIx (eVar 2) (eVar 4)) aNil)))
  (sFor (iSq (eLst (aCons (eBin fIx (eVar 3) (eVar 4)) (aCons (eCall f_write_set [] (aCons (eBin fIx (eVar 2) (eVar 4)) aNil)) (aCons (eCall f_write_pattern [] (aCons (eTup (aCons (eC (.str [115, 101, 116])) (aCons (eBin fIx (eVar 2) (eVar 4)) aNil))) aNil)) aNil))))) (gN 6) (sIf (tOr (tNot (tE (eUn (fIsi "str") (eVar 6)))) (tE (eBin fNe (eVar 6) (eVar 5)))) (sRet (eC (.bl false))) sNx))))
  (sRet (eC (.bl true)))))))
def f_law : Fn := fnS 1 8 b_law
end K09
set_option Elab.async false
set_option linter.all false
set_option maxRecDepth 100000
set_option maxHeartbeats 4000000
namespace Runs
open Sw

abbrev BR : List Nat := [92, 91, 93, 94, 45]
def esc (m : List Nat) (c : Nat) : List Nat := if c = 10 then [92, 110] else if c = 9 then [92, 116] else if c ∈ m then [92, c] else [c]
theorem esc_len {m : List Nat} {c : Nat} : (esc m c).length ≤ 2 := by
  unfold esc
  (repeat' split) <;> simp
def wr (run : List Nat) : List Nat := if run.length < 3 then (run.map (esc BR)).flatten else esc BR (run.getD 0 0) ++ [45] ++ esc BR (lastC run)
theorem wr_len {run : List Nat} : (wr run).length ≤ 5 := by
  unfold wr
  split
  · rename_i h
    rw [List.length_flatten]
    have := sum_le (cs := run.map (esc BR)) (k := 2) (fun c hc => by obtain ⟨d, _, rfl⟩ := List.mem_map.mp hc; exact esc_len)
    rw [List.length_map] at this
    exact Nat.le_trans this (by omega)
  · have h1 := esc_len (m := BR) (c := run.getD 0 0)
    have h2 := esc_len (m := BR) (c := lastC run)
    rw [List.length_append, List.length_append, List.length_singleton]
    omega
def nexto (r : List Nat) (c : Nat) : Bool := decide (findC SGN c = findC SGN (lastC r) + 1)
def rst (R : List (List Nat)) (c : Nat) : List (List Nat) := match R.getLast? with
  | some r => if nexto r c = true then R.dropLast ++ [r ++ [c]] else R ++ [[c]]
  | none => [[c]]
theorem rst_nil {c : Nat} : rst [] c = [[c]] := rfl
theorem rst_app {R : List (List Nat)} {r : List Nat} {c : Nat} : rst (R ++ [r]) c = if nexto r c = true then R ++ [r ++ [c]] else R ++ [r] ++ [[c]] := by
  unfold rst
  rw [List.getLast?_concat, List.dropLast_concat]
def runs (cs : List Nat) : List (List Nat) := cs.foldl rst []
theorem runs_app {cs : List Nat} {c : Nat} : runs (cs ++ [c]) = rst (runs cs) c := by unfold runs; rw [List.foldl_append]; rfl
/-- each run has a sign, and there are no more runs than signs -/
theorem runs_ok : ∀ cs : List Nat, (∀ r ∈ runs cs, r ≠ [] ∧ r.length ≤ cs.length ∧ ∀ c ∈ r, c ∈ cs) ∧ (runs cs).length ≤ cs.length := by
  intro cs
  have key : ∀ (n : Nat), (∀ r ∈ runs (cs.take n), r ≠ [] ∧ r.length ≤ n ∧ ∀ c ∈ r, c ∈ cs) ∧ (runs (cs.take n)).length ≤ n := by
    intro n
    induction n with
    | zero => exact ⟨(fun r h => by cases h), Nat.le_refl _⟩
    | succ n ih =>
      by_cases hn : n < cs.length
      · rw [take_s (List.getElem?_eq_getElem hn), runs_app]
        have hc : cs[n] ∈ cs := List.getElem_mem _
        rcases List.eq_nil_or_concat (runs (cs.take n)) with e | ⟨R, r, e⟩
        · rw [e, rst_nil]
          refine ⟨fun r h => ?_, by simp⟩
          rw [List.mem_singleton.mp h]
          exact ⟨by simp, by simp, fun c h => by rw [List.mem_singleton.mp h]; exact hc⟩
        · rw [List.concat_eq_append] at e
          rw [e] at ih ⊢
          rw [rst_app]
          have hr := ih.1 r (by simp)
          split
          · refine ⟨fun x hx => ?_, by have := ih.2; simp only [List.length_append, List.length_singleton] at this ⊢; omega⟩
            rcases List.mem_append.mp hx with z | z
            · have := ih.1 x (by simp [z]); exact ⟨this.1, by omega, this.2.2⟩
            · rw [List.mem_singleton.mp z]
              refine ⟨by simp, by rw [List.length_append, List.length_singleton]; have := hr.2.1; omega, fun c hc' => ?_⟩
              rcases List.mem_append.mp hc' with w | w
              · exact hr.2.2 c w
              · rw [List.mem_singleton.mp w]; exact hc
          · refine ⟨fun x hx => ?_, by have := ih.2; simp only [List.length_append, List.length_singleton] at this ⊢; omega⟩
            rcases List.mem_append.mp hx with z | z
            · have := ih.1 x z; exact ⟨this.1, by omega, this.2.2⟩
            · rw [List.mem_singleton.mp z]
              exact ⟨by simp, by simp, fun c h => by rw [List.mem_singleton.mp h]; exact hc⟩
      · rw [List.take_of_length_le (by omega)]
        rw [List.take_of_length_le (by omega)] at ih
        exact ⟨fun r hr => let h := ih.1 r hr; ⟨h.1, by have := h.2.1; omega, h.2.2⟩, by omega⟩
  have := key cs.length
  rw [List.take_length] at this
  exact this
def ent (cs : List Nat) : List Nat := ((runs cs).map wr).flatten
theorem ent_len {cs : List Nat} : (ent cs).length ≤ 5 * cs.length := by
  unfold ent
  rw [List.length_flatten]
  have h := sum_le (cs := (runs cs).map wr) (k := 5) (fun c hc => by obtain ⟨d, _, rfl⟩ := List.mem_map.mp hc; exact wr_len)
  rw [List.length_map] at h
  have := (runs_ok cs).2
  exact Nat.le_trans h (Nat.mul_le_mul_left 5 this)
/-- the law's walk over the 96 signs -/
structure Wk (cs : List Nat) (k : Nat) (W run : List Nat) : Prop where
  ex : ∃ C : List (List Nat), runs ((SGN.take k).filter fun c => decide (c ∈ cs)) = C ++ (if run = [] then [] else [run]) ∧ W = (C.map wr).flatten ∧ (run ≠ [] → findC SGN (lastC run) + 1 = k) ∧ (run = [] → ∀ C' r, C = C' ++ [r] → findC SGN (lastC r) + 1 < k)
  ln : W.length ≤ 5 * k
  rl : run.length ≤ k
theorem wk_start {cs : List Nat} : Wk cs 0 [] [] := ⟨⟨[], rfl, rfl, fun h => absurd rfl h, fun _ C' r h => by simp at h⟩, Nat.le_refl _, Nat.le_refl _⟩
theorem wk_in {cs W run : List Nat} {k : Nat} (h : Wk cs k W run) (hk : k < SGN.length) (hc : SGN[k] ∈ cs) : Wk cs (k + 1) W (run ++ [SGN[k]]) := by
  obtain ⟨C, e1, e2, e3, e4⟩ := h.ex
  have fk := findC_at hk
  refine ⟨⟨C, ?_, e2, fun _ => by rw [lastC_app, fk]; rfl, fun z => by simp at z⟩, by have := h.ln; omega, by have := h.rl; simp; exact this⟩
  rw [take_s (List.getElem?_eq_getElem hk), List.filter_append, List.filter_cons, if_pos (by simpa using hc), List.filter_nil, runs_app, e1, if_neg (by simp : ¬ run ++ [SGN[k]] = [])]
  by_cases z : run = []
  · subst z
    rw [if_pos rfl, List.append_nil]
    rcases List.eq_nil_or_concat C with e | ⟨R, r, e⟩
    · rw [e, rst_nil]; rfl
    · rw [List.concat_eq_append] at e
      have := e4 rfl R r e
      rw [e, rst_app, if_neg (by unfold nexto; rw [fk]; simp; omega)]
      rfl
  · rw [if_neg z, rst_app, if_pos (by unfold nexto; rw [fk, e3 z]; simp)]
theorem wk_out {cs W run : List Nat} {k : Nat} (h : Wk cs k W run) (hc : ∀ c, SGN[k]? = some c → c ∉ cs) : Wk cs (k + 1) (W ++ wr run) [] := by
  obtain ⟨C, e1, e2, e3, e4⟩ := h.ex
  have et : (SGN.take (k + 1)).filter (fun c => decide (c ∈ cs)) = (SGN.take k).filter fun c => decide (c ∈ cs) := by
    cases e : SGN[k]? with
    | none =>
      have := List.getElem?_eq_none_iff.mp e
      rw [List.take_of_length_le (by omega), List.take_of_length_le (by omega)]
    | some c =>
      rw [take_s e, List.filter_append, List.filter_cons, if_neg (by simpa using hc c e), List.filter_nil, List.append_nil]
  have wl := wr_len (run := run)
  refine ⟨?_, by have := h.ln; rw [List.length_append]; omega, by simp⟩
  rw [et]
  by_cases z : run = []
  · subst z
    refine ⟨C, by rw [e1], ?_, fun n => absurd rfl n, fun _ C' r hr => by have := e4 rfl C' r hr; omega⟩
    show W ++ [] = _
    rw [List.append_nil, e2]
  · refine ⟨C ++ [run], by rw [e1, if_neg z, if_pos rfl, List.append_nil], ?_, fun n => absurd rfl n, fun _ C' r hr => ?_⟩
    · rw [e2, List.map_append, List.flatten_append]
      simp
    · have := (List.append_inj' hr rfl).2
      cases this
      have := e3 z
      omega
theorem wk_end {cs W run : List Nat} (h : Wk cs 97 W []) (hs : cs.Sublist SGN) : W = ent cs := by
  obtain ⟨C, e1, e2, e3, e4⟩ := h.ex
  rw [List.take_of_length_le (by rw [SGN_len]; decide), filter_sub hs (ascl_nodup sgn_asc), if_pos rfl, List.append_nil] at e1
  rw [e2, ← e1]
  rfl
/-- the signs that are not there -/
def oth (cs : List Nat) : List Nat := SGN.filter fun c => !decide (c ∈ cs)
theorem oth_sub {cs : List Nat} : (oth cs).Sublist SGN := List.filter_sublist
abbrev SP : List Nat := [92, 124, 42, 43, 63, 60, 62, 40, 41, 91, 93, 123, 125, 46, 126, 94]
def wset (cs : List Nat) : List Nat := match cs with
  | [c] => esc SP c
  | cs => if oth cs = [10] then [46] else if ([91, 94] ++ ent (oth cs) ++ [93]).length < ([91] ++ ent cs ++ [93]).length then [91, 94] ++ ent (oth cs) ++ [93] else [91] ++ ent cs ++ [93]
end Runs
set_option Elab.async false
set_option linter.all false
set_option maxRecDepth 100000
set_option maxHeartbeats 4000000
namespace K09
open Sw L2 Runs

theorem next_eq : f_law_next = lawNext := rfl
theorem draw_eq : f_law_draw = lawDraw := rfl
theorem signs_eq : f_law_signs = lawSigns := rfl
theorem signs_c : c_SIGNS = SGN := by decide
theorem SGN_lim : SGN.length ≤ lim := by rw [SGN_len]; decide

theorem escaped_ok {m : List Nat} {c : Nat} {Q : Vl → List (List D) → Prop} (q : Q (.fz (.str (esc m c))) []) : Fv f_law_escaped [.da (.str [c]), .da (.str m)] Q := by
  refine fv_fn rfl ?_
  refine nrm ?_
  unfold b_law_escaped
  unfold esc at q
  refine go ?_
  refine brn_d (fun z => ?_) (fun z => ?_)
  · rw [if_pos (List.cons.inj z).1] at q
    refine go ?_
    refine nrm ?_
    exact q
  rw [if_neg fun w => z (by rw [w])] at q
  refine go ?_
  refine brn_d (fun z => ?_) (fun z => ?_)
  · rw [if_pos (List.cons.inj z).1] at q
    refine go ?_
    refine nrm ?_
    exact q
  rw [if_neg fun w => z (by rw [w])] at q
  refine go ?_
  refine brn_d (fun z => ?_) (fun z => ?_)
  · rw [if_pos z] at q
    refine go ?_
    try refine giv_adds (by show 2 ≤ 16777216; decide) ?_
    refine go ?_
    refine nrm ?_
    exact q
  rw [if_neg z] at q
  refine go ?_
  refine nrm ?_
  exact q
theorem sign_ok {m : List Nat} {c : Nat} {Q : Vl → List (List D) → Prop} (q : Q (.fz (.str (esc m c))) []) : Fv f_write_sign [.da (.str [c]), .da (.str m)] Q := escaped_ok q
theorem rank_ok {c : Nat} {Q : Vl → List (List D) → Prop} (q : Q (.fz (.int (findC SGN c))) []) : Fv f_rank [.da (.str [c])] Q := by
  refine fv_fn rfl ?_
  refine nrm ?_
  unfold b_rank
  rw [signs_c]
  refine go ?_
  refine nrm ?_
  exact q
theorem run_ok {r : List Nat} (hn : r ≠ []) (hl : r.length ≤ 96) {Q : Vl → List (List D) → Prop} (q : Q (.fz (.str (wr r))) []) : Fv f_write_run [.da (.str r)] Q := by
  have rl : r.length ≤ lim := Nat.le_trans hl (by decide)
  refine fv_fn rfl ?_
  refine nrm ?_
  unfold b_write_run
  unfold wr at q
  refine go ?_
  refine brn_d (fun z => ?_) (fun z => ?_)
  · rw [if_pos (by omega)] at q
    refine go ?_
    refine ev_lc (fun k acc ρ => acc = ((r.take k).map (esc BR)).map D.str ∧ ρ = [.d (.str r), .no]) (ev_isq ?_)
    refine go ?_
    refine ⟨_, _, _, rfl, rfl, rfl, ⟨rfl, rfl⟩, ?_, ?_⟩
    · rintro i x hx acc ρ ⟨rfl, rfl⟩
      obtain ⟨c, hi, rfl⟩ := map_get hx
      refine ⟨_, asg_z rfl, ?_⟩
      refine nrm ?_
      refine go ?_
      refine sign_ok ?_
      refine go ?_
      refine nrm ?_
      refine ⟨_, _, rfl, ?_, ?_, rfl⟩
      · rw [List.length_map, List.length_map, List.length_take]; show _ < 16777216; omega
      · rw [take_s hi, List.map_append, List.map_append]; rfl
    · rintro acc ρ' ⟨rfl, rfl⟩
      rw [List.length_map, List.take_length]
      refine nrm ?_
      refine go ?_
      refine giv_join ?_ ?_
      · have := sum_le (cs := r.map (esc BR)) (k := 2) (fun c hc => by obtain ⟨d, _, rfl⟩ := List.mem_map.mp hc; exact esc_len)
        rw [List.length_map] at this
        exact Nat.le_trans this (by show _ ≤ 16777216; omega)
      refine go ?_
      refine nrm ?_
      exact q
  rw [if_neg (by omega)] at q
  have g0 := atI_first hn
  have g1 := atI_last hn
  refine go ?_
  refine sign_ok ?_
  have e1 := esc_len (m := BR) (c := r.getD 0 0)
  have e2 := esc_len (m := BR) (c := lastC r)
  refine go ?_
  try refine giv_adds (by rw [List.length_singleton]; show _ ≤ 16777216; exact Nat.le_trans (Nat.add_le_add_right e1 1) (by decide)) ?_
  refine go ?_
  refine sign_ok ?_
  refine go ?_
  try refine giv_adds (by rw [List.length_append, List.length_singleton]; show _ ≤ 16777216; exact Nat.le_trans (Nat.add_le_add (Nat.add_le_add_right e1 1) e2) (by decide)) ?_
  refine go ?_
  refine nrm ?_
  exact q
theorem runs_of_ok {cs : List Nat} (hl : cs.length ≤ 96) {Q : Vl → List (List D) → Prop} (q : Q (.fr ((runs cs).map D.str)) []) : Fv f_runs_of [.da (.str cs)] Q := by
  refine fv_fn rfl ?_
  refine nrm ?_
  unfold b_runs_of
  refine go ?_
  refine sv_then (fun ρ => ∃ s, ρ = [.d (.str cs), .ow ((runs cs).map D.str), s]) (sv_for (fun k ρ => ∃ s, ρ = [.d (.str cs), .ow ((runs (cs.take k)).map D.str), s] ∧ ioQ (some s) = false) (ev_isq ?_)) ?_
  · refine go ?_
    refine ⟨_, _, _, rfl, rfl, ⟨_, rfl, rfl⟩, ?_, ?_⟩
    · rintro i x hx ρ ⟨s, rfl, hs⟩
      obtain ⟨c, hi, rfl⟩ := map_get hx
      have ok := runs_ok (cs.take i)
      have hi' : i < cs.length := (List.getElem?_eq_some_iff.mp hi).1
      have len : (cs.take i).length ≤ 96 := by rw [List.length_take]; omega
      rw [take_s hi, runs_app]
      generalize hR : runs (cs.take i) = RR
      rw [hR] at ok
      refine ⟨_, asg_z (by exact hs), ?_⟩
      refine nrm ?_
      rcases List.eq_nil_or_concat RR with e | ⟨R, r, e⟩
      · subst e
        refine go ?_
        refine brn_df (by simp) ?_
        refine go ?_
        refine app rfl rfl (by show 0 < 16777216; decide) ?_
        refine nrm ?_
        exact ⟨_, rfl, rfl⟩
      · rw [List.concat_eq_append] at e
        subst e
        have hr := (ok.1 r (by simp)).1
        have l2 := ok.2
        rw [List.length_append, List.length_singleton] at l2
        have r96 : r.length ≤ 96 := Nat.le_trans (ok.1 r (by simp)).2.1 len
        have rl : r.length ≤ lim := Nat.le_trans r96 (by decide)
        have g1 : atI ((R ++ [r]).map D.str) (-1) = some (.str r) := by rw [List.map_append]; exact atI_lastD
        have g2 := atI_last hr
        refine go ?_
        refine brn_dt (by rw [List.length_map, List.length_append, List.length_singleton]; omega) ?_
        refine go ?_
        refine rank_ok ?_
        refine go ?_
        refine rank_ok ?_
        refine go ?_
        rw [rst_app]
        refine brn_d (fun z => ?_) (fun z => ?_)
        · rw [if_pos (show nexto r c = true from decide_eq_true z)]
          refine sv_seti_l ?_
          refine go ?_
          refine ⟨_, _, rfl, rfl, ?_⟩
          refine go ?_
          refine ⟨_, R.length, rfl, ?_, ?_⟩
          · unfold ixN
            rw [if_neg (by decide), if_pos (by rw [List.length_map, List.length_append, List.length_singleton]; omega)]
            rw [List.length_map, List.length_append, List.length_singleton]
            congr 1
            omega
          refine nrm ?_
          refine ⟨.d (.str [c]), ?_, rfl⟩
          have e : ((R ++ [r]).map D.str).set R.length (.str (r ++ [c])) = (R ++ [r ++ [c]]).map D.str := by
            rw [List.map_append, List.map_append]
            have := List.set_append_right (s := R.map D.str) (t := [r].map D.str) R.length (.str (r ++ [c])) (by simp)
            rw [this, List.length_map, Nat.sub_self]
            rfl
          rw [e]
        · rw [if_neg (by unfold nexto; rw [decide_eq_false z]; decide)]
          refine go ?_
          refine app rfl rfl (by rw [List.length_map, List.length_append, List.length_singleton]; show _ < 16777216; omega) ?_
          refine nrm ?_
          refine ⟨.d (.str [c]), ?_, rfl⟩
          rw [List.map_append (l₁ := R ++ [r])]
          rfl
    · rintro ρ ⟨s, rfl, hs⟩
      rw [List.length_map, List.take_length]
      exact ⟨s, rfl⟩
  · rintro ρ ⟨s, rfl⟩
    refine go ?_
    refine nrm ?_
    exact q
end K09
set_option Elab.async false
set_option linter.all false
set_option maxRecDepth 100000
set_option maxHeartbeats 4000000
namespace K09
open Sw L2 Runs

theorem entries_ok {cs : List Nat} (hl : cs.length ≤ 96) {Q : Vl → List (List D) → Prop} (q : Q (.fz (.str (ent cs))) []) : Fv f_write_entries [.da (.str cs)] Q := by
  have ok := runs_ok cs
  refine fv_fn rfl ?_
  refine nrm ?_
  unfold b_write_entries
  unfold ent at q
  refine go ?_
  refine ev_lc (fun k acc ρ => acc = (((runs cs).take k).map wr).map D.str ∧ ρ = [.d (.str cs), .no]) (ev_isq ?_)
  refine go ?_
  refine runs_of_ok hl ?_
  refine go ?_
  refine ⟨_, _, _, rfl, rfl, rfl, ⟨rfl, rfl⟩, ?_, ?_⟩
  · rintro i x hx acc ρ ⟨rfl, rfl⟩
    obtain ⟨r, hi, rfl⟩ := mapS_get hx
    have hr := ok.1 r (List.mem_of_getElem? hi)
    refine ⟨_, asg_z rfl, ?_⟩
    refine nrm ?_
    refine go ?_
    refine run_ok hr.1 (Nat.le_trans hr.2.1 hl) ?_
    refine go ?_
    refine nrm ?_
    refine ⟨_, _, rfl, ?_, ?_, rfl⟩
    · rw [List.length_map, List.length_map, List.length_take]
      have := ok.2
      show _ < 16777216
      omega
    · rw [take_s hi, List.map_append, List.map_append]; rfl
  · rintro acc ρ' ⟨rfl, rfl⟩
    rw [List.length_map, List.take_length]
    refine nrm ?_
    refine go ?_
    refine giv_join ?_ ?_
    · have := sum_le (cs := (runs cs).map wr) (k := 5) (fun c hc => by obtain ⟨d, _, rfl⟩ := List.mem_map.mp hc; exact wr_len)
      rw [List.length_map] at this
      exact Nat.le_trans this (by have := ok.2; show _ ≤ 16777216; omega)
    refine go ?_
    refine nrm ?_
    exact q
theorem inside_ok {cs : List Nat} (hs : cs.Sublist SGN) {Q : Vl → List (List D) → Prop} (q : Q (.fz (.str (ent cs))) []) : Fv f_law_inside [.da (.str cs)] Q := by
  have hS := SGN_lim
  refine fv_fn rfl ?_
  refine nrm ?_
  unfold b_law_inside
  rw [signs_eq]
  refine go ?_
  refine fv_signs ?_
  refine go ?_
  refine sv_then (fun ρ => ∃ r s s', ρ = [.d (.str cs), .d (.str SGN), .d (.str BR), .d (.str (ent cs)), r, s, s'])
    (sv_for (fun k ρ => ∃ W run s, Wk cs k W run ∧ (k = 97 → run = []) ∧ ρ = [.d (.str cs), .d (.str SGN), .d (.str BR), .d (.str W), .d (.str run), s, .no] ∧ ioQ (some s) = false) (ev_ir1 ?_)) ?_
  · refine go ?_
    refine ⟨_, rfl, by decide, by decide, ⟨[], [], _, wk_start, fun _ => rfl, rfl, rfl⟩, ?_, ?_⟩
    · rintro i x hx ρ ⟨W, run, s, wk, _, rfl, h5⟩
      obtain ⟨hi, rfl⟩ := rngL_get hx
      have hi : i < 97 := hi
      have wl := wk.ln
      have rl := wk.rl
      have rl' : run.length ≤ lim := Nat.le_trans rl (by show _ ≤ 16777216; omega)
      refine ⟨_, asg_z (by exact h5), ?_⟩
      refine nrm ?_
      -- what a gap does
      have gap : (∀ c, SGN[i]? = some c → c ∉ cs) → Sv (sSeq (sIf (tE (eBin fGt (eBlt cLen (aCons (eVar 4) aNil)) (eC (.int 2)))) (sAsg 4 (eBin fAdd (eBin fAdd (eCall f_law_escaped [] (aCons (eBin fIx (eVar 4) (eC (.int 0))) (aCons (eVar 2) aNil))) (eC (.str [45]))) (eCall f_law_escaped [] (aCons (eBin fIx (eVar 4) (eUn fNeg (eC (.int 1)))) (aCons (eVar 2) aNil))))) (sAsg 4 (eMet fJoin (eC (.str [])) (aCons (eLc [6] (iSq (eVar 4)) (gN 6) tYesM (eCall f_law_escaped [] (aCons (eVar 6) (aCons (eVar 2) aNil)))) aNil))))
  (sSeq (sAsg 3 (eBin fAdd (eVar 3) (eVar 4)))
  (sAsg 4 (eC (.str []))))) [.d (.str cs), .d (.str SGN), .d (.str BR), .d (.str W), .d (.str run), .d (.int (0 + i)), .no] fun fl ρ => fl = .nx ∧ ∃ W, Wk cs (i + 1) W [] ∧ ρ = [.d (.str cs), .d (.str SGN), .d (.str BR), .d (.str W), .d (.str []), .d (.int (0 + i)), .no] := by
        intro hc
        have wlen := wr_len (run := run)
        have wo := wk_out wk hc
        refine sv_then (fun ρ => ρ = [.d (.str cs), .d (.str SGN), .d (.str BR), .d (.str W), .d (.str (wr run)), .d (.int (0 + i)), .no]) ?_ ?_
        · refine go ?_
          refine brn_d (fun z => ?_) (fun z => ?_)
          · have hn : run ≠ [] := fun e => by rw [e] at z; exact absurd z (by decide)
            have g0 := atI_first hn
            have g1 := atI_last hn
            refine go ?_
            refine escaped_ok ?_
            have e1 := esc_len (m := BR) (c := run.getD 0 0)
            have e2 := esc_len (m := BR) (c := lastC run)
            refine go ?_
            refine escaped_ok ?_
            refine go ?_
            try refine giv_adds (by rw [List.length_append, List.length_singleton]; exact Nat.le_trans (Nat.add_le_add (Nat.add_le_add_right e1 1) e2) (by decide)) ?_
            refine go ?_
            refine nrm ?_
            unfold wr
            rw [if_neg (by omega)]
          · refine go ?_
            refine ev_lc (fun k acc ρ => acc = ((run.take k).map (esc BR)).map D.str ∧ ρ = [.d (.str cs), .d (.str SGN), .d (.str BR), .d (.str W), .d (.str run), .d (.int (0 + i)), .no]) (ev_isq ?_)
            refine go ?_
            refine ⟨_, _, _, rfl, rfl, rfl, ⟨rfl, rfl⟩, ?_, ?_⟩
            · rintro j x hx acc ρ ⟨rfl, rfl⟩
              obtain ⟨c, hj, rfl⟩ := map_get hx
              refine ⟨_, asg_z rfl, ?_⟩
              refine nrm ?_
              refine go ?_
              refine escaped_ok ?_
              refine go ?_
              refine nrm ?_
              refine ⟨_, _, rfl, ?_, ?_, rfl⟩
              · rw [List.length_map, List.length_map, List.length_take]; show _ < 16777216; omega
              · rw [take_s hj, List.map_append, List.map_append]; rfl
            · rintro acc ρ' ⟨rfl, rfl⟩
              rw [List.length_map, List.take_length]
              refine nrm ?_
              refine go ?_
              refine giv_join ?_ ?_
              · have := sum_le (cs := run.map (esc BR)) (k := 2) (fun c hc => by obtain ⟨d, _, rfl⟩ := List.mem_map.mp hc; exact esc_len)
                rw [List.length_map] at this
                exact Nat.le_trans this (by show _ ≤ 16777216; omega)
              refine go ?_
              refine nrm ?_
              unfold wr
              rw [if_pos (by omega)]
        · rintro ρ rfl
          refine go ?_
          refine nrm ?_
          exact ⟨rfl, _, wo, rfl⟩
      have fin : (∀ c, SGN[i]? = some c → c ∉ cs) → Sv (sSeq (sIf (tE (eBin fGt (eBlt cLen (aCons (eVar 4) aNil)) (eC (.int 2)))) (sAsg 4 (eBin fAdd (eBin fAdd (eCall f_law_escaped [] (aCons (eBin fIx (eVar 4) (eC (.int 0))) (aCons (eVar 2) aNil))) (eC (.str [45]))) (eCall f_law_escaped [] (aCons (eBin fIx (eVar 4) (eUn fNeg (eC (.int 1)))) (aCons (eVar 2) aNil))))) (sAsg 4 (eMet fJoin (eC (.str [])) (aCons (eLc [6] (iSq (eVar 4)) (gN 6) tYesM (eCall f_law_escaped [] (aCons (eVar 6) (aCons (eVar 2) aNil)))) aNil))))
  (sSeq (sAsg 3 (eBin fAdd (eVar 3) (eVar 4)))
  (sAsg 4 (eC (.str []))))) [.d (.str cs), .d (.str SGN), .d (.str BR), .d (.str W), .d (.str run), .d (.int (0 + i)), .no] fun fl ρ2 => match fl with
      | .nx => ∃ W run s, Wk cs (i + 1) W run ∧ (i + 1 = 97 → run = []) ∧ ρ2 = [.d (.str cs), .d (.str SGN), .d (.str BR), .d (.str W), .d (.str run), s, .no] ∧ ioQ (some s) = false
      | _ => False := fun hc => Sv.mono (gap hc) fun fl ρ h => by
        obtain ⟨rfl, W, h1, rfl⟩ := h
        exact ⟨W, [], _, h1, fun _ => rfl, rfl, rfl⟩
      refine go ?_
      refine brn_d (fun z => ?_) (fun z => ?_)
      · have hi2 : i < SGN.length := by rw [SGN_len]; omega
        have g : atI SGN ((0 : Int) + i) = some (SGN[i]'hi2) := by rw [atI_int (by omega) (by omega)]; congr 2; omega
        refine go ?_
        refine brn_d (fun w => ?_) (fun w => ?_)
        · refine go ?_
          refine nrm ?_
          exact ⟨W, _, _, wk_in wk hi2 w, fun e => by omega, rfl, rfl⟩
        · refine Sv.mono (fin fun c hc => by rw [List.getElem?_eq_getElem hi2] at hc; cases hc; exact w) fun fl ρ h => ?_
          cases fl with
          | nx => exact h
          | bk => exact h.elim
          | ct => exact h.elim
          | rt v => exact h.elim
      · refine go1 ?_
        refine Sv.mono (fin fun c hc => by rw [List.getElem?_eq_none (by rw [SGN_len]; omega)] at hc; cases hc) fun fl ρ h => ?_
        cases fl with
        | nx => exact h
        | bk => exact h.elim
        | ct => exact h.elim
        | rt v => exact h.elim
    · rintro ρ ⟨W, run, s, wk, hr, rfl, h5⟩
      rw [rngL_len] at wk hr
      have hr := hr rfl
      subst hr
      have := wk_end (run := []) wk hs
      subst this
      exact ⟨_, _, _, rfl⟩
  · rintro ρ ⟨r, s, s', rfl⟩
    refine go ?_
    refine nrm ?_
    exact q
end K09
set_option Elab.async false
set_option linter.all false
set_option maxRecDepth 100000
set_option maxHeartbeats 4000000
namespace K09
open Sw L2 Runs

theorem oth_lc {cs : List Nat} {s1 s2 s3 : Sl} {src : M (List D)} {Q : Vl → Rho → Prop} (h : Ev src [.d (.str cs), s1, s2, s3, .no] fun xs ρ1 => xs = SGN.map (fun c => .str [c]) ∧ ρ1 = [.d (.str cs), s1, s2, s3, .no])
    (q : Q (.fr ((oth cs).map fun c => .str [c])) [.d (.str cs), s1, s2, s3, .no]) : Ev (eLc [4] src (gN 4) (tE (eBin fNi (eVar 4) (eVar 0))) (eVar 4)) [.d (.str cs), s1, s2, s3, .no] Q := by
  refine ev_lc (fun k acc ρ => acc = ((SGN.take k).filter fun c => !decide (c ∈ cs)).map (fun c => D.str [c]) ∧ ρ = [.d (.str cs), s1, s2, s3, .no]) ?_
  refine Ev.mono h fun xs ρ1 ⟨e1, e2⟩ => ?_
  subst e1 e2
  refine ⟨rfl, ⟨rfl, rfl⟩, ?_, ?_⟩
  · rintro i x hx acc ρ ⟨rfl, rfl⟩
    obtain ⟨c, hi, rfl⟩ := map_get hx
    have hi' : i < 96 := by have := (List.getElem?_eq_some_iff.mp hi).1; rw [SGN_len] at this; exact this
    refine ⟨_, asg_z rfl, ?_⟩
    refine nrm ?_
    refine go ?_
    refine brn_nd (fun z => ?_) (fun z => ?_)
    · refine go ?_
      refine nrm ?_
      refine ⟨_, _, rfl, ?_, ?_, rfl⟩
      · have := List.length_filter_le (fun c => !decide (c ∈ cs)) (SGN.take i)
        rw [List.length_take] at this
        rw [List.length_map]
        show _ < 16777216
        omega
      · rw [take_s hi, List.filter_append, List.filter_cons, if_pos (by simpa using z), List.map_append]; rfl
    · refine nrm ?_
      refine ⟨?_, rfl⟩
      rw [take_s hi, List.filter_append, List.filter_cons, if_neg (by simpa using z), List.filter_nil, List.append_nil]
  · rintro acc ρ' ⟨rfl, rfl⟩
    rw [List.length_map, List.take_length]
    refine nrm ?_
    exact q
theorem wset_ne {cs : List Nat} (h : cs.length ≠ 1) : wset cs = if oth cs = [10] then [46] else if ([91, 94] ++ ent (oth cs) ++ [93]).length < ([91] ++ ent cs ++ [93]).length then [91, 94] ++ ent (oth cs) ++ [93] else [91] ++ ent cs ++ [93] := by
  unfold wset
  split
  · exact absurd rfl h
  · rfl
theorem len1 {cs : List Nat} (h : cs.length = 1) : ∃ c, cs = [c] := List.length_eq_one_iff.mp h
theorem sub96 {cs : List Nat} (hs : cs.Sublist SGN) : cs.length ≤ 96 := by have := hs.length_le; rw [SGN_len] at this; exact this
theorem write_set_ok {cs : List Nat} (hs : cs.Sublist SGN) {Q : Vl → List (List D) → Prop} (q : Q (.fz (.str (wset cs))) []) : Fv f_write_set [.da (.str cs)] Q := by
  have h96 := sub96 hs
  have o96 := sub96 (oth_sub (cs := cs))
  have cl : cs.length ≤ lim := Nat.le_trans h96 (by decide)
  have l1 := ent_len (cs := cs)
  have l2 := ent_len (cs := oth cs)
  refine fv_fn rfl ?_
  refine nrm ?_
  unfold b_write_set
  rw [signs_c]
  refine go ?_
  refine brn_d (fun z => ?_) (fun z => ?_)
  · obtain ⟨c, rfl⟩ := len1 (cs := cs) (by omega)
    refine go ?_
    refine sign_ok ?_
    refine go ?_
    refine nrm ?_
    exact q
  rw [wset_ne (by omega)] at q
  refine go ?_
  refine oth_lc ?_ ?_
  · refine ev_isq ?_
    refine go ?_
    exact ⟨_, _, _, rfl, rfl, rfl, rfl⟩
  refine go ?_
  refine giv (join_signs (by show _ ≤ 16777216; omega)) ?_
  refine go ?_
  refine brn_d (fun w => ?_) (fun w => ?_)
  · rw [if_pos w] at q
    refine go ?_
    refine nrm ?_
    exact q
  rw [if_neg w] at q
  refine go ?_
  refine entries_ok h96 ?_
  refine go ?_
  try refine giv_adds (by show 1 + _ ≤ 16777216; omega) ?_
  refine go ?_
  try refine giv_adds (by rw [List.length_append]; show (1 + _) + 1 ≤ 16777216; omega) ?_
  refine go ?_
  refine entries_ok o96 ?_
  refine go ?_
  try refine giv_adds (by show 2 + _ ≤ 16777216; omega) ?_
  refine go ?_
  try refine giv_adds (by rw [List.length_append]; show (2 + _) + 1 ≤ 16777216; omega) ?_
  have b1 : ([91] ++ ent cs ++ [93]).length ≤ lim := by rw [List.length_append, List.length_append]; show (1 + _) + 1 ≤ 16777216; omega
  have b2 : ([91, 94] ++ ent (oth cs) ++ [93]).length ≤ lim := by rw [List.length_append, List.length_append]; show (2 + _) + 1 ≤ 16777216; omega
  refine go ?_
  refine brn_d (fun v => ?_) (fun v => ?_)
  · have v' : ([91, 94] ++ ent (oth cs) ++ [93]).length < ([91] ++ ent cs ++ [93]).length := Int.ofNat_lt.mp v
    rw [if_pos v'] at q
    refine go ?_
    refine nrm ?_
    exact q
  · have v' : ¬ ([91, 94] ++ ent (oth cs) ++ [93]).length < ([91] ++ ent cs ++ [93]).length := fun e => v (Int.ofNat_lt.mpr e)
    rw [if_neg v'] at q
    refine go ?_
    refine nrm ?_
    exact q
theorem written_set_ok {cs : List Nat} (hs : cs.Sublist SGN) {Q : Vl → List (List D) → Prop} (q : Q (.fz (.str (wset cs))) []) : Fv f_law_written_set [.da (.str cs)] Q := by
  have h96 := sub96 hs
  have o96 := sub96 (oth_sub (cs := cs))
  have cl : cs.length ≤ lim := Nat.le_trans h96 (by decide)
  have l1 := ent_len (cs := cs)
  have l2 := ent_len (cs := oth cs)
  refine fv_fn rfl ?_
  refine nrm ?_
  unfold b_law_written_set
  rw [signs_eq]
  refine go ?_
  refine brn_d (fun z => ?_) (fun z => ?_)
  · obtain ⟨c, rfl⟩ := len1 (cs := cs) (by omega)
    refine go ?_
    refine escaped_ok ?_
    refine go ?_
    refine nrm ?_
    exact q
  rw [wset_ne (by omega)] at q
  refine go ?_
  refine oth_lc ?_ ?_
  · refine ev_isq ?_
    refine go ?_
    refine fv_signs ?_
    refine go ?_
    exact ⟨_, _, _, rfl, rfl, rfl, rfl⟩
  refine go ?_
  refine giv (join_signs (by show _ ≤ 16777216; omega)) ?_
  refine go ?_
  refine brn_d (fun w => ?_) (fun w => ?_)
  · rw [if_pos w] at q
    refine go ?_
    refine nrm ?_
    exact q
  rw [if_neg w] at q
  refine go ?_
  refine inside_ok hs ?_
  refine go ?_
  try refine giv_adds (by show 1 + _ ≤ 16777216; omega) ?_
  refine go ?_
  try refine giv_adds (by rw [List.length_append]; show (1 + _) + 1 ≤ 16777216; omega) ?_
  refine go ?_
  refine inside_ok oth_sub ?_
  refine go ?_
  try refine giv_adds (by show 2 + _ ≤ 16777216; omega) ?_
  refine go ?_
  try refine giv_adds (by rw [List.length_append]; show (2 + _) + 1 ≤ 16777216; omega) ?_
  have b1 : ([91] ++ ent cs ++ [93]).length ≤ lim := by rw [List.length_append, List.length_append]; show (1 + _) + 1 ≤ 16777216; omega
  have b2 : ([91, 94] ++ ent (oth cs) ++ [93]).length ≤ lim := by rw [List.length_append, List.length_append]; show (2 + _) + 1 ≤ 16777216; omega
  refine go ?_
  refine brn_d (fun v => ?_) (fun v => ?_)
  · have v' : ([91, 94] ++ ent (oth cs) ++ [93]).length < ([91] ++ ent cs ++ [93]).length := Int.ofNat_lt.mp v
    rw [if_pos v'] at q
    refine go ?_
    refine nrm ?_
    exact q
  · have v' : ¬ ([91, 94] ++ ent (oth cs) ++ [93]).length < ([91] ++ ent cs ++ [93]).length := fun e => v (Int.ofNat_lt.mpr e)
    rw [if_neg v'] at q
    refine go ?_
    refine nrm ?_
    exact q
theorem pattern_ok {cs : List Nat} (hs : cs.Sublist SGN) (n : Nat) {Q : Vl → List (List D) → Prop} (q : Q (.fz (.str (wset cs))) []) : Fv (fx_write_pattern (n + 1)) [.da (.tup [.str [115, 101, 116], .str cs])] Q := by
  unfold fx_write_pattern
  refine fv_fn rfl ?_
  refine nrm ?_
  unfold b_write_pattern
  refine go ?_
  refine brn_dt rfl ?_
  refine go ?_
  refine write_set_ok hs ?_
  refine go ?_
  refine nrm ?_
  exact q
end K09
set_option Elab.async false
set_option linter.all false
set_option maxRecDepth 100000
set_option maxHeartbeats 4000000
/-! Tr1: pattern trees. -/
namespace Tre
open Sw

inductive T where
  | empty
  | set (s : List Nat)
  | seq (ts : List T)
  | alt (ts : List T)
  | rep (b : T) (lo : Nat) (hi : Option Nat) (lz : Bool)
  | group (n : List Nat) (b : T)
  | look (ah : Bool) (wt : Bool) (b : T)
  | edge (k : List Nat)
  | same (n : List Nat)

abbrev tEMPTY : List Nat := [101, 109, 112, 116, 121]
abbrev tSET : List Nat := [115, 101, 116]
abbrev tSEQ : List Nat := [115, 101, 113]
abbrev tALT : List Nat := [97, 108, 116]
abbrev tREP : List Nat := [114, 101, 112, 101, 97, 116]
abbrev tGROUP : List Nat := [103, 114, 111, 117, 112]
abbrev tLOOK : List Nat := [108, 111, 111, 107]
abbrev tEDGE : List Nat := [101, 100, 103, 101]
abbrev tSAME : List Nat := [115, 97, 109, 101]
abbrev tAHEAD : List Nat := [97, 104, 101, 97, 100]
abbrev tBEHIND : List Nat := [98, 101, 104, 105, 110, 100]
def hiD : Option Nat → D
  | none => .non
  | some n => .int n
def sideS (ah : Bool) : List Nat := if ah then tAHEAD else tBEHIND
mutual
def T.D : T → Sw.D
  | .empty => .tup [.str tEMPTY]
  | .set s => .tup [.str tSET, .str s]
  | .seq ts => .tup [.str tSEQ, .tup (T.Ds ts)]
  | .alt ts => .tup [.str tALT, .tup (T.Ds ts)]
  | .rep b lo hi lz => .tup [.str tREP, b.D, .int lo, hiD hi, .bl lz]
  | .group n b => .tup [.str tGROUP, .str n, b.D]
  | .look ah wt b => .tup [.str tLOOK, .str (sideS ah), .bl wt, b.D]
  | .edge k => .tup [.str tEDGE, .str k]
  | .same n => .tup [.str tSAME, .str n]
def T.Ds : List T → List Sw.D
  | [] => []
  | t :: ts => t.D :: T.Ds ts
end
theorem Ds_map : ∀ ts : List T, T.Ds ts = ts.map T.D
  | [] => rfl
  | t :: ts => by rw [T.Ds, Ds_map ts, List.map_cons]
theorem D_seq (ts : List T) : (T.seq ts).D = .tup [.str tSEQ, .tup (ts.map T.D)] := by rw [T.D, Ds_map]
theorem D_alt (ts : List T) : (T.alt ts).D = .tup [.str tALT, .tup (ts.map T.D)] := by rw [T.D, Ds_map]
theorem D_empty : T.empty.D = .tup [.str tEMPTY] := by rw [T.D]
theorem D_set (s : List Nat) : (T.set s).D = .tup [.str tSET, .str s] := by rw [T.D]
theorem D_rep (b : T) (lo : Nat) (hi : Option Nat) (lz : Bool) : (T.rep b lo hi lz).D = .tup [.str tREP, b.D, .int lo, hiD hi, .bl lz] := by rw [T.D]
theorem D_group (n : List Nat) (b : T) : (T.group n b).D = .tup [.str tGROUP, .str n, b.D] := by rw [T.D]
theorem D_look (ah wt : Bool) (b : T) : (T.look ah wt b).D = .tup [.str tLOOK, .str (sideS ah), .bl wt, b.D] := by rw [T.D]
theorem D_edge (k : List Nat) : (T.edge k).D = .tup [.str tEDGE, .str k] := by rw [T.D]
theorem D_same (n : List Nat) : (T.same n).D = .tup [.str tSAME, .str n] := by rw [T.D]

/-- induction over trees -/
theorem T.ind {P : T → Prop} (h0 : P .empty) (h1 : ∀ s, P (.set s)) (h2 : ∀ ts, (∀ t ∈ ts, P t) → P (.seq ts)) (h3 : ∀ ts, (∀ t ∈ ts, P t) → P (.alt ts))
    (h4 : ∀ b lo hi lz, P b → P (.rep b lo hi lz)) (h5 : ∀ n b, P b → P (.group n b)) (h6 : ∀ a w b, P b → P (.look a w b)) (h7 : ∀ k, P (.edge k)) (h8 : ∀ n, P (.same n)) (t : T) : P t :=
  T.rec (motive_1 := P) (motive_2 := fun ts => ∀ t ∈ ts, P t) h0 h1 (fun ts h => h2 ts h) (fun ts h => h3 ts h) (fun b lo hi lz h => h4 b lo hi lz h) (fun n b h => h5 n b h) (fun a w b h => h6 a w b h) h7 h8
    all_nil (fun t ts h hs => all_cons h hs) t
mutual
def T.size : T → Nat
  | .seq ts => 1 + T.sizes ts
  | .alt ts => 1 + T.sizes ts
  | .rep b _ _ _ => 1 + b.size
  | .group _ b => 1 + b.size
  | .look _ _ b => 1 + b.size
  | .empty => 1
  | .set _ => 1
  | .edge _ => 1
  | .same _ => 1
def T.sizes : List T → Nat
  | [] => 0
  | t :: ts => t.size + T.sizes ts
end
mutual
def T.depth : T → Nat
  | .seq ts => 1 + T.depths ts
  | .alt ts => 1 + T.depths ts
  | .rep b _ _ _ => 1 + b.depth
  | .group _ b => 1 + b.depth
  | .look _ _ b => 1 + b.depth
  | .empty => 1
  | .set _ => 1
  | .edge _ => 1
  | .same _ => 1
def T.depths : List T → Nat
  | [] => 0
  | t :: ts => max t.depth (T.depths ts)
end
theorem sizes_snoc : ∀ {ts : List T} {t : T}, T.sizes (ts ++ [t]) = T.sizes ts + t.size
  | [], t => by simp [T.sizes]
  | a :: ts, t => by rw [List.cons_append, T.sizes, T.sizes, sizes_snoc]; omega
theorem depths_snoc : ∀ {ts : List T} {t : T}, T.depths (ts ++ [t]) = max (T.depths ts) t.depth
  | [], t => by simp [T.depths]
  | a :: ts, t => by rw [List.cons_append, T.depths, T.depths, depths_snoc]; omega
theorem depth_mem : ∀ {ts : List T} {t : T}, t ∈ ts → t.depth ≤ T.depths ts
  | [], t, h => by cases h
  | a :: ts, t, h => by
    rw [T.depths]
    rcases List.mem_cons.mp h with rfl | h
    · omega
    · have := depth_mem h; omega
theorem size_mem : ∀ {ts : List T} {t : T}, t ∈ ts → t.size ≤ T.sizes ts
  | [], t, h => by cases h
  | a :: ts, t, h => by
    rw [T.sizes]
    rcases List.mem_cons.mp h with rfl | h
    · omega
    · have := size_mem h; omega
theorem size_pos (t : T) : 1 ≤ t.size := by cases t <;> simp [T.size] <;> omega
theorem depth_pos (t : T) : 1 ≤ t.depth := by cases t <;> simp [T.depth] <;> omega
theorem depths_le {ts : List T} {n : Nat} (h : ∀ t ∈ ts, t.depth ≤ n) : T.depths ts ≤ n := by
  induction ts with
  | nil => simp [T.depths]
  | cons t ts ih =>
    rw [T.depths]
    have h1 := h t List.mem_cons_self
    have h2 := ih fun x hx => h x (List.mem_cons_of_mem _ hx)
    omega

mutual
def T.All (P : T → Prop) : T → Prop
  | .seq ts => P (.seq ts) ∧ T.Alls P ts
  | .alt ts => P (.alt ts) ∧ T.Alls P ts
  | .rep b lo hi lz => P (.rep b lo hi lz) ∧ b.All P
  | .group n b => P (.group n b) ∧ b.All P
  | .look a w b => P (.look a w b) ∧ b.All P
  | .empty => P .empty
  | .set s => P (.set s)
  | .edge k => P (.edge k)
  | .same n => P (.same n)
def T.Alls (P : T → Prop) : List T → Prop
  | [] => True
  | t :: ts => t.All P ∧ T.Alls P ts
end
theorem alls_mem {P : T → Prop} : ∀ {ts : List T}, T.Alls P ts ↔ ∀ t ∈ ts, t.All P
  | [] => by simp [T.Alls]
  | t :: ts => by rw [T.Alls, alls_mem]; simp
theorem all_here {P : T → Prop} {t : T} (h : t.All P) : P t := by
  cases t <;> simp only [T.All] at h <;> first | exact h.1 | exact h
end Tre
set_option Elab.async false
set_option linter.all false
set_option maxRecDepth 100000
namespace K10
open Sw

def tx_empty : List Nat := [101, 109, 112, 116, 121]
def tx_repeat : List Nat := [114, 101, 112, 101, 97, 116]
def tx_group : List Nat := [103, 114, 111, 117, 112]
def tx_as : List Nat := [123, 97, 115, 32]
def tx_look : List Nat := [108, 111, 111, 107]
def tx_not : List Nat := [123, 110, 111, 116, 32]
def tx_edge : List Nat := [101, 100, 103, 101]
def tx_same : List Nat := [115, 97, 109, 101]
def tx_same2 : List Nat := [123, 115, 97, 109, 101, 32]
def tx_ : List Nat := [92, 124, 42, 43, 63, 60, 62, 40, 41, 91, 93, 123, 125, 46, 126, 94]
def tx_0123456789abcd : List Nat := [9, 10, 32, 33, 34, 35, 36, 38, 39, 40, 41, 42, 43, 44, 45, 46, 47, 48, 49, 50, 51, 52, 53, 54, 55, 56, 57, 58, 59, 60, 61, 62, 63, 64, 65, 66, 67, 68, 69, 70, 71, 72, 73, 74, 75, 76, 77, 78, 79, 80, 81, 82, 83, 84, 85, 86, 87, 88, 89, 90, 91, 92, 93, 94, 95, 96]
def tx_abcdefghijklmn : List Nat := [97, 98, 99, 100, 101, 102, 103, 104, 105, 106, 107, 108, 109, 110, 111, 112, 113, 114, 115, 116, 117, 118, 119, 120, 121, 122, 123, 124, 125, 126]
def tx_2 : List Nat := [92, 91, 93, 94, 45]
def tx_behind : List Nat := [98, 101, 104, 105, 110, 100]
def tx_ahead : List Nat := [97, 104, 101, 97, 100]
def tx_nowordedge : List Nat := [110, 111, 32, 119, 111, 114, 100, 32, 101, 100, 103, 101]
def tx_wordedge : List Nat := [119, 111, 114, 100, 32, 101, 100, 103, 101]
def tx_lineend : List Nat := [108, 105, 110, 101, 32, 101, 110, 100]
def tx_linestart : List Nat := [108, 105, 110, 101, 32, 115, 116, 97, 114, 116]
def tx_start : List Nat := [115, 116, 97, 114, 116]
def tx_3 : List Nat := [9, 10, 45, 92, 124, 42, 43, 63, 60, 62, 40, 41, 91, 93, 123, 125, 46, 126, 94]
def tx_0123456789abcd2 : List Nat := [48, 49, 50, 51, 52, 53, 54, 55, 56, 57, 65, 66, 67, 68, 69, 70, 71, 72, 73, 74, 75, 76, 77, 78, 79, 80, 81, 82, 83, 84, 85, 86, 87, 88, 89, 90, 95, 97, 98, 99, 100, 101, 102, 103, 104, 105, 106, 107, 108, 109, 110, 111, 112, 113, 114, 115, 116, 117, 118, 119, 120, 121, 122]
def tx_abcdefghijklmn2 : List Nat := [97, 98, 99, 100, 101, 102, 103, 104, 105, 106, 107, 108, 109, 110, 111, 112, 113, 114, 115, 116, 117, 118, 119, 120, 121, 122, 48, 49, 50, 51, 52, 53, 54, 55, 56, 57, 95]
def tx_abcdefghijklmn3 : List Nat := [97, 98, 99, 100, 101, 102, 103, 104, 105, 106, 107, 108, 109, 110, 111, 112, 113, 114, 115, 116, 117, 118, 119, 120, 121, 122]
def tx_blank : List Nat := [98, 108, 97, 110, 107]
def tx_letter : List Nat := [108, 101, 116, 116, 101, 114]
def tx_digit : List Nat := [100, 105, 103, 105, 116]
def tx_word : List Nat := [119, 111, 114, 100]
def tx_line : List Nat := [108, 105, 110, 101]
def tx_0123456789 : List Nat := [48, 49, 50, 51, 52, 53, 54, 55, 56, 57, 95]
def c_BRACKET_SIGNS : List Nat := [92, 91, 93, 94, 45]
def c_SIGNS : List Nat := [9, 10, 32, 33, 34, 35, 36, 38, 39, 40, 41, 42, 43, 44, 45, 46, 47, 48, 49, 50, 51, 52, 53, 54, 55, 56, 57, 58, 59, 60, 61, 62, 63, 64, 65, 66, 67, 68, 69, 70, 71, 72, 73, 74, 75, 76, 77, 78, 79, 80, 81, 82, 83, 84, 85, 86, 87, 88, 89, 90, 91, 92, 93, 94, 95, 96, 97, 98, 99, 100, 101, 102, 103, 104, 105, 106, 107, 108, 109, 110, 111, 112, 113, 114, 115, 116, 117, 118, 119, 120, 121, 122, 123, 124, 125, 126]
def c_SPECIAL_SIGNS : List Nat := [92, 124, 42, 43, 63, 60, 62, 40, 41, 91, 93, 123, 125, 46, 126, 94]
/-- _law_below(_law_tree): slots 0=_law_tree -/
def b_law_below : S := (sSeq (sIf (tE (eBin fIn (eBin fIx (eVar 0) (eC (.int 0))) (eTup (aCons (eC (.str [115, 101, 113])) (aCons (eC (.str [97, 108, 116])) aNil))))) (sRet (eNew (eBin fIx (eVar 0) (eC (.int 1))))) sNx)
  (sSeq (sIf (tE (eBin fEq (eBin fIx (eVar 0) (eC (.int 0))) (eC (.str tx_repeat)))) (sRet (eLst (aCons (eBin fIx (eVar 0) (eC (.int 1))) aNil))) sNx)
  (sSeq (sIf (tE (eBin fEq (eBin fIx (eVar 0) (eC (.int 0))) (eC (.str tx_group)))) (sRet (eLst (aCons (eBin fIx (eVar 0) (eC (.int 2))) aNil))) sNx)
  (sSeq (sIf (tE (eBin fEq (eBin fIx (eVar 0) (eC (.int 0))) (eC (.str tx_look)))) (sRet (eLst (aCons (eBin fIx (eVar 0) (eC (.int 3))) aNil))) sNx)
  (sRet (eLst aNil))))))
def f_law_below : Fn := fnS 1 1 b_law_below
/-- _law_draw(_law_script): slots 0=_law_script 1=_law_digits 2=_law_one 3=_law_two 4=_law_cell 5=_law_rest 6=_law_k -/
def b_law_draw : S := (sSeq (sAsg 1 (eLst aNil))
  (sSeq (sAsg 2 (eC (.int 7)))
  (sSeq (sAsg 3 (eC (.int 11)))
  (sSeq (sFor (iSq (eVar 0)) (gN 4) (sSeq (sAsg 2 (eBin fMod (eBlt cInt (aCons (eBin fAdd (eBin fMul (eVar 2) (eC (.int 48271))) (eVar 4)) aNil)) (eC (.int 2147483647))))
  (sSeq (sAsg 3 (eBin fMod (eBlt cInt (aCons (eBin fAdd (eBin fMul (eVar 3) (eC (.int 69621))) (eBin fDiv (eVar 4) (eC (.int 1009)))) aNil)) (eC (.int 2147483629))))
  (sSeq (sAsg 5 (eVar 4))
  (sSeq (sIf (tE (eBin fLt (eVar 4) (eBin fPow (eC (.int 10)) (eC (.int 18))))) (sAsg 5 (eC (.int 0))) sNx)
  (sFor (iR1 (aCons (eC (.int 60)) aNil)) (gN 6) (sIf (tE (eBin fGt (eVar 5) (eC (.int 0)))) (sSeq (sApp 1 (eBin fMod (eBlt cInt (aCons (eVar 5) aNil)) (eC (.int 5040))))
  (sAsg 5 (eBin fDiv (eVar 5) (eC (.int 5040))))) sNx)))))))
  (sRet (eLst (aCons (eC (.int 0)) (aCons (eVar 2) (aCons (eVar 3) (aCons (eVar 1) (aCons (eC (.int 3)) aNil)))))))))))
def f_law_draw : Fn := fnS 1 7 b_law_draw
/-- _law_next(_law_draw_here, _law_many): slots 0=_law_draw_here 1=_law_many 2=_law_at -/
def b_law_next : S := (sSeq (sAsg 2 (eBin fIx (eVar 0) (eC (.int 0))))
  (sSeq (sIf (tE (eBin fLt (eVar 2) (eBlt cLen (aCons (eBin fIx (eVar 0) (eC (.int 3))) aNil)))) (sSeq (sSetI 0 (eC (.int 0)) (eBin fAdd (eVar 2) (eC (.int 1))))
  (sRet (eBin fMod (eBlt cInt (aCons (eBin fIx (eBin fIx (eVar 0) (eC (.int 3))) (eVar 2)) aNil)) (eVar 1)))) sNx)
  (sSeq (sSetI 0 (eC (.int 1)) (eBin fMod (eBlt cInt (aCons (eBin fAdd (eBin fMul (eBin fIx (eVar 0) (eC (.int 1))) (eC (.int 48271))) (eC (.int 12345))) aNil)) (eC (.int 2147483647))))
  (sSeq (sSetI 0 (eC (.int 2)) (eBin fMod (eBlt cInt (aCons (eBin fAdd (eBin fMul (eBin fIx (eVar 0) (eC (.int 2))) (eC (.int 69621))) (eC (.int 777))) aNil)) (eC (.int 2147483629))))
  (sRet (eBin fMod (eBlt cInt (aCons (eBin fAdd (eBin fDiv (eBin fIx (eVar 0) (eC (.int 1))) (eC (.int 64))) (eBin fDiv (eBin fIx (eVar 0) (eC (.int 2))) (eC (.int 128)))) aNil)) (eVar 1)))))))
def f_law_next : Fn := fnS 2 3 b_law_next
/-- _law_any_name(_law_draw_here): slots 0=_law_draw_here 1=_law_small 2=_law_words_here 3=_law_name 4=_law_k -/
def b_law_any_name : S := (sSeq (sAsg 1 (eC (.str tx_abcdefghijklmn3)))
  (sSeq (sAsg 2 (eLst (aCons (eC (.str tx_start)) (aCons (eC (.str [101, 110, 100])) (aCons (eC (.str tx_line)) (aCons (eC (.str tx_word)) (aCons (eC (.str tx_edge)) (aCons (eC (.str [110, 111])) (aCons (eC (.str [110, 111, 116])) (aCons (eC (.str tx_ahead)) (aCons (eC (.str tx_behind)) (aCons (eC (.str tx_digit)) (aCons (eC (.str tx_letter)) (aCons (eC (.str tx_blank)) (aCons (eC (.str tx_same)) aNil)))))))))))))))
  (sSeq (sIf (tE (eBin fEq (eCall f_law_next [true, false] (aCons (eVar 0) (aCons (eC (.int 8)) aNil))) (eC (.int 0)))) (sRet (eBin fIx (eBin fAdd (eVar 2) (eLst (aCons (eC (.str [97, 115])) (aCons (eC (.str tx_empty)) (aCons (eC (.str [115, 101, 116])) (aCons (eC (.str [115, 101, 113])) (aCons (eC (.str [97, 108, 116])) (aCons (eC (.str tx_repeat)) (aCons (eC (.str tx_group)) (aCons (eC (.str tx_look)) (aCons (eC (.str [110])) (aCons (eC (.str [116])) aNil)))))))))))) (eCall f_law_next [true, false] (aCons (eVar 0) (aCons (eC (.int 23)) aNil))))) sNx)
  (sSeq (sAsg 3 (eBin fIx (eVar 1) (eCall f_law_next [true, false] (aCons (eVar 0) (aCons (eC (.int 26)) aNil)))))
  (sSeq (sFor (iR1 (aCons (eCall f_law_next [true, false] (aCons (eVar 0) (aCons (eC (.int 12)) aNil))) aNil)) (gN 4) (sAsg 3 (eBin fAdd (eVar 3) (eBin fIx (eBin fAdd (eVar 1) (eC (.str tx_0123456789))) (eCall f_law_next [true, false] (aCons (eVar 0) (aCons (eC (.int 37)) aNil)))))))
  (sRet (eVar 3)))))))
def f_law_any_name : Fn := fnS 1 5 b_law_any_name
/-- _law_near_name(_law_draw_here, _law_name): slots 0=_law_draw_here 1=_law_name 2=_law_more 3=_law_choice 4=_law_at -/
def b_law_near_name : S := (sSeq (sAsg 2 (eC (.str tx_abcdefghijklmn2)))
  (sSeq (sAsg 3 (eCall f_law_next [true, false] (aCons (eVar 0) (aCons (eC (.int 3)) aNil))))
  (sSeq (sIf (tAnd (tE (eBin fEq (eVar 3) (eC (.int 0)))) (tE (eBin fLt (eBlt cLen (aCons (eVar 1) aNil)) (eC (.int 12))))) (sRet (eBin fAdd (eVar 1) (eBin fIx (eVar 2) (eCall f_law_next [true, false] (aCons (eVar 0) (aCons (eC (.int 37)) aNil)))))) sNx)
  (sSeq (sIf (tAnd (tE (eBin fEq (eVar 3) (eC (.int 1)))) (tE (eBin fGt (eBlt cLen (aCons (eVar 1) aNil)) (eC (.int 1))))) (sRet (eSl fSl (eVar 1) oNo (oSome (eUn fNeg (eC (.int 1)))))) sNx)
  (sSeq (sAsg 4 (eCall f_law_next [true, false] (aCons (eVar 0) (aCons (eBlt cLen (aCons (eVar 1) aNil)) aNil))))
  (sSeq (sIf (tE (eBin fEq (eVar 4) (eC (.int 0)))) (sRet (eBin fAdd (eBin fIx (eVar 2) (eCall f_law_next [true, false] (aCons (eVar 0) (aCons (eC (.int 26)) aNil)))) (eSl fSl (eVar 1) (oSome (eC (.int 1))) oNo))) sNx)
  (sRet (eBin fAdd (eBin fAdd (eSl fSl (eVar 1) oNo (oSome (eVar 4))) (eBin fIx (eVar 2) (eCall f_law_next [true, false] (aCons (eVar 0) (aCons (eC (.int 37)) aNil))))) (eSl fSl (eVar 1) (oSome (eBin fAdd (eVar 4) (eC (.int 1)))) oNo)))))))))
def f_law_near_name : Fn := fnS 2 5 b_law_near_name
/-- _law_group_name(_law_draw_here, _law_known): slots 0=_law_draw_here 1=_law_known 2=_law_choice 3=_law_name -/
def b_law_group_name_v11 : S := (sSeq (sAsg 2 (eCall f_law_next [true, false] (aCons (eVar 0) (aCons (eC (.int 4)) aNil))))
  (sSeq (sIf (tAnd (tE (eBin fGt (eBlt cLen (aCons (eVar 1) aNil)) (eC (.int 0)))) (tE (eBin fLt (eVar 2) (eC (.int 2))))) (sSeq (sAsg 3 (eBin fIx (eVar 1) (eCall f_law_next [true, false] (aCons (eVar 0) (aCons (eBlt cLen (aCons (eVar 1) aNil)) aNil)))))
  (sSeq (sIf (tE (eBin fEq (eVar 2) (eC (.int 0)))) (sRet (eVar 3)) sNx)
  (sRet (eCall f_law_near_name [true, false] (aCons (eVar 0) (aCons (eVar 3) aNil)))))) sNx)
  (sRet (eCall f_law_any_name [true] (aCons (eVar 0) aNil)))))
def f_law_group_name_v11 : Fn := fnS 2 4 b_law_group_name_v11
/-- _law_signs(): slots 0=_law_signs_here -/
def b_law_signs : S := (sSeq (sAsg 0 (eC (.str tx_0123456789abcd)))
  (sRet (eBin fAdd (eVar 0) (eC (.str tx_abcdefghijklmn)))))
def f_law_signs : Fn := fnS 0 1 b_law_signs
/-- _law_words(): slots  -/
def b_law_words : S := (sRet (eC (.str tx_0123456789abcd2)))
def f_law_words : Fn := fnS 0 0 b_law_words
/-- _law_some_set(_law_draw_here): slots 0=_law_draw_here 1=_law_signs_here 2=_law_choice 3=_law_chosen 4=_law_k 5=_law_flip 6=_law_low 7=_law_sign -/
def b_law_some_set : S := (sSeq (sAsg 1 (eCall f_law_signs [] aNil))
  (sSeq (sAsg 2 (eCall f_law_next [true, false] (aCons (eVar 0) (aCons (eC (.int 14)) aNil))))
  (sSeq (sIf (tE (eBin fLt (eVar 2) (eC (.int 5)))) (sRet (eBin fIx (eVar 1) (eCall f_law_next [true, false] (aCons (eVar 0) (aCons (eC (.int 96)) aNil))))) sNx)
  (sSeq (sIf (tE (eBin fLt (eVar 2) (eC (.int 8)))) (sRet (eBin fIx (eC (.str tx_3)) (eCall f_law_next [true, false] (aCons (eVar 0) (aCons (eC (.int 19)) aNil))))) sNx)
  (sSeq (sIf (tE (eBin fEq (eVar 2) (eC (.int 8)))) (sRet (eBin fIx (eLst (aCons (eC (.str [])) (aCons (eVar 1) (aCons (eBin fAdd (eSl fSl (eVar 1) oNo (oSome (eC (.int 1)))) (eSl fSl (eVar 1) (oSome (eC (.int 2))) oNo)) aNil)))) (eCall f_law_next [true, false] (aCons (eVar 0) (aCons (eC (.int 3)) aNil))))) sNx)
  (sSeq (sIf (tE (eBin fEq (eVar 2) (eC (.int 9)))) (sRet (eBin fIx (eLst (aCons (eSl fSl (eVar 1) (oSome (eC (.int 17))) (oSome (eC (.int 27)))) (aCons (eBin fAdd (eSl fSl (eVar 1) (oSome (eC (.int 34))) (oSome (eC (.int 60)))) (eSl fSl (eVar 1) (oSome (eC (.int 66))) (oSome (eC (.int 92))))) (aCons (eSl fSl (eVar 1) oNo (oSome (eC (.int 3)))) (aCons (eCall f_law_words [] aNil) aNil))))) (eCall f_law_next [true, false] (aCons (eVar 0) (aCons (eC (.int 4)) aNil))))) sNx)
  (sSeq (sAsg 3 (eC (.str [])))
  (sSeq (sFor (iR1 (aCons (eBin fAdd (eC (.int 1)) (eCall f_law_next [true, false] (aCons (eVar 0) (aCons (eC (.int 3)) aNil)))) aNil)) (gN 4) (sSeq (sAsg 6 (eCall f_law_next [true, false] (aCons (eVar 0) (aCons (eC (.int 96)) aNil))))
  (sAsg 3 (eBin fAdd (eVar 3) (eSl fSl (eVar 1) (oSome (eVar 6)) (oSome (eBin fAdd (eBin fAdd (eVar 6) (eC (.int 1))) (eCall f_law_next [true, false] (aCons (eVar 0) (aCons (eC (.int 5)) aNil))))))))))
  (sSeq (sAsg 5 (eBin fEq (eCall f_law_next [true, false] (aCons (eVar 0) (aCons (eC (.int 4)) aNil))) (eC (.int 0))))
  (sRet (eMet fJoin (eC (.str [])) (aCons (eLc [7] (iSq (eVar 1)) (gN 7) (tE (eBin fNe (eBin fIn (eVar 7) (eVar 3)) (eVar 5))) (eVar 7)) aNil))))))))))))
def f_law_some_set : Fn := fnS 1 8 b_law_some_set
/-- _law_tip(_law_draw_here, _law_outside, _law_known): slots 0=_law_draw_here 1=_law_outside 2=_law_known 3=_law_choice -/
def b_law_tip_v101 : S := (sSeq (sAsg 3 (eCall f_law_next [true, false] (aCons (eVar 0) (aCons (eC (.int 16)) aNil))))
  (sSeq (sIf (tE (eBin fEq (eVar 3) (eC (.int 0)))) (sRet (eTup (aCons (eC (.str tx_empty)) aNil))) sNx)
  (sSeq (sIf (tE (eBin fLt (eVar 3) (eC (.int 3)))) (sRet (eTup (aCons (eC (.str tx_edge)) (aCons (eBin fIx (eLst (aCons (eC (.str tx_start)) (aCons (eC (.str [101, 110, 100])) (aCons (eC (.str tx_linestart)) (aCons (eC (.str tx_lineend)) (aCons (eC (.str tx_wordedge)) (aCons (eC (.str tx_nowordedge)) aNil))))))) (eCall f_law_next [true, false] (aCons (eVar 0) (aCons (eC (.int 6)) aNil)))) aNil)))) sNx)
  (sSeq (sIf (tAnd (tE (eBin fLt (eVar 3) (eC (.int 6)))) (tAnd (tE (eVar 1)) (tE (eBin fGt (eBlt cLen (aCons (eVar 2) aNil)) (eC (.int 0)))))) (sRet (eTup (aCons (eC (.str tx_same)) (aCons (eBin fIx (eVar 2) (eCall f_law_next [true, false] (aCons (eVar 0) (aCons (eBlt cLen (aCons (eVar 2) aNil)) aNil)))) aNil)))) sNx)
  (sRet (eTup (aCons (eC (.str [115, 101, 116])) (aCons (eCall f_law_some_set [true] (aCons (eVar 0) aNil)) aNil))))))))
def f_law_tip_v101 : Fn := fnS 3 4 b_law_tip_v101
/-- _law_chain(_law_draw_here, _law_depth, _law_outside, _law_known): slots 0=_law_draw_here 1=_law_depth 2=_law_outside 3=_law_known 4=_law_choice 5=_law_most 6=_law_tip_here 7=_law_rest 8=_law_name -/
def b_law_chain (f_law_chain : Fn) : S := (sSeq (sAsg 4 (eCall f_law_next [true, false] (aCons (eVar 0) (aCons (eC (.int 8)) aNil))))
  (sSeq (sIf (tE (eBin fLt (eVar 1) (eC (.int 2)))) (sRet (eCall f_law_tip_v101 [true, false, true] (aCons (eVar 0) (aCons (eVar 2) (aCons (eVar 3) aNil))))) sNx)
  (sSeq (sIf (tE (eBin fLt (eVar 4) (eC (.int 3)))) (sSeq (sAsg 6 (eCall f_law_tip_v101 [true, false, true] (aCons (eVar 0) (aCons (eVar 2) (aCons (eVar 3) aNil)))))
  (sSeq (sAsg 7 (eCall f_law_chain [true, false, false, true] (aCons (eVar 0) (aCons (eBin fSub (eVar 1) (eC (.int 1))) (aCons (eVar 2) (aCons (eVar 3) aNil))))))
  (sRet (eTup (aCons (eBin fIx (eLst (aCons (eC (.str [115, 101, 113])) (aCons (eC (.str [97, 108, 116])) aNil))) (eCall f_law_next [true, false] (aCons (eVar 0) (aCons (eC (.int 2)) aNil)))) (aCons (eBin fIx (eLst (aCons (eTup (aCons (eVar 6) (aCons (eVar 7) aNil))) (aCons (eTup (aCons (eVar 7) (aCons (eTup (aCons (eC (.str tx_empty)) aNil)) aNil))) aNil))) (eCall f_law_next [true, false] (aCons (eVar 0) (aCons (eC (.int 2)) aNil)))) aNil)))))) sNx)
  (sSeq (sIf (tAnd (tE (eBin fLt (eVar 4) (eC (.int 6)))) (tE (eVar 2))) (sSeq (sAsg 8 (eCall f_law_group_name_v11 [true, true] (aCons (eVar 0) (aCons (eVar 3) aNil))))
  (sSeq (sApp 3 (eVar 8))
  (sRet (eTup (aCons (eC (.str tx_group)) (aCons (eVar 8) (aCons (eCall f_law_chain [true, false, false, true] (aCons (eVar 0) (aCons (eBin fSub (eVar 1) (eC (.int 1))) (aCons (eC (.bl true)) (aCons (eVar 3) aNil))))) aNil))))))) sNx)
  (sSeq (sIf (tAnd (tE (eBin fEq (eVar 4) (eC (.int 6)))) (tAnd (tE (eVar 2)) (tE (eBin fGt (eBin fIx (eVar 0) (eC (.int 4))) (eC (.int 0)))))) (sSeq (sSetI 0 (eC (.int 4)) (eBin fSub (eBin fIx (eVar 0) (eC (.int 4))) (eC (.int 1))))
  (sRet (eTup (aCons (eC (.str tx_look)) (aCons (eC (.str tx_behind)) (aCons (eBin fEq (eCall f_law_next [true, false] (aCons (eVar 0) (aCons (eC (.int 2)) aNil))) (eC (.int 0))) (aCons (eCall f_law_chain [true, false, false, true] (aCons (eVar 0) (aCons (eBin fSub (eVar 1) (eC (.int 1))) (aCons (eC (.bl false)) (aCons (eVar 3) aNil))))) aNil))))))) sNx)
  (sSeq (sAsg 5 (eBin fIx (eLst (aCons (eC .non) (aCons (eC (.int 1)) (aCons (eC (.int 0)) aNil)))) (eCall f_law_next [true, false] (aCons (eVar 0) (aCons (eC (.int 3)) aNil)))))
  (sRet (eTup (aCons (eC (.str tx_repeat)) (aCons (eCall f_law_chain [true, false, false, true] (aCons (eVar 0) (aCons (eBin fSub (eVar 1) (eC (.int 1))) (aCons (eVar 2) (aCons (eVar 3) aNil))))) (aCons (eC (.int 0)) (aCons (eVar 5) (aCons (eBin fEq (eCall f_law_next [true, false] (aCons (eVar 0) (aCons (eC (.int 2)) aNil))) (eC (.int 0))) aNil)))))))))))))
def fx_law_chain : Nat → Fn
  | 0 => fun _ => none
  | n + 1 => fnS 4 9 (b_law_chain (fx_law_chain n))
def f_law_chain : Fn := fx_law_chain 60
theorem fx_law_chain_len : ∀ (n : Nat) (gs : List Ag) (z : Vl × List (List D)), fx_law_chain n gs = some z → gs.length = 4
  | 0, _, _, h => by unfold fx_law_chain at h; cases h
  | n + 1, gs, z, h => by unfold fx_law_chain at h; exact fnS_len gs z h
/-- _law_numbers(_law_draw_here, _law_fuel): slots 0=_law_draw_here 1=_law_fuel 2=_law_least 3=_law_choice -/
def b_law_numbers : S := (sSeq (sAsg 2 (eCall f_law_next [true, false] (aCons (eVar 0) (aCons (eBin fAdd (eBlt cMin (aCons (eC (.int 9)) (aCons (eVar 1) aNil))) (eC (.int 1))) aNil))))
  (sSeq (sAsg 3 (eCall f_law_next [true, false] (aCons (eVar 0) (aCons (eC (.int 7)) aNil))))
  (sSeq (sIf (tE (eBin fEq (eVar 3) (eC (.int 0)))) (sRet (eTup (aCons (eVar 2) (aCons (eVar 2) aNil)))) sNx)
  (sSeq (sIf (tE (eBin fEq (eVar 3) (eC (.int 1)))) (sRet (eTup (aCons (eC (.int 0)) (aCons (eC (.int 1)) aNil)))) sNx)
  (sSeq (sIf (tE (eBin fLt (eVar 3) (eC (.int 4)))) (sRet (eTup (aCons (eBlt cMin (aCons (eCall f_law_next [true, false] (aCons (eVar 0) (aCons (eC (.int 2)) aNil))) (aCons (eBin fSub (eVar 1) (eC (.int 1))) aNil))) (aCons (eC .non) aNil)))) sNx)
  (sSeq (sIf (tE (eBin fEq (eVar 3) (eC (.int 4)))) (sRet (eTup (aCons (eBlt cMin (aCons (eVar 2) (aCons (eBin fSub (eVar 1) (eC (.int 1))) aNil))) (aCons (eC .non) aNil)))) sNx)
  (sRet (eTup (aCons (eVar 2) (aCons (eBin fAdd (eVar 2) (eCall f_law_next [true, false] (aCons (eVar 0) (aCons (eBin fAdd (eBin fSub (eBlt cMin (aCons (eC (.int 9)) (aCons (eVar 1) aNil))) (eVar 2)) (eC (.int 1))) aNil)))) aNil))))))))))
def f_law_numbers : Fn := fnS 2 4 b_law_numbers
/-- _law_times(_law_numbers_here): slots 0=_law_numbers_here -/
def b_law_times : S := (sSeq (sIf (tE (eBin fIs (eBin fIx (eVar 0) (eC (.int 1))) (eC .non))) (sRet (eBin fAdd (eBin fIx (eVar 0) (eC (.int 0))) (eC (.int 1)))) sNx)
  (sRet (eBin fIx (eVar 0) (eC (.int 1)))))
def f_law_times : Fn := fnS 1 1 b_law_times
/-- _law_form(_law_draw_here, _law_fuel, _law_nodes, _law_depth, _law_outside, _law_known): slots 0=_law_draw_here 1=_law_fuel 2=_law_nodes 3=_law_depth 4=_law_outside 5=_law_known 6=_law_choice 7=_law_many 8=_law_great 9=_law_parts 10=_law_k 11=_law_numbers_here 12=_law_lazy 13=_law_body 14=_law_name 15=_law_side 16=_law_wanted -/
def b_law_form (f_law_form : Fn) : S := (sSeq (sAsg 6 (eCall f_law_next [true, false] (aCons (eVar 0) (aCons (eC (.int 20)) aNil))))
  (sSeq (sIf (tOr (tE (eBin fLt (eVar 2) (eC (.int 2)))) (tOr (tE (eBin fLt (eVar 3) (eC (.int 2)))) (tE (eBin fGt (eVar 6) (eC (.int 17)))))) (sRet (eCall f_law_tip_v101 [true, false, true] (aCons (eVar 0) (aCons (eVar 4) (aCons (eVar 5) aNil))))) sNx)
  (sSeq (sIf (tAnd (tE (eBin fLt (eVar 6) (eC (.int 9)))) (tAnd (tE (eBin fGt (eVar 2) (eC (.int 2)))) (tE (eBin fGt (eVar 1) (eC (.int 1)))))) (sSeq (sAsg 7 (eBlt cMin3 (aCons (eBin fAdd (eC (.int 2)) (eCall f_law_next [true, false] (aCons (eVar 0) (aCons (eC (.int 3)) aNil)))) (aCons (eBin fSub (eVar 2) (eC (.int 1))) (aCons (eVar 1) aNil)))))
  (sSeq (sAsg 8 (eCall f_law_next [true, false] (aCons (eVar 0) (aCons (eBin fMul (eC (.int 2)) (eVar 7)) aNil))))
  (sSeq (sAsg 9 (eLst aNil))
  (sSeq (sFor (iR1 (aCons (eVar 7) aNil)) (gN 10) (sIf (tE (eBin fEq (eVar 8) (eVar 10))) (sApp 9 (eCall f_law_form [true, false, false, false, false, true] (aCons (eVar 0) (aCons (eBin fAdd (eBin fSub (eVar 1) (eVar 7)) (eC (.int 1))) (aCons (eBin fSub (eVar 2) (eVar 7)) (aCons (eBin fSub (eVar 3) (eC (.int 1))) (aCons (eVar 4) (aCons (eVar 5) aNil)))))))) (sIf (tE (eBin fLt (eVar 8) (eVar 7))) (sApp 9 (eCall f_law_tip_v101 [true, false, true] (aCons (eVar 0) (aCons (eVar 4) (aCons (eVar 5) aNil))))) (sApp 9 (eCall f_law_form [true, false, false, false, false, true] (aCons (eVar 0) (aCons (eBin fDiv (eVar 1) (eVar 7)) (aCons (eBin fDiv (eBin fSub (eVar 2) (eC (.int 1))) (eVar 7)) (aCons (eBin fSub (eVar 3) (eC (.int 1))) (aCons (eVar 4) (aCons (eVar 5) aNil)))))))))))
  (sRet (eTup (aCons (eBin fIx (eLst (aCons (eC (.str [115, 101, 113])) (aCons (eC (.str [97, 108, 116])) aNil))) (eBin fDiv (eVar 6) (eC (.int 5)))) (aCons (eBlt cTup (aCons (eVar 9) aNil)) aNil)))))))) sNx)
  (sSeq (sIf (tE (eBin fLt (eVar 6) (eC (.int 13)))) (sSeq (sAsg 11 (eCall f_law_numbers [true, false] (aCons (eVar 0) (aCons (eVar 1) aNil))))
  (sSeq (sAsg 12 (eBin fEq (eCall f_law_next [true, false] (aCons (eVar 0) (aCons (eC (.int 3)) aNil))) (eC (.int 0))))
  (sSeq (sAsg 13 (eCall f_law_form [true, false, false, false, false, true] (aCons (eVar 0) (aCons (eBin fDiv (eVar 1) (eBlt cMax (aCons (eC (.int 1)) (aCons (eCall f_law_times [] (aCons (eVar 11) aNil)) aNil)))) (aCons (eBin fSub (eVar 2) (eC (.int 1))) (aCons (eBin fSub (eVar 3) (eC (.int 1))) (aCons (eVar 4) (aCons (eVar 5) aNil))))))))
  (sRet (eTup (aCons (eC (.str tx_repeat)) (aCons (eVar 13) (aCons (eBin fIx (eVar 11) (eC (.int 0))) (aCons (eBin fIx (eVar 11) (eC (.int 1))) (aCons (eVar 12) aNil)))))))))) sNx)
  (sSeq (sIf (tAnd (tE (eVar 4)) (tE (eBin fLt (eVar 6) (eC (.int 16))))) (sSeq (sAsg 14 (eCall f_law_group_name_v11 [true, true] (aCons (eVar 0) (aCons (eVar 5) aNil))))
  (sSeq (sApp 5 (eVar 14))
  (sRet (eTup (aCons (eC (.str tx_group)) (aCons (eVar 14) (aCons (eCall f_law_form [true, false, false, false, false, true] (aCons (eVar 0) (aCons (eVar 1) (aCons (eBin fSub (eVar 2) (eC (.int 1))) (aCons (eBin fSub (eVar 3) (eC (.int 1))) (aCons (eC (.bl true)) (aCons (eVar 5) aNil))))))) aNil))))))) sNx)
  (sSeq (sIf (tAnd (tE (eVar 4)) (tE (eBin fGt (eBin fIx (eVar 0) (eC (.int 4))) (eC (.int 0))))) (sSeq (sSetI 0 (eC (.int 4)) (eBin fSub (eBin fIx (eVar 0) (eC (.int 4))) (eC (.int 1))))
  (sSeq (sAsg 15 (eBin fIx (eLst (aCons (eC (.str tx_ahead)) (aCons (eC (.str tx_behind)) aNil))) (eCall f_law_next [true, false] (aCons (eVar 0) (aCons (eC (.int 2)) aNil)))))
  (sSeq (sAsg 16 (eBin fEq (eCall f_law_next [true, false] (aCons (eVar 0) (aCons (eC (.int 2)) aNil))) (eC (.int 0))))
  (sRet (eTup (aCons (eC (.str tx_look)) (aCons (eVar 15) (aCons (eVar 16) (aCons (eCall f_law_form [true, false, false, false, false, true] (aCons (eVar 0) (aCons (eVar 1) (aCons (eBin fSub (eVar 2) (eC (.int 1))) (aCons (eBin fSub (eVar 3) (eC (.int 1))) (aCons (eC (.bl false)) (aCons (eVar 5) aNil))))))) aNil))))))))) sNx)
  (sRet (eCall f_law_tip_v101 [true, false, true] (aCons (eVar 0) (aCons (eVar 4) (aCons (eVar 5) aNil)))))))))))
def fx_law_form : Nat → Fn
  | 0 => fun _ => none
  | n + 1 => fnS 6 17 (b_law_form (fx_law_form n))
def f_law_form : Fn := fx_law_form 60
theorem fx_law_form_len : ∀ (n : Nat) (gs : List Ag) (z : Vl × List (List D)), fx_law_form n gs = some z → gs.length = 6
  | 0, _, _, h => by unfold fx_law_form at h; cases h
  | n + 1, gs, z, h => by unfold fx_law_form at h; exact fnS_len gs z h
/-- _law_drawn_tree(_law_draw_here, _law_fuel, _law_nodes): slots 0=_law_draw_here 1=_law_fuel 2=_law_nodes 3=_law_known 4=_law_choice 5=_law_first 6=_law_second 7=_law_parts 8=_law_k 9=_law_sign -/
def b_law_drawn_tree : S := (sSeq (sSetI 0 (eC (.int 4)) (eC (.int 4)))
  (sSeq (sAsg 3 (eLst aNil))
  (sSeq (sAsg 4 (eCall f_law_next [true, false] (aCons (eVar 0) (aCons (eC (.int 10)) aNil))))
  (sSeq (sIf (tE (eBin fEq (eVar 4) (eC (.int 0)))) (sRet (eCall f_law_form [true, false, false, false, false, true] (aCons (eVar 0) (aCons (eVar 1) (aCons (eVar 2) (aCons (eC (.int 12)) (aCons (eC (.bl true)) (aCons (eVar 3) aNil)))))))) sNx)
  (sSeq (sIf (tE (eBin fEq (eVar 4) (eC (.int 1)))) (sRet (eCall f_law_chain [true, false, false, true] (aCons (eVar 0) (aCons (eC (.int 12)) (aCons (eC (.bl true)) (aCons (eVar 3) aNil)))))) sNx)
  (sSeq (sIf (tE (eBin fEq (eVar 4) (eC (.int 2)))) (sSeq (sAsg 7 (eLst aNil))
  (sSeq (sFor (iR1 (aCons (eBin fAdd (eC (.int 2)) (eCall f_law_next [true, false] (aCons (eVar 0) (aCons (eC (.int 58)) aNil)))) aNil)) (gN 8) (sSeq (sAsg 9 (eBin fIx (eCall f_law_signs [] aNil) (eCall f_law_next [true, false] (aCons (eVar 0) (aCons (eC (.int 96)) aNil)))))
  (sApp 7 (eBin fIx (eLst (aCons (eTup (aCons (eC (.str [115, 101, 116])) (aCons (eVar 9) aNil))) (aCons (eTup (aCons (eC (.str [115, 101, 116])) (aCons (eVar 9) aNil))) (aCons (eTup (aCons (eC (.str [115, 101, 116])) (aCons (eVar 9) aNil))) (aCons (eTup (aCons (eC (.str tx_empty)) aNil)) aNil))))) (eCall f_law_next [true, false] (aCons (eVar 0) (aCons (eC (.int 4)) aNil)))))))
  (sRet (eTup (aCons (eBin fIx (eLst (aCons (eC (.str [115, 101, 113])) (aCons (eC (.str [97, 108, 116])) aNil))) (eCall f_law_next [true, false] (aCons (eVar 0) (aCons (eC (.int 2)) aNil)))) (aCons (eBlt cTup (aCons (eVar 7) aNil)) aNil)))))) sNx)
  (sSeq (sAsg 5 (eCall f_law_form [true, false, false, false, false, true] (aCons (eVar 0) (aCons (eBin fDiv (eVar 1) (eC (.int 2))) (aCons (eBin fDiv (eBin fSub (eVar 2) (eC (.int 1))) (eC (.int 2))) (aCons (eC (.int 11)) (aCons (eC (.bl true)) (aCons (eVar 3) aNil))))))))
  (sSeq (sAsg 6 (eCall f_law_form [true, false, false, false, false, true] (aCons (eVar 0) (aCons (eBin fDiv (eVar 1) (eC (.int 2))) (aCons (eBin fDiv (eBin fSub (eVar 2) (eC (.int 1))) (eC (.int 2))) (aCons (eC (.int 11)) (aCons (eC (.bl true)) (aCons (eVar 3) aNil))))))))
  (sRet (eTup (aCons (eBin fIx (eLst (aCons (eC (.str [115, 101, 113])) (aCons (eC (.str [97, 108, 116])) aNil))) (eBin fDiv (eVar 4) (eC (.int 7)))) (aCons (eTup (aCons (eVar 5) (aCons (eVar 6) aNil))) aNil))))))))))))
def f_law_drawn_tree : Fn := fnS 3 10 b_law_drawn_tree
/-- _law_mark(_law_least, _law_most, _law_lazy): slots 0=_law_least 1=_law_most 2=_law_lazy 3=_law_mark_here -/
def b_law_mark : S := (sSeq (sAsg 3 (eBin fAdd (eBin fAdd (eBin fAdd (eBin fAdd (eC (.str [60])) (eBlt cStrA (aCons (eVar 0) aNil))) (eC (.str [44]))) (eBlt cStrA (aCons (eVar 1) aNil))) (eC (.str [62]))))
  (sSeq (sIf (tE (eBin fIs (eVar 1) (eC .non))) (sAsg 3 (eBin fAdd (eBin fAdd (eC (.str [60])) (eBlt cStrA (aCons (eVar 0) aNil))) (eC (.str [44, 62])))) sNx)
  (sSeq (sIf (tE (eBin fEq (eVar 0) (eVar 1))) (sAsg 3 (eBin fAdd (eBin fAdd (eC (.str [60])) (eBlt cStrA (aCons (eVar 0) aNil))) (eC (.str [62])))) sNx)
  (sSeq (sIf (tAnd (tE (eBin fEq (eVar 0) (eC (.int 0)))) (tE (eBin fIs (eVar 1) (eC .non)))) (sAsg 3 (eC (.str [42]))) sNx)
  (sSeq (sIf (tAnd (tE (eBin fEq (eVar 0) (eC (.int 1)))) (tE (eBin fIs (eVar 1) (eC .non)))) (sAsg 3 (eC (.str [43]))) sNx)
  (sSeq (sIf (tAnd (tE (eBin fEq (eVar 0) (eC (.int 0)))) (tE (eBin fEq (eVar 1) (eC (.int 1))))) (sAsg 3 (eC (.str [63]))) sNx)
  (sSeq (sIf (tE (eVar 2)) (sRet (eBin fAdd (eVar 3) (eC (.str [126])))) sNx)
  (sRet (eVar 3)))))))))
def f_law_mark : Fn := fnS 3 4 b_law_mark
/-- _law_escaped(_law_sign, _law_marked): slots 0=_law_sign 1=_law_marked -/
def b_law_escaped : S := (sSeq (sIf (tE (eBin fEq (eVar 0) (eC (.str [10])))) (sRet (eC (.str [92, 110]))) sNx)
  (sSeq (sIf (tE (eBin fEq (eVar 0) (eC (.str [9])))) (sRet (eC (.str [92, 116]))) sNx)
  (sSeq (sIf (tE (eBin fIn (eVar 0) (eVar 1))) (sRet (eBin fAdd (eC (.str [92])) (eVar 0))) sNx)
  (sRet (eVar 0)))))
def f_law_escaped : Fn := fnS 2 2 b_law_escaped
/-- _law_inside(_law_text): slots 0=_law_text 1=_law_signs_here 2=_law_marked 3=_law_written_here 4=_law_run 5=_law_k 6=_law_sign -/
def b_law_inside : S := (sSeq (sAsg 1 (eCall f_law_signs [] aNil))
  (sSeq (sAsg 2 (eC (.str tx_2)))
  (sSeq (sAsg 3 (eC (.str [])))
  (sSeq (sAsg 4 (eC (.str [])))
  (sSeq (sFor (iR1 (aCons (eC (.int 97)) aNil)) (gN 5) (sIf (tAnd (tE (eBin fLt (eVar 5) (eC (.int 96)))) (tE (eBin fIn (eBin fIx (eVar 1) (eVar 5)) (eVar 0)))) (sAsg 4 (eBin fAdd (eVar 4) (eBin fIx (eVar 1) (eVar 5)))) (sSeq (sIf (tE (eBin fGt (eBlt cLen (aCons (eVar 4) aNil)) (eC (.int 2)))) (sAsg 4 (eBin fAdd (eBin fAdd (eCall f_law_escaped [] (aCons (eBin fIx (eVar 4) (eC (.int 0))) (aCons (eVar 2) aNil))) (eC (.str [45]))) (eCall f_law_escaped [] (aCons (eBin fIx (eVar 4) (eUn fNeg (eC (.int 1)))) (aCons (eVar 2) aNil))))) (sAsg 4 (eMet fJoin (eC (.str [])) (aCons (eLc [6] (iSq (eVar 4)) (gN 6) tYesM (eCall f_law_escaped [] (aCons (eVar 6) (aCons (eVar 2) aNil)))) aNil))))
  (sSeq (sAsg 3 (eBin fAdd (eVar 3) (eVar 4)))
  (sAsg 4 (eC (.str [])))))))
  (sRet (eVar 3)))))))
def f_law_inside : Fn := fnS 1 7 b_law_inside
/-- _law_written_set(_law_text): slots 0=_law_text 1=_law_rest 2=_law_direct 3=_law_other 4=_law_sign -/
def b_law_written_set : S := (sSeq (sIf (tE (eBin fEq (eBlt cLen (aCons (eVar 0) aNil)) (eC (.int 1)))) (sRet (eCall f_law_escaped [] (aCons (eVar 0) (aCons (eC (.str tx_)) aNil)))) sNx)
  (sSeq (sAsg 1 (eMet fJoin (eC (.str [])) (aCons (eLc [4] (iSq (eCall f_law_signs [] aNil)) (gN 4) (tE (eBin fNi (eVar 4) (eVar 0))) (eVar 4)) aNil)))
  (sSeq (sIf (tE (eBin fEq (eVar 1) (eC (.str [10])))) (sRet (eC (.str [46]))) sNx)
  (sSeq (sAsg 2 (eBin fAdd (eBin fAdd (eC (.str [91])) (eCall f_law_inside [] (aCons (eVar 0) aNil))) (eC (.str [93]))))
  (sSeq (sAsg 3 (eBin fAdd (eBin fAdd (eC (.str [91, 94])) (eCall f_law_inside [] (aCons (eVar 1) aNil))) (eC (.str [93]))))
  (sSeq (sIf (tE (eBin fLt (eBlt cLen (aCons (eVar 3) aNil)) (eBlt cLen (aCons (eVar 2) aNil)))) (sRet (eVar 3)) sNx)
  (sRet (eVar 2))))))))
def f_law_written_set : Fn := fnS 1 5 b_law_written_set
/-- _law_written(_law_tree, _law_place): slots 0=_law_tree 1=_law_place 2=_law_kind 3=_law_text 4=_law_bare 5=_law_head 6=_law_branch 7=_law_part -/
def b_law_written (f_law_written : Fn) : S := (sSeq (sAsg 2 (eBin fIx (eVar 0) (eC (.int 0))))
  (sSeq (sIf (tE (eBin fEq (eVar 2) (eC (.str [115, 101, 116])))) (sRet (eCall f_law_written_set [] (aCons (eBin fIx (eVar 0) (eC (.int 1))) aNil))) sNx)
  (sSeq (sIf (tE (eBin fEq (eVar 2) (eC (.str tx_edge)))) (sRet (eBin fAdd (eBin fAdd (eC (.str [123])) (eBin fIx (eVar 0) (eC (.int 1)))) (eC (.str [125])))) sNx)
  (sSeq (sIf (tE (eBin fEq (eVar 2) (eC (.str tx_same)))) (sRet (eBin fAdd (eBin fAdd (eC (.str tx_same2)) (eBin fIx (eVar 0) (eC (.int 1)))) (eC (.str [125])))) sNx)
  (sSeq (sIf (tE (eBin fEq (eVar 2) (eC (.str tx_group)))) (sRet (eBin fAdd (eBin fAdd (eBin fAdd (eBin fAdd (eC (.str tx_as)) (eBin fIx (eVar 0) (eC (.int 1)))) (eC (.str [58]))) (eCall f_law_written [] (aCons (eBin fIx (eVar 0) (eC (.int 2))) (aCons (eC (.int 0)) aNil)))) (eC (.str [125])))) sNx)
  (sSeq (sIf (tE (eBin fEq (eVar 2) (eC (.str tx_look)))) (sSeq (sAsg 5 (eC (.str tx_not)))
  (sSeq (sIf (tE (eBin fIx (eVar 0) (eC (.int 2)))) (sAsg 5 (eC (.str [123]))) sNx)
  (sRet (eBin fAdd (eBin fAdd (eBin fAdd (eBin fAdd (eVar 5) (eBin fIx (eVar 0) (eC (.int 1)))) (eC (.str [58]))) (eCall f_law_written [] (aCons (eBin fIx (eVar 0) (eC (.int 3))) (aCons (eC (.int 0)) aNil)))) (eC (.str [125])))))) sNx)
  (sSeq (sAsg 3 (eC (.str [])))
  (sSeq (sAsg 4 (eC (.int 1)))
  (sSeq (sIf (tE (eBin fEq (eVar 2) (eC (.str [97, 108, 116])))) (sSeq (sAsg 3 (eMet fJoin (eC (.str [124])) (aCons (eLc [6] (iSq (eBin fIx (eVar 0) (eC (.int 1)))) (gN 6) tYesM (eCall f_law_written [] (aCons (eVar 6) (aCons (eC (.int 1)) aNil)))) aNil)))
  (sAsg 4 (eC (.int 0)))) sNx)
  (sSeq (sIf (tE (eBin fEq (eVar 2) (eC (.str [115, 101, 113])))) (sAsg 3 (eMet fJoin (eC (.str [])) (aCons (eLc [7] (iSq (eBin fIx (eVar 0) (eC (.int 1)))) (gN 7) tYesM (eCall f_law_written [] (aCons (eVar 7) (aCons (eC (.int 2)) aNil)))) aNil))) sNx)
  (sSeq (sIf (tE (eBin fEq (eVar 2) (eC (.str tx_repeat)))) (sSeq (sAsg 3 (eBin fAdd (eCall f_law_written [] (aCons (eBin fIx (eVar 0) (eC (.int 1))) (aCons (eC (.int 3)) aNil))) (eCall f_law_mark [] (aCons (eBin fIx (eVar 0) (eC (.int 2))) (aCons (eBin fIx (eVar 0) (eC (.int 3))) (aCons (eBin fIx (eVar 0) (eC (.int 4))) aNil))))))
  (sAsg 4 (eC (.int 2)))) sNx)
  (sSeq (sIf (tE (eBin fGt (eVar 1) (eVar 4))) (sRet (eBin fAdd (eBin fAdd (eC (.str [40])) (eVar 3)) (eC (.str [41])))) sNx)
  (sRet (eVar 3))))))))))))))
def fx_law_written : Nat → Fn
  | 0 => fun _ => none
  | n + 1 => fnS 2 8 (b_law_written (fx_law_written n))
def f_law_written : Fn := fx_law_written 60
theorem fx_law_written_len : ∀ (n : Nat) (gs : List Ag) (z : Vl × List (List D)), fx_law_written n gs = some z → gs.length = 2
  | 0, _, _, h => by unfold fx_law_written at h; cases h
  | n + 1, gs, z, h => by unfold fx_law_written at h; exact fnS_len gs z h
/-- write_repeat(least, most, lazy): slots 0=least 1=most 2=lazy 3=mark -/
def b_write_repeat : S := (sSeq (sIf (tE (eBin fEq (eVar 1) (eVar 0))) (sAsg 3 (eBin fAdd (eBin fAdd (eC (.str [60])) (eBlt cStrA (aCons (eVar 0) aNil))) (eC (.str [62])))) (sIf (tAnd (tE (eBin fEq (eVar 0) (eC (.int 0)))) (tE (eBin fIs (eVar 1) (eC .non)))) (sAsg 3 (eC (.str [42]))) (sIf (tAnd (tE (eBin fEq (eVar 0) (eC (.int 1)))) (tE (eBin fIs (eVar 1) (eC .non)))) (sAsg 3 (eC (.str [43]))) (sIf (tAnd (tE (eBin fEq (eVar 0) (eC (.int 0)))) (tE (eBin fEq (eVar 1) (eC (.int 1))))) (sAsg 3 (eC (.str [63]))) (sIf (tE (eBin fIs (eVar 1) (eC .non))) (sAsg 3 (eBin fAdd (eBin fAdd (eC (.str [60])) (eBlt cStrA (aCons (eVar 0) aNil))) (eC (.str [44, 62])))) (sAsg 3 (eBin fAdd (eBin fAdd (eBin fAdd (eBin fAdd (eC (.str [60])) (eBlt cStrA (aCons (eVar 0) aNil))) (eC (.str [44]))) (eBlt cStrA (aCons (eVar 1) aNil))) (eC (.str [62])))))))))
  (sSeq (sIf (tE (eVar 2)) (sRet (eBin fAdd (eVar 3) (eC (.str [126])))) sNx)
  (sRet (eVar 3))))
def f_write_repeat : Fn := fnS 3 4 b_write_repeat
/-- rank(sign): slots 0=sign -/
def b_rank : S := (sRet (eMet fFind (eC (.str c_SIGNS)) (aCons (eVar 0) aNil)))
def f_rank : Fn := fnS 1 1 b_rank
/-- runs_of(signs): slots 0=signs 1=runs 2=sign -/
def b_runs_of : S := (sSeq (sAsg 1 (eLst aNil))
  (sSeq (sFor (iSq (eVar 0)) (gN 2) (sIf (tAnd (tE (eBin fGt (eBlt cLen (aCons (eVar 1) aNil)) (eC (.int 0)))) (tE (eBin fEq (eCall f_rank [] (aCons (eVar 2) aNil)) (eBin fAdd (eCall f_rank [] (aCons (eBin fIx (eBin fIx (eVar 1) (eUn fNeg (eC (.int 1)))) (eUn fNeg (eC (.int 1)))) aNil)) (eC (.int 1)))))) (sSetI 1 (eUn fNeg (eC (.int 1))) (eBin fAdd (eBin fIx (eVar 1) (eUn fNeg (eC (.int 1)))) (eVar 2))) (sApp 1 (eVar 2))))
  (sRet (eVar 1))))
def f_runs_of : Fn := fnS 1 3 b_runs_of
/-- write_sign(sign, escaped): slots 0=sign 1=escaped -/
def b_write_sign : S := (sSeq (sIf (tE (eBin fEq (eVar 0) (eC (.str [10])))) (sRet (eC (.str [92, 110]))) sNx)
  (sSeq (sIf (tE (eBin fEq (eVar 0) (eC (.str [9])))) (sRet (eC (.str [92, 116]))) sNx)
  (sSeq (sIf (tE (eBin fIn (eVar 0) (eVar 1))) (sRet (eBin fAdd (eC (.str [92])) (eVar 0))) sNx)
  (sRet (eVar 0)))))
def f_write_sign : Fn := fnS 2 2 b_write_sign
/-- write_run(run): slots 0=run 1=sign -/
def b_write_run : S := (sSeq (sIf (tE (eBin fLt (eBlt cLen (aCons (eVar 0) aNil)) (eC (.int 3)))) (sRet (eMet fJoin (eC (.str [])) (aCons (eLc [1] (iSq (eVar 0)) (gN 1) tYesM (eCall f_write_sign [] (aCons (eVar 1) (aCons (eC (.str c_BRACKET_SIGNS)) aNil)))) aNil))) sNx)
  (sRet (eBin fAdd (eBin fAdd (eCall f_write_sign [] (aCons (eBin fIx (eVar 0) (eC (.int 0))) (aCons (eC (.str c_BRACKET_SIGNS)) aNil))) (eC (.str [45]))) (eCall f_write_sign [] (aCons (eBin fIx (eVar 0) (eUn fNeg (eC (.int 1)))) (aCons (eC (.str c_BRACKET_SIGNS)) aNil))))))
def f_write_run : Fn := fnS 1 2 b_write_run
/-- write_entries(signs): slots 0=signs 1=run -/
def b_write_entries : S := (sRet (eMet fJoin (eC (.str [])) (aCons (eLc [1] (iSq (eCall f_runs_of [] (aCons (eVar 0) aNil))) (gN 1) tYesM (eCall f_write_run [] (aCons (eVar 1) aNil))) aNil)))
def f_write_entries : Fn := fnS 1 2 b_write_entries
/-- write_set(signs): slots 0=signs 1=others 2=direct 3=negated 4=sign -/
def b_write_set : S := (sSeq (sIf (tE (eBin fEq (eBlt cLen (aCons (eVar 0) aNil)) (eC (.int 1)))) (sRet (eCall f_write_sign [] (aCons (eVar 0) (aCons (eC (.str c_SPECIAL_SIGNS)) aNil)))) sNx)
  (sSeq (sAsg 1 (eMet fJoin (eC (.str [])) (aCons (eLc [4] (iSq (eC (.str c_SIGNS))) (gN 4) (tE (eBin fNi (eVar 4) (eVar 0))) (eVar 4)) aNil)))
  (sSeq (sIf (tE (eBin fEq (eVar 1) (eC (.str [10])))) (sRet (eC (.str [46]))) sNx)
  (sSeq (sAsg 2 (eBin fAdd (eBin fAdd (eC (.str [91])) (eCall f_write_entries [] (aCons (eVar 0) aNil))) (eC (.str [93]))))
  (sSeq (sAsg 3 (eBin fAdd (eBin fAdd (eC (.str [91, 94])) (eCall f_write_entries [] (aCons (eVar 1) aNil))) (eC (.str [93]))))
  (sSeq (sIf (tE (eBin fLt (eBlt cLen (aCons (eVar 3) aNil)) (eBlt cLen (aCons (eVar 2) aNil)))) (sRet (eVar 3)) sNx)
  (sRet (eVar 2))))))))
def f_write_set : Fn := fnS 1 5 b_write_set
/-- write_child(child, wrapped): slots 0=child 1=wrapped -/
def b_write_child (f_write_child f_write_pattern : Fn) : S := (sSeq (sIf (tE (eBin fIn (eBin fIx (eVar 0) (eC (.int 0))) (eVar 1))) (sRet (eBin fAdd (eBin fAdd (eC (.str [40])) (eCall f_write_pattern [] (aCons (eVar 0) aNil))) (eC (.str [41])))) sNx)
  (sRet (eCall f_write_pattern [] (aCons (eVar 0) aNil))))
/-- write_pattern(tree): slots 0=tree 1=kind 2=body 3=head 4=part 5=branch -/
def b_write_pattern (f_write_child f_write_pattern : Fn) : S := (sSeq (sAsg 1 (eBin fIx (eVar 0) (eC (.int 0))))
  (sSeq (sIf (tE (eBin fEq (eVar 1) (eC (.str [115, 101, 116])))) (sRet (eCall f_write_set [] (aCons (eBin fIx (eVar 0) (eC (.int 1))) aNil))) sNx)
  (sSeq (sIf (tE (eBin fEq (eVar 1) (eC (.str [115, 101, 113])))) (sRet (eMet fJoin (eC (.str [])) (aCons (eLc [4] (iSq (eBin fIx (eVar 0) (eC (.int 1)))) (gN 4) tYesM (eCall f_write_child [] (aCons (eVar 4) (aCons (eTup (aCons (eC (.str [97, 108, 116])) (aCons (eC (.str tx_empty)) (aCons (eC (.str [115, 101, 113])) aNil)))) aNil)))) aNil))) sNx)
  (sSeq (sIf (tE (eBin fEq (eVar 1) (eC (.str [97, 108, 116])))) (sRet (eMet fJoin (eC (.str [124])) (aCons (eLc [5] (iSq (eBin fIx (eVar 0) (eC (.int 1)))) (gN 5) tYesM (eCall f_write_child [] (aCons (eVar 5) (aCons (eTup (aCons (eC (.str [97, 108, 116])) aNil)) aNil)))) aNil))) sNx)
  (sSeq (sIf (tE (eBin fEq (eVar 1) (eC (.str tx_repeat)))) (sSeq (sAsg 2 (eCall f_write_child [] (aCons (eBin fIx (eVar 0) (eC (.int 1))) (aCons (eTup (aCons (eC (.str [97, 108, 116])) (aCons (eC (.str [115, 101, 113])) (aCons (eC (.str tx_empty)) (aCons (eC (.str tx_repeat)) aNil))))) aNil))))
  (sRet (eBin fAdd (eVar 2) (eCall f_write_repeat [] (aCons (eBin fIx (eVar 0) (eC (.int 2))) (aCons (eBin fIx (eVar 0) (eC (.int 3))) (aCons (eBin fIx (eVar 0) (eC (.int 4))) aNil))))))) sNx)
  (sSeq (sIf (tE (eBin fEq (eVar 1) (eC (.str tx_group)))) (sRet (eBin fAdd (eBin fAdd (eBin fAdd (eBin fAdd (eC (.str tx_as)) (eBin fIx (eVar 0) (eC (.int 1)))) (eC (.str [58]))) (eCall f_write_pattern [] (aCons (eBin fIx (eVar 0) (eC (.int 2))) aNil))) (eC (.str [125])))) sNx)
  (sSeq (sIf (tE (eBin fEq (eVar 1) (eC (.str tx_look)))) (sSeq (sAsg 3 (eIf (tE (eBin fIx (eVar 0) (eC (.int 2)))) (eC (.str [123])) (eC (.str tx_not))))
  (sRet (eBin fAdd (eBin fAdd (eBin fAdd (eBin fAdd (eVar 3) (eBin fIx (eVar 0) (eC (.int 1)))) (eC (.str [58]))) (eCall f_write_pattern [] (aCons (eBin fIx (eVar 0) (eC (.int 3))) aNil))) (eC (.str [125]))))) sNx)
  (sSeq (sIf (tE (eBin fEq (eVar 1) (eC (.str tx_edge)))) (sRet (eBin fAdd (eBin fAdd (eC (.str [123])) (eBin fIx (eVar 0) (eC (.int 1)))) (eC (.str [125])))) sNx)
  (sSeq (sIf (tE (eBin fEq (eVar 1) (eC (.str tx_same)))) (sRet (eBin fAdd (eBin fAdd (eC (.str tx_same2)) (eBin fIx (eVar 0) (eC (.int 1)))) (eC (.str [125])))) sNx)
  (sRet (eC (.str []))))))))))))
mutual
def fx_write_child : Nat → Fn
  | 0 => fun _ => none
  | n + 1 => fnS 2 2 (b_write_child (fx_write_child n) (fx_write_pattern n))
def fx_write_pattern : Nat → Fn
  | 0 => fun _ => none
  | n + 1 => fnS 1 6 (b_write_pattern (fx_write_child n) (fx_write_pattern n))
end
def f_write_child : Fn := fx_write_child 60
theorem fx_write_child_len : ∀ (n : Nat) (gs : List Ag) (z : Vl × List (List D)), fx_write_child n gs = some z → gs.length = 2
  | 0, _, _, h => by unfold fx_write_child at h; cases h
  | n + 1, gs, z, h => by unfold fx_write_child at h; exact fnS_len gs z h
def f_write_pattern : Fn := fx_write_pattern 60
theorem fx_write_pattern_len : ∀ (n : Nat) (gs : List Ag) (z : Vl × List (List D)), fx_write_pattern n gs = some z → gs.length = 1
  | 0, _, _, h => by unfold fx_write_pattern at h; cases h
  | n + 1, gs, z, h => by unfold fx_write_pattern at h; exact fnS_len gs z h
/-- law(_law_script): slots 0=_law_script 1=_law_draw_here 2=_law_nodes 3=_law_first 4=_law_second 5=_law_tree 6=_law_found -/
def b_law : S := (sSeq (sAsg 1 (eCall f_law_draw [] (aCons (eVar 0) aNil)))
  (sSeq (sAsg 2 (eBin fIx (eLst (aCons (eC (.int 19)) (aCons (eC (.int 19)) (aCons (eC (.int 19)) (aCons (eC (.int 60)) aNil))))) (eCall f_law_next [true, false] (aCons (eVar 1) (aCons (eC (.int 4)) aNil)))))
  (sSeq (sAsg 3 (eCall f_law_drawn_tree [true, false, false] (aCons (eVar 1) (aCons (eC (.int 33)) (aCons (eVar 2) aNil)))))
  (sSeq (sAsg 4 (eCall f_law_drawn_tree [true, false, false] (aCons (eVar 1) (aCons (eC (.int 33)) (aCons (eC (.int 19)) aNil)))))
  (sSeq (sFor (iSq (eBin fAdd (eLst (aCons (eVar 3) (aCons (eVar 4) (aCons (eVar 3) aNil)))) (eCall f_law_below [] (aCons (eVar 3) aNil)))) (gN 5) (sSeq (sAsg 6 (eCall f_write_pattern [] (aCons (eVar 5) aNil)))
  (sIf (tOr (tNot (tE (eUn (fIsi "str") (eVar 6)))) (tE (eBin fNe (eVar 6) (eCall f_law_written [] (aCons (eVar 5) (aCons (eC (.int 0)) aNil)))))) (sRet (eC (.bl false))) sNx)))
  (sRet (eC (.bl true))))))))
def f_law : Fn := fnS 1 7 b_law
end K10
set_option Elab.async false
set_option linter.all false
set_option maxRecDepth 100000
set_option maxHeartbeats 4000000
namespace K10
open Sw L2 Tre Runs
--HDR
local macro_rules | `(tactic| walk_at "fn") => `(tactic| (fail))
local macro_rules | `(tactic| walk_at "s1") => `(tactic| (first | ((with_reducible refine gEv ?_); (first | ((with_reducible refine' ev_tAnd_d ?s0 ?s1 ?_); (case s0 => (intro Q q; walk_at "g"; (first | exact q | exact toD_n q | exact toD_t q | exact toD_f q | exact toD_b q))); (case s1 => (intro hp Q q; walk_at "g"; (first | exact q | exact toD_n q | exact toD_t q | exact toD_f q | exact toD_b q)))) | ((with_reducible refine' ev_tOr_d ?s0 ?s1 ?_); (case s0 => (intro Q q; walk_at "g"; (first | exact q | exact toD_n q | exact toD_t q | exact toD_f q | exact toD_b q))); (case s1 => (intro hp Q q; walk_at "g"; (first | exact q | exact toD_n q | exact toD_t q | exact toD_f q | exact toD_b q)))) | with_reducible refine ev_c ?_ | ((with_reducible refine' ev_vd ?s0 ?_); (case s0 => (rfl))) | ((with_reducible refine' ev_vo ?s0 ?_); (case s0 => (rfl))) | ((with_reducible refine' ev_vi ?s0 ?_); (case s0 => (rfl))) | with_reducible refine ev_bin ?_ | with_reducible refine ev_un ?_ | with_reducible refine ev_anil ?_ | with_reducible refine ev_acons ?_ | with_reducible refine ev_blt ?_ | with_reducible refine ev_met ?_ | with_reducible refine ev_ono ?_ | with_reducible refine ev_osome ?_ | with_reducible refine ev_sl ?_ | with_reducible refine ev_tup ?_ | with_reducible refine ev_lst ?_ | with_reducible refine ev_tE ?_ | with_reducible refine ev_tyes ?_ | with_reducible refine ev_tAnd ?_ | with_reducible refine ev_tOr ?_ | with_reducible refine ev_tNot ?_ | with_reducible refine ev_eAnd ?_ | with_reducible refine ev_eOr ?_ | with_reducible refine ev_eNot ?_ | with_reducible refine ev_eIf ?_ | with_reducible refine ev_chain ?_ | with_reducible refine ev_call ?_)) | ((with_reducible refine gGiv ?_); (first | ((with_reducible refine' giv_mod ?s0 ?_); (case s0 => (first | assumption | decide | omega | (show _ ≤ 16777216; omega) | (show _ < 16777216; omega) | (simp only [List.length_append, List.length_cons, List.length_nil, List.length_replicate, List.length_map, List.length_take, List.length_drop, List.length_dropLast]; first | omega | (show _ ≤ 16777216; omega))))) | ((with_reducible refine' giv_div ?s0 ?_); (case s0 => (first | assumption | decide | omega | (show _ ≤ 16777216; omega) | (show _ < 16777216; omega) | (simp only [List.length_append, List.length_cons, List.length_nil, List.length_replicate, List.length_map, List.length_take, List.length_drop, List.length_dropLast]; first | omega | (show _ ≤ 16777216; omega))))) | ((with_reducible refine' giv_mul ?s0 ?_); (case s0 => (first | assumption | exact cMul_r (by decide) | exact cMul_r (by omega)))) | ((with_reducible refine' giv_muls ?s0 ?_); (case s0 => (first | assumption | decide | omega | (show _ ≤ 16777216; omega) | (show _ < 16777216; omega) | (simp only [List.length_append, List.length_cons, List.length_nil, List.length_replicate, List.length_map, List.length_take, List.length_drop, List.length_dropLast]; first | omega | (show _ ≤ 16777216; omega))))) | ((with_reducible refine' giv_adds ?s0 ?_); (case s0 => (first | assumption | decide | omega | (show _ ≤ 16777216; omega) | (show _ < 16777216; omega) | (simp only [List.length_append, List.length_cons, List.length_nil, List.length_replicate, List.length_map, List.length_take, List.length_drop, List.length_dropLast]; first | omega | (show _ ≤ 16777216; omega))))) | ((with_reducible refine' giv_addl ?s0 ?_); (case s0 => (first | assumption | decide | omega | (show _ ≤ 16777216; omega) | (show _ < 16777216; omega) | (simp only [List.length_append, List.length_cons, List.length_nil, List.length_replicate, List.length_map, List.length_take, List.length_drop, List.length_dropLast]; first | omega | (show _ ≤ 16777216; omega))))) | ((with_reducible refine' giv_ixl ?s0 ?_); (case s0 => (first | assumption | rfl | exact atI_zero))) | ((with_reducible refine' giv_ixt ?s0 ?_); (case s0 => (first | assumption | rfl | exact atI_zero))) | ((with_reducible refine' giv_ixs ?s0 ?s1 ?_); (case s0 => (first | assumption | decide | omega | (show _ ≤ 16777216; omega) | (show _ < 16777216; omega) | (simp only [List.length_append, List.length_cons, List.length_nil, List.length_replicate, List.length_map, List.length_take, List.length_drop, List.length_dropLast]; first | omega | (show _ ≤ 16777216; omega)))); (case s1 => (first | assumption | rfl))) | ((with_reducible refine' giv_dr4 ?s0 ?_); (case s0 => (assumption))) | ((with_reducible refine' giv_slm1 ?s0 ?_); (case s0 => (first | assumption | decide | omega | (show _ ≤ 16777216; omega) | (show _ < 16777216; omega) | (simp only [List.length_append, List.length_cons, List.length_nil, List.length_replicate, List.length_map, List.length_take, List.length_drop, List.length_dropLast]; first | omega | (show _ ≤ 16777216; omega))))) | ((with_reducible refine' giv_slt ?s0 ?s1 ?_); (case s0 => (first | assumption | decide | omega | (show _ ≤ 16777216; omega) | (show _ < 16777216; omega) | (simp only [List.length_append, List.length_cons, List.length_nil, List.length_replicate, List.length_map, List.length_take, List.length_drop, List.length_dropLast]; first | omega | (show _ ≤ 16777216; omega)))); (case s1 => (first | assumption | decide | omega))) | ((with_reducible refine' giv_sld ?s0 ?s1 ?_); (case s0 => (first | assumption | decide | omega | (show _ ≤ 16777216; omega) | (show _ < 16777216; omega) | (simp only [List.length_append, List.length_cons, List.length_nil, List.length_replicate, List.length_map, List.length_take, List.length_drop, List.length_dropLast]; first | omega | (show _ ≤ 16777216; omega)))); (case s1 => (first | assumption | decide | omega))) | ((with_reducible refine' giv_slm ?s0 ?s1 ?s2 ?_); (case s0 => (first | assumption | decide | omega | (show _ ≤ 16777216; omega) | (show _ < 16777216; omega) | (simp only [List.length_append, List.length_cons, List.length_nil, List.length_replicate, List.length_map, List.length_take, List.length_drop, List.length_dropLast]; first | omega | (show _ ≤ 16777216; omega)))); (case s1 => (first | assumption | decide | omega)); (case s2 => (first | assumption | decide | omega))) | ((with_reducible refine' giv_sltl ?s0 ?_); (case s0 => (first | assumption | decide | omega))) | ((with_reducible refine' giv_sldl ?s0 ?_); (case s0 => (first | assumption | decide | omega))) | ((with_reducible refine' giv_sls ?s0 ?_); (case s0 => (first | assumption | decide | omega | (show _ ≤ 16777216; omega) | (show _ < 16777216; omega) | (simp only [List.length_append, List.length_cons, List.length_nil, List.length_replicate, List.length_map, List.length_take, List.length_drop, List.length_dropLast]; first | omega | (show _ ≤ 16777216; omega))))) | with_reducible refine giv_sll ?_ | ((with_reducible refine' giv_lens ?s0 ?_); (case s0 => (first | assumption | decide | omega | (show _ ≤ 16777216; omega) | (show _ < 16777216; omega) | (simp only [List.length_append, List.length_cons, List.length_nil, List.length_replicate, List.length_map, List.length_take, List.length_drop, List.length_dropLast]; first | omega | (show _ ≤ 16777216; omega))))) | ((with_reducible refine' giv_revs ?s0 ?_); (case s0 => (first | assumption | decide | omega | (show _ ≤ 16777216; omega) | (show _ < 16777216; omega) | (simp only [List.length_append, List.length_cons, List.length_nil, List.length_replicate, List.length_map, List.length_take, List.length_drop, List.length_dropLast]; first | omega | (show _ ≤ 16777216; omega))))) | with_reducible refine giv_tup ?_ | with_reducible refine giv_tupt ?_ | ((with_reducible refine' giv_str ?s0 ?_); (case s0 => (first | assumption | decide | omega))) | with_reducible refine giv_strN ?_ | with_reducible refine giv_strS ?_ | with_reducible refine giv r_add1 ?_ | with_reducible refine giv r_sub ?_ | with_reducible refine giv r_lt ?_ | with_reducible refine giv r_lts ?_ | with_reducible refine giv r_le ?_ | with_reducible refine giv r_gt ?_ | with_reducible refine giv r_ge ?_ | with_reducible refine giv r_eqi ?_ | with_reducible refine giv r_eqs ?_ | with_reducible refine giv r_eqb ?_ | with_reducible refine giv r_nei ?_ | with_reducible refine giv r_nes ?_ | with_reducible refine giv r_neb ?_ | with_reducible refine giv r_isb ?_ | with_reducible refine giv r_ntb ?_ | with_reducible refine giv r_ins ?_ | with_reducible refine giv r_nis ?_ | with_reducible refine giv r_neg ?_ | with_reducible refine giv r_len2 ?_ | with_reducible refine giv r_len3 ?_ | with_reducible refine giv r_int1 ?_ | with_reducible refine giv r_fFind ?_ | with_reducible refine giv r_rev1 ?_ | with_reducible refine giv r_fIsi1 ?_ | with_reducible refine giv r_fIsi2 ?_ | with_reducible refine giv r_fIsi3 ?_ | with_reducible refine giv r_fIsi4 ?_ | with_reducible refine giv r_fIsi5 ?_ | with_reducible refine giv r_fIsi6 ?_ | with_reducible refine giv r_min2 ?_ | with_reducible refine giv r_max2 ?_ | with_reducible refine giv r_min3 ?_ | with_reducible refine giv r_isn1 ?_ | with_reducible refine giv r_isn2 ?_ | with_reducible refine giv r_isn3 ?_ | with_reducible refine giv r_isn4 ?_ | with_reducible refine giv r_isn5 ?_ | with_reducible refine giv r_ntn1 ?_ | with_reducible refine giv r_ntn2 ?_ | with_reducible refine giv r_ntn3 ?_ | with_reducible refine giv r_ntn4 ?_ | with_reducible refine giv r_ntn5 ?_ | with_reducible refine giv r_eqn1 ?_ | with_reducible refine giv r_eqn2 ?_ | ((with_reducible refine' giv ?s0 ?_); (case s0 => (first | exact (rfl : _ = some (D.bl true)) | exact (rfl : _ = some (D.bl false))))) | ((with_reducible refine' giv_ixs_all ?s0 ?s1 ?s2 ?_); (case s0 => (first | assumption | decide | omega | (show _ ≤ 16777216; omega) | (show _ < 16777216; omega) | (simp only [List.length_append, List.length_cons, List.length_nil, List.length_replicate, List.length_map, List.length_take, List.length_drop, List.length_dropLast]; first | omega | (show _ ≤ 16777216; omega)))); (case s1 => (first | assumption | decide | omega)); (case s2 => (first | assumption | (refine Int.lt_of_lt_of_le (by assumption) ?_; decide) | (show _ < (_ : Int); omega) | (simp only [List.length_append, List.length_cons, List.length_nil]; omega))); intro _ _))) | ((with_reducible refine gBrn ?_); (first | with_reducible refine brn_t ?_ | with_reducible refine brn_f ?_ | with_reducible refine brn_nT ?_ | with_reducible refine brn_nF ?_ | with_reducible refine brn_nn ?_ | ((with_reducible refine' brn_dt ?s0 ?_); (case s0 => decide)) | ((with_reducible refine' brn_df ?s0 ?_); (case s0 => decide)) | ((with_reducible refine' brn_nt ?s0 ?_); (case s0 => decide)) | ((with_reducible refine' brn_nf ?s0 ?_); (case s0 => decide)))) | ((with_reducible refine gFv ?_); (first | ((with_reducible refine' fv_nextE ?s0 ?s1 ?_); (case s0 => assumption); (case s1 => (first | assumption | decide | omega)); intro _ _ _ _ _; (try dsimp only [puts, put, agI, outsOf, slOf, List.set_cons_zero, List.set_cons_succ, List.getElem?_cons_zero, List.getElem?_cons_succ, wipeR, backR, Option.getD_some, stl])) | ((with_reducible refine' fv_drawE ?s0 ?_); (case s0 => assumption); intro _ _) | with_reducible refine fv_signs ?_ | (walk_at "fn"))) | with_reducible refine ret_z ?_ | with_reducible refine ret_r ?_ | ((with_reducible refine' ret_b ?s0 ?_); (case s0 => (rfl))) | ((with_reducible refine' see2 ?s0 ?s1 ?_); (case s0 => (rfl)); (case s1 => (rfl))) | ((with_reducible refine' see1 ?s0 ?_); (case s0 => (rfl))) | ((with_reducible refine' sees ?s0 ?_); (case s0 => (rfl))) | with_reducible refine isI ?_ | with_reducible refine isB ?_ | with_reducible refine isBD ?_ | ((with_reducible refine' frzs' ?s0 (And.intro ?s1 ?_)); (case s0 => rfl); (case s1 => (first | decide | simp)); (try dsimp only [puts, put, agI, outsOf, slOf, List.set_cons_zero, List.set_cons_succ, List.getElem?_cons_zero, List.getElem?_cons_succ, wipeR, backR, Option.getD_some, stl])) | ((with_reducible refine' arg ?s0 ?s1 ?s2 ?_); (case s0 => (rfl)); (case s1 => (rfl)); (case s2 => (first | exact List.nodup_nil | exact nodup1 | simp [agI])); (try dsimp only [puts, put, agI, outsOf, slOf, List.set_cons_zero, List.set_cons_succ, List.getElem?_cons_zero, List.getElem?_cons_succ, wipeR, backR, Option.getD_some, stl])) | ((with_reducible refine' ex_asg ?s0 ?_); (case s0 => (first | rfl | assumption)); (try dsimp only [puts, put, agI, outsOf, slOf, List.set_cons_zero, List.set_cons_succ, List.getElem?_cons_zero, List.getElem?_cons_succ, wipeR, backR, Option.getD_some, stl])) | ((with_reducible refine' ex_asg' ?s0 ?_); (case s0 => (first | rfl | assumption)); (try dsimp only [puts, put, agI, outsOf, slOf, List.set_cons_zero, List.set_cons_succ, List.getElem?_cons_zero, List.getElem?_cons_succ, wipeR, backR, Option.getD_some, stl])) | ((with_reducible refine' ex_asg'' ?s0 ?_); (case s0 => (rfl)); (try dsimp only [puts, put, agI, outsOf, slOf, List.set_cons_zero, List.set_cons_succ, List.getElem?_cons_zero, List.getElem?_cons_succ, wipeR, backR, Option.getD_some, stl])) | ((with_reducible refine' ex_asgT ?s0 ?_); (case s0 => (rfl)); (try dsimp only [puts, put, agI, outsOf, slOf, List.set_cons_zero, List.set_cons_succ, List.getElem?_cons_zero, List.getElem?_cons_succ, wipeR, backR, Option.getD_some, stl])) | ((with_reducible refine' nbw_z ?_); (try dsimp only [puts, put, agI, outsOf, slOf, List.set_cons_zero, List.set_cons_succ, List.getElem?_cons_zero, List.getElem?_cons_succ, wipeR, backR, Option.getD_some, stl])) | ((with_reducible refine' nbw_r ?_); (try dsimp only [puts, put, agI, outsOf, slOf, List.set_cons_zero, List.set_cons_succ, List.getElem?_cons_zero, List.getElem?_cons_succ, wipeR, backR, Option.getD_some, stl])) | ((with_reducible refine' own_at ?s0 (And.intro ?s1 ?_)); (case s0 => rfl); (case s1 => exact ⟨_, by assumption⟩); intro _ _; (try dsimp only [puts, put, agI, outsOf, slOf, List.set_cons_zero, List.set_cons_succ, List.getElem?_cons_zero, List.getElem?_cons_succ, wipeR, backR, Option.getD_some, stl])) | ((with_reducible refine gSv ?_); (first | with_reducible refine sv_asg_s ?_ | with_reducible refine sv_nx_s ?_ | with_reducible refine sv_if_s ?_ | with_reducible refine sv_ret_s ?_ | with_reducible refine sv_seq_s ?_ | with_reducible refine sv_drop_s ?_ | ((with_reducible refine' sv_app_s ?s0 ?_); (case s0 => (rfl))) | ((with_reducible refine' sv_app_l ?s0 ?_); (case s0 => (rfl))) | with_reducible refine sv_asg_l ?_ | with_reducible refine sv_if_l ?_ | with_reducible refine sv_ret_l ?_ | with_reducible refine sv_nx ?_ | with_reducible refine sv_asgT_s ?_ | with_reducible refine sv_asgT_l ?_ | with_reducible refine sv_set4_s ?_))))
local macro_rules | `(tactic| walk_at "s2") => `(tactic| (first | ((with_reducible refine gEv ?_); (first | ((with_reducible refine' ev_tAnd_d ?s0 ?s1 ?_); (case s0 => (intro Q q; walk_at "g"; (first | exact q | exact toD_n q | exact toD_t q | exact toD_f q | exact toD_b q))); (case s1 => (intro hp Q q; walk_at "g"; (first | exact q | exact toD_n q | exact toD_t q | exact toD_f q | exact toD_b q)))) | ((with_reducible refine' ev_tOr_d ?s0 ?s1 ?_); (case s0 => (intro Q q; walk_at "g"; (first | exact q | exact toD_n q | exact toD_t q | exact toD_f q | exact toD_b q))); (case s1 => (intro hp Q q; walk_at "g"; (first | exact q | exact toD_n q | exact toD_t q | exact toD_f q | exact toD_b q)))) | with_reducible refine ev_c ?_ | ((with_reducible refine' ev_vd ?s0 ?_); (case s0 => (rfl))) | ((with_reducible refine' ev_vo ?s0 ?_); (case s0 => (rfl))) | ((with_reducible refine' ev_vi ?s0 ?_); (case s0 => (rfl))) | with_reducible refine ev_bin ?_ | with_reducible refine ev_un ?_ | with_reducible refine ev_anil ?_ | with_reducible refine ev_acons ?_ | with_reducible refine ev_blt ?_ | with_reducible refine ev_met ?_ | with_reducible refine ev_ono ?_ | with_reducible refine ev_osome ?_ | with_reducible refine ev_sl ?_ | with_reducible refine ev_tup ?_ | with_reducible refine ev_lst ?_ | with_reducible refine ev_tE ?_ | with_reducible refine ev_tyes ?_ | with_reducible refine ev_tAnd ?_ | with_reducible refine ev_tOr ?_ | with_reducible refine ev_tNot ?_ | with_reducible refine ev_eAnd ?_ | with_reducible refine ev_eOr ?_ | with_reducible refine ev_eNot ?_ | with_reducible refine ev_eIf ?_ | with_reducible refine ev_chain ?_ | with_reducible refine ev_call ?_)) | ((with_reducible refine gGiv ?_); (first | ((with_reducible refine' giv_mod ?s0 ?_); (case s0 => (first | assumption | decide | omega | (show _ ≤ 16777216; omega) | (show _ < 16777216; omega) | (simp only [List.length_append, List.length_cons, List.length_nil, List.length_replicate, List.length_map, List.length_take, List.length_drop, List.length_dropLast]; first | omega | (show _ ≤ 16777216; omega))))) | ((with_reducible refine' giv_div ?s0 ?_); (case s0 => (first | assumption | decide | omega | (show _ ≤ 16777216; omega) | (show _ < 16777216; omega) | (simp only [List.length_append, List.length_cons, List.length_nil, List.length_replicate, List.length_map, List.length_take, List.length_drop, List.length_dropLast]; first | omega | (show _ ≤ 16777216; omega))))) | ((with_reducible refine' giv_mul ?s0 ?_); (case s0 => (first | assumption | exact cMul_r (by decide) | exact cMul_r (by omega)))) | ((with_reducible refine' giv_muls ?s0 ?_); (case s0 => (first | assumption | decide | omega | (show _ ≤ 16777216; omega) | (show _ < 16777216; omega) | (simp only [List.length_append, List.length_cons, List.length_nil, List.length_replicate, List.length_map, List.length_take, List.length_drop, List.length_dropLast]; first | omega | (show _ ≤ 16777216; omega))))) | ((with_reducible refine' giv_adds ?s0 ?_); (case s0 => (first | assumption | decide | omega | (show _ ≤ 16777216; omega) | (show _ < 16777216; omega) | (simp only [List.length_append, List.length_cons, List.length_nil, List.length_replicate, List.length_map, List.length_take, List.length_drop, List.length_dropLast]; first | omega | (show _ ≤ 16777216; omega))))) | ((with_reducible refine' giv_addl ?s0 ?_); (case s0 => (first | assumption | decide | omega | (show _ ≤ 16777216; omega) | (show _ < 16777216; omega) | (simp only [List.length_append, List.length_cons, List.length_nil, List.length_replicate, List.length_map, List.length_take, List.length_drop, List.length_dropLast]; first | omega | (show _ ≤ 16777216; omega))))) | ((with_reducible refine' giv_ixl ?s0 ?_); (case s0 => (first | assumption | rfl | exact atI_zero))) | ((with_reducible refine' giv_ixt ?s0 ?_); (case s0 => (first | assumption | rfl | exact atI_zero))) | ((with_reducible refine' giv_ixs ?s0 ?s1 ?_); (case s0 => (first | assumption | decide | omega | (show _ ≤ 16777216; omega) | (show _ < 16777216; omega) | (simp only [List.length_append, List.length_cons, List.length_nil, List.length_replicate, List.length_map, List.length_take, List.length_drop, List.length_dropLast]; first | omega | (show _ ≤ 16777216; omega)))); (case s1 => (first | assumption | rfl))) | ((with_reducible refine' giv_dr4 ?s0 ?_); (case s0 => (assumption))) | ((with_reducible refine' giv_slm1 ?s0 ?_); (case s0 => (first | assumption | decide | omega | (show _ ≤ 16777216; omega) | (show _ < 16777216; omega) | (simp only [List.length_append, List.length_cons, List.length_nil, List.length_replicate, List.length_map, List.length_take, List.length_drop, List.length_dropLast]; first | omega | (show _ ≤ 16777216; omega))))) | ((with_reducible refine' giv_slt ?s0 ?s1 ?_); (case s0 => (first | assumption | decide | omega | (show _ ≤ 16777216; omega) | (show _ < 16777216; omega) | (simp only [List.length_append, List.length_cons, List.length_nil, List.length_replicate, List.length_map, List.length_take, List.length_drop, List.length_dropLast]; first | omega | (show _ ≤ 16777216; omega)))); (case s1 => (first | assumption | decide | omega))) | ((with_reducible refine' giv_sld ?s0 ?s1 ?_); (case s0 => (first | assumption | decide | omega | (show _ ≤ 16777216; omega) | (show _ < 16777216; omega) | (simp only [List.length_append, List.length_cons, List.length_nil, List.length_replicate, List.length_map, List.length_take, List.length_drop, List.length_dropLast]; first | omega | (show _ ≤ 16777216; omega)))); (case s1 => (first | assumption | decide | omega))) | ((with_reducible refine' giv_slm ?s0 ?s1 ?s2 ?_); (case s0 => (first | assumption | decide | omega | (show _ ≤ 16777216; omega) | (show _ < 16777216; omega) | (simp only [List.length_append, List.length_cons, List.length_nil, List.length_replicate, List.length_map, List.length_take, List.length_drop, List.length_dropLast]; first | omega | (show _ ≤ 16777216; omega)))); (case s1 => (first | assumption | decide | omega)); (case s2 => (first | assumption | decide | omega))) | ((with_reducible refine' giv_sltl ?s0 ?_); (case s0 => (first | assumption | decide | omega))) | ((with_reducible refine' giv_sldl ?s0 ?_); (case s0 => (first | assumption | decide | omega))) | ((with_reducible refine' giv_sls ?s0 ?_); (case s0 => (first | assumption | decide | omega | (show _ ≤ 16777216; omega) | (show _ < 16777216; omega) | (simp only [List.length_append, List.length_cons, List.length_nil, List.length_replicate, List.length_map, List.length_take, List.length_drop, List.length_dropLast]; first | omega | (show _ ≤ 16777216; omega))))) | with_reducible refine giv_sll ?_ | ((with_reducible refine' giv_lens ?s0 ?_); (case s0 => (first | assumption | decide | omega | (show _ ≤ 16777216; omega) | (show _ < 16777216; omega) | (simp only [List.length_append, List.length_cons, List.length_nil, List.length_replicate, List.length_map, List.length_take, List.length_drop, List.length_dropLast]; first | omega | (show _ ≤ 16777216; omega))))) | ((with_reducible refine' giv_revs ?s0 ?_); (case s0 => (first | assumption | decide | omega | (show _ ≤ 16777216; omega) | (show _ < 16777216; omega) | (simp only [List.length_append, List.length_cons, List.length_nil, List.length_replicate, List.length_map, List.length_take, List.length_drop, List.length_dropLast]; first | omega | (show _ ≤ 16777216; omega))))) | with_reducible refine giv_tup ?_ | with_reducible refine giv_tupt ?_ | ((with_reducible refine' giv_str ?s0 ?_); (case s0 => (first | assumption | decide | omega))) | with_reducible refine giv_strN ?_ | with_reducible refine giv_strS ?_ | with_reducible refine giv r_add1 ?_ | with_reducible refine giv r_sub ?_ | with_reducible refine giv r_lt ?_ | with_reducible refine giv r_lts ?_ | with_reducible refine giv r_le ?_ | with_reducible refine giv r_gt ?_ | with_reducible refine giv r_ge ?_ | with_reducible refine giv r_eqi ?_ | with_reducible refine giv r_eqs ?_ | with_reducible refine giv r_eqb ?_ | with_reducible refine giv r_nei ?_ | with_reducible refine giv r_nes ?_ | with_reducible refine giv r_neb ?_ | with_reducible refine giv r_isb ?_ | with_reducible refine giv r_ntb ?_ | with_reducible refine giv r_ins ?_ | with_reducible refine giv r_nis ?_ | with_reducible refine giv r_neg ?_ | with_reducible refine giv r_len2 ?_ | with_reducible refine giv r_len3 ?_ | with_reducible refine giv r_int1 ?_ | with_reducible refine giv r_fFind ?_ | with_reducible refine giv r_rev1 ?_ | with_reducible refine giv r_fIsi1 ?_ | with_reducible refine giv r_fIsi2 ?_ | with_reducible refine giv r_fIsi3 ?_ | with_reducible refine giv r_fIsi4 ?_ | with_reducible refine giv r_fIsi5 ?_ | with_reducible refine giv r_fIsi6 ?_ | with_reducible refine giv r_min2 ?_ | with_reducible refine giv r_max2 ?_ | with_reducible refine giv r_min3 ?_ | with_reducible refine giv r_isn1 ?_ | with_reducible refine giv r_isn2 ?_ | with_reducible refine giv r_isn3 ?_ | with_reducible refine giv r_isn4 ?_ | with_reducible refine giv r_isn5 ?_ | with_reducible refine giv r_ntn1 ?_ | with_reducible refine giv r_ntn2 ?_ | with_reducible refine giv r_ntn3 ?_ | with_reducible refine giv r_ntn4 ?_ | with_reducible refine giv r_ntn5 ?_ | with_reducible refine giv r_eqn1 ?_ | with_reducible refine giv r_eqn2 ?_ | ((with_reducible refine' giv ?s0 ?_); (case s0 => (first | exact (rfl : _ = some (D.bl true)) | exact (rfl : _ = some (D.bl false))))) | ((with_reducible refine' giv_ixs_all ?s0 ?s1 ?s2 ?_); (case s0 => (first | assumption | decide | omega | (show _ ≤ 16777216; omega) | (show _ < 16777216; omega) | (simp only [List.length_append, List.length_cons, List.length_nil, List.length_replicate, List.length_map, List.length_take, List.length_drop, List.length_dropLast]; first | omega | (show _ ≤ 16777216; omega)))); (case s1 => (first | assumption | decide | omega)); (case s2 => (first | assumption | (refine Int.lt_of_lt_of_le (by assumption) ?_; decide) | (show _ < (_ : Int); omega) | (simp only [List.length_append, List.length_cons, List.length_nil]; omega))); intro _ _))) | ((with_reducible refine gBrn ?_); (first | with_reducible refine brn_t ?_ | with_reducible refine brn_f ?_ | with_reducible refine brn_nT ?_ | with_reducible refine brn_nF ?_ | with_reducible refine brn_nn ?_ | ((with_reducible refine' brn_dt ?s0 ?_); (case s0 => decide)) | ((with_reducible refine' brn_df ?s0 ?_); (case s0 => decide)) | ((with_reducible refine' brn_nt ?s0 ?_); (case s0 => decide)) | ((with_reducible refine' brn_nf ?s0 ?_); (case s0 => decide)))) | ((with_reducible refine gFv ?_); (first | ((with_reducible refine' fv_nextE ?s0 ?s1 ?_); (case s0 => assumption); (case s1 => (first | assumption | decide | omega)); intro _ _ _ _ _; (try dsimp only [puts, put, agI, outsOf, slOf, List.set_cons_zero, List.set_cons_succ, List.getElem?_cons_zero, List.getElem?_cons_succ, wipeR, backR, Option.getD_some, stl])) | ((with_reducible refine' fv_drawE ?s0 ?_); (case s0 => assumption); intro _ _) | with_reducible refine fv_signs ?_ | (walk_at "fn"))) | with_reducible refine ret_z ?_ | with_reducible refine ret_r ?_ | ((with_reducible refine' ret_b ?s0 ?_); (case s0 => (rfl))) | ((with_reducible refine' see2 ?s0 ?s1 ?_); (case s0 => (rfl)); (case s1 => (rfl))) | ((with_reducible refine' see1 ?s0 ?_); (case s0 => (rfl))) | ((with_reducible refine' sees ?s0 ?_); (case s0 => (rfl))) | with_reducible refine isI ?_ | with_reducible refine isB ?_ | with_reducible refine isBD ?_ | ((with_reducible refine' frzs' ?s0 (And.intro ?s1 ?_)); (case s0 => rfl); (case s1 => (first | decide | simp)); (try dsimp only [puts, put, agI, outsOf, slOf, List.set_cons_zero, List.set_cons_succ, List.getElem?_cons_zero, List.getElem?_cons_succ, wipeR, backR, Option.getD_some, stl])) | ((with_reducible refine' arg ?s0 ?s1 ?s2 ?_); (case s0 => (rfl)); (case s1 => (rfl)); (case s2 => (first | exact List.nodup_nil | exact nodup1 | simp [agI])); (try dsimp only [puts, put, agI, outsOf, slOf, List.set_cons_zero, List.set_cons_succ, List.getElem?_cons_zero, List.getElem?_cons_succ, wipeR, backR, Option.getD_some, stl])) | ((with_reducible refine' ex_asg ?s0 ?_); (case s0 => (first | rfl | assumption)); (try dsimp only [puts, put, agI, outsOf, slOf, List.set_cons_zero, List.set_cons_succ, List.getElem?_cons_zero, List.getElem?_cons_succ, wipeR, backR, Option.getD_some, stl])) | ((with_reducible refine' ex_asg' ?s0 ?_); (case s0 => (first | rfl | assumption)); (try dsimp only [puts, put, agI, outsOf, slOf, List.set_cons_zero, List.set_cons_succ, List.getElem?_cons_zero, List.getElem?_cons_succ, wipeR, backR, Option.getD_some, stl])) | ((with_reducible refine' ex_asg'' ?s0 ?_); (case s0 => (rfl)); (try dsimp only [puts, put, agI, outsOf, slOf, List.set_cons_zero, List.set_cons_succ, List.getElem?_cons_zero, List.getElem?_cons_succ, wipeR, backR, Option.getD_some, stl])) | ((with_reducible refine' ex_asgT ?s0 ?_); (case s0 => (rfl)); (try dsimp only [puts, put, agI, outsOf, slOf, List.set_cons_zero, List.set_cons_succ, List.getElem?_cons_zero, List.getElem?_cons_succ, wipeR, backR, Option.getD_some, stl])) | ((with_reducible refine' nbw_z ?_); (try dsimp only [puts, put, agI, outsOf, slOf, List.set_cons_zero, List.set_cons_succ, List.getElem?_cons_zero, List.getElem?_cons_succ, wipeR, backR, Option.getD_some, stl])) | ((with_reducible refine' nbw_r ?_); (try dsimp only [puts, put, agI, outsOf, slOf, List.set_cons_zero, List.set_cons_succ, List.getElem?_cons_zero, List.getElem?_cons_succ, wipeR, backR, Option.getD_some, stl])) | ((with_reducible refine' own_at ?s0 (And.intro ?s1 ?_)); (case s0 => rfl); (case s1 => exact ⟨_, by assumption⟩); intro _ _; (try dsimp only [puts, put, agI, outsOf, slOf, List.set_cons_zero, List.set_cons_succ, List.getElem?_cons_zero, List.getElem?_cons_succ, wipeR, backR, Option.getD_some, stl])) | ((with_reducible refine gSv ?_); (first | with_reducible refine sv_asg_s ?_ | with_reducible refine sv_nx_s ?_ | with_reducible refine sv_ret_s ?_ | with_reducible refine sv_seq_s ?_ | with_reducible refine sv_drop_s ?_ | ((with_reducible refine' sv_app_s ?s0 ?_); (case s0 => (rfl))) | ((with_reducible refine' sv_app_l ?s0 ?_); (case s0 => (rfl))) | with_reducible refine sv_asg_l ?_ | with_reducible refine sv_if_l ?_ | with_reducible refine sv_ret_l ?_ | with_reducible refine sv_nx ?_ | with_reducible refine sv_asgT_s ?_ | with_reducible refine sv_asgT_l ?_ | with_reducible refine sv_set4_s ?_))))
local macro_rules | `(tactic| walk_at "b") => `(tactic| (first | ((with_reducible refine' giv_ixl_all ?s0 ?s1 ?_); (case s0 => (first | assumption | decide | omega)); (case s1 => (first | assumption | (refine Int.lt_of_lt_of_le (by assumption) ?_; decide) | (show _ < (_ : Int); omega) | (simp only [List.length_append, List.length_cons, List.length_nil]; omega))); repeat' (first | exact all_nil | refine all_cons ?_ ?_)) | ((with_reducible refine brn_d ?_ ?_) <;> intro _ <;> (first | (exfalso; omega) | skip)) | ((with_reducible refine brn_nd ?_ ?_) <;> intro _ <;> (first | (exfalso; omega) | skip)) | ((with_reducible refine brn_c ?_ ?_) <;> intro _ <;> (first | (exfalso; omega) | contradiction | (subst_vars; contradiction) | skip))))
local macro_rules | `(tactic| walk_at "n") => `(tactic| (try dsimp only [puts, put, agI, outsOf, slOf, List.map, List.set_cons_zero, List.set_cons_succ, List.getElem?_cons_zero, List.getElem?_cons_succ, wipeR, backR, Option.getD_some, List.replicate, List.cons_append, List.nil_append, List.append_eq, List.append_nil, Nat.reduceSub, FEnd, Ret, noBw, stl]))
local macro_rules | `(tactic| walk_at "g") => `(tactic| (repeat (walk_at "s1")))
local macro_rules | `(tactic| walk_at "gS") => `(tactic| (repeat (walk_at "s2")))
local macro_rules | `(tactic| walk_at "x") => `(tactic| (repeat' (first | (walk_at "s1") | (walk_at "b"))))
local macro_rules | `(tactic| walk_at "xS") => `(tactic| (repeat' (first | (walk_at "s2") | (walk_at "b"))))
--HDREND
theorem next_eq : f_law_next = lawNext := rfl
theorem draw_eq : f_law_draw = lawDraw := rfl
theorem signs_eq : f_law_signs = lawSigns := rfl
/-! the written form -/
def bare : T → Nat
  | .alt _ => 0
  | .seq _ => 1
  | .empty => 1
  | .rep _ _ _ _ => 2
  | _ => 9
def paren (p : Nat) (t : T) (w : List Nat) : List Nat := if bare t < p then [40] ++ w ++ [41] else w
def markN (lo : Nat) : List Nat := if lo = 0 then [42] else if lo = 1 then [43] else [60] ++ decS lo ++ [44, 62]
def markS (lo h : Nat) : List Nat := if h = lo then [60] ++ decS lo ++ [62] else if lo = 0 ∧ h = 1 then [63] else [60] ++ decS lo ++ [44] ++ decS h ++ [62]
def mark0 (lo : Nat) : Option Nat → List Nat
  | none => markN lo
  | some h => markS lo h
def mark (lo : Nat) (hi : Option Nat) (lz : Bool) : List Nat := if lz then mark0 lo hi ++ [126] else mark0 lo hi
mutual
def wrt : T → List Nat
  | .empty => []
  | .set s => wset s
  | .seq ts => (wrts 2 ts).flatten
  | .alt ts => TL.joinL [124] (wrts 1 ts)
  | .rep b lo hi lz => paren 3 b (wrt b) ++ mark lo hi lz
  | .group n b => [123, 97, 115, 32] ++ n ++ [58] ++ wrt b ++ [125]
  | .look a w b => (if w then [123] else [123, 110, 111, 116, 32]) ++ sideS a ++ [58] ++ wrt b ++ [125]
  | .edge k => [123] ++ k ++ [125]
  | .same n => [123, 115, 97, 109, 101, 32] ++ n ++ [125]
def wrts (p : Nat) : List T → List (List Nat)
  | [] => []
  | t :: ts => paren p t (wrt t) :: wrts p ts
end
theorem wrts_map (p : Nat) : ∀ ts : List T, wrts p ts = ts.map fun t => paren p t (wrt t)
  | [] => rfl
  | t :: ts => by rw [wrts, wrts_map p ts, List.map_cons]
/-- what a node may be -/
def Ok1 : T → Prop
  | .set s => s.Sublist SGN
  | .rep _ lo hi _ => lo < 1000 ∧ ∀ h, hi = some h → h < 1000
  | .group n _ => n.length ≤ 12
  | .edge k => k.length ≤ 12
  | .same n => n.length ≤ 12
  | _ => True
theorem ent96 {cs : List Nat} (h : cs.Sublist SGN) : (ent cs).length ≤ 480 := by
  have h1 := ent_len (cs := cs)
  have h2 := K09.sub96 h
  omega
theorem wset_len {cs : List Nat} (h : cs.Sublist SGN) : (wset cs).length ≤ 490 := by
  by_cases h1 : cs.length = 1
  · obtain ⟨c, rfl⟩ := K09.len1 h1
    show (esc SP c).length ≤ 490
    have := esc_len (m := SP) (c := c)
    omega
  · rw [K09.wset_ne h1]
    have a := ent96 h
    have b := ent96 (oth_sub (cs := cs))
    split
    · simp
    · split
      · simp only [List.length_append, List.length_cons, List.length_nil]; omega
      · simp only [List.length_append, List.length_cons, List.length_nil]; omega
theorem mark_len {lo : Nat} {hi : Option Nat} {lz : Bool} (h1 : lo < 1000) (h2 : ∀ h, hi = some h → h < 1000) : (mark lo hi lz).length ≤ 20 := by
  have a := decS_len (i := lo) (by omega) (by omega)
  have m0 : (mark0 lo hi).length ≤ 19 := by
    cases hi with
    | none =>
      show (markN lo).length ≤ 19
      unfold markN
      (repeat' split) <;> simp only [List.length_append, List.length_cons, List.length_nil] <;> omega
    | some h =>
      have b := decS_len (i := h) (by omega) (by have := h2 h rfl; omega)
      show (markS lo h).length ≤ 19
      unfold markS
      (repeat' split) <;> simp only [List.length_append, List.length_cons, List.length_nil] <;> omega
  unfold mark
  split
  · rw [List.length_append]; show _ + 1 ≤ 20; omega
  · omega
theorem paren_len {p : Nat} {t : T} {w : List Nat} : (paren p t w).length ≤ w.length + 2 := by
  unfold paren
  split
  · simp only [List.length_append, List.length_cons, List.length_nil]; omega
  · omega
theorem wrts_sum (p : Nat) : ∀ {ts : List T}, (∀ t ∈ ts, (wrt t).length + 10 ≤ 600 * t.size) → ((wrts p ts).map List.length).sum + ts.length ≤ 600 * T.sizes ts
  | [], _ => by simp [wrts, T.sizes]
  | t :: ts, h => by
    have h1 := h t List.mem_cons_self
    have h2 := wrts_sum p (ts := ts) fun x hx => h x (List.mem_cons_of_mem _ hx)
    have h3 := paren_len (p := p) (t := t) (w := wrt t)
    rw [wrts, T.sizes, List.map_cons, List.sum_cons, List.length_cons]
    omega
theorem wrts_len (p : Nat) : ∀ ts : List T, (wrts p ts).length = ts.length
  | [] => rfl
  | t :: ts => by rw [wrts, List.length_cons, List.length_cons, wrts_len p ts]
theorem side_len (a : Bool) : (sideS a).length ≤ 6 := by cases a <;> decide
theorem wrt_len (t : T) (h : t.All Ok1) : (wrt t).length + 10 ≤ 600 * t.size := by
  induction t using T.ind with
  | h0 => simp [wrt, T.size]
  | h1 s =>
    have := wset_len (show s.Sublist SGN by simp only [T.All] at h; exact h)
    simp only [wrt, T.size]; omega
  | h2 ts ih =>
    simp only [T.All] at h
    have := wrts_sum 2 fun t ht => ih t ht (alls_mem.mp h.2 t ht)
    simp only [wrt, T.size, List.length_flatten]; omega
  | h3 ts ih =>
    simp only [T.All] at h
    have h1 := wrts_sum 1 fun t ht => ih t ht (alls_mem.mp h.2 t ht)
    have h2 : _ ≤ ((wrts 1 ts).map List.length).sum + _ := joinL_len (s := [124]) (wrts 1 ts)
    rw [wrts_len] at h2
    simp only [wrt, T.size]
    simp only [List.length_cons, List.length_nil] at h2
    omega
  | h4 b lo hi lz ih =>
    simp only [T.All] at h
    have h1 := ih h.2
    have h2 := mark_len (lz := lz) h.1.1 h.1.2
    have h3 := paren_len (p := 3) (t := b) (w := wrt b)
    simp only [wrt, T.size, List.length_append]; omega
  | h5 n b ih =>
    simp only [T.All] at h
    have h1 := ih h.2
    have h2 : n.length ≤ 12 := h.1
    simp only [wrt, T.size, List.length_append, List.length_cons, List.length_nil]; omega
  | h6 a w b ih =>
    simp only [T.All] at h
    have h1 := ih h.2
    have h2 := side_len a
    simp only [wrt, T.size, List.length_append]
    split <;> simp only [List.length_cons, List.length_nil] <;> omega
  | h7 k =>
    have h2 : k.length ≤ 12 := by simp only [T.All] at h; exact h
    simp only [wrt, T.size, List.length_append, List.length_cons, List.length_nil]; omega
  | h8 k =>
    have h2 : k.length ≤ 12 := by simp only [T.All] at h; exact h
    simp only [wrt, T.size, List.length_append, List.length_cons, List.length_nil]; omega
/-! marks -/
theorem qstr {w w' : List Nat} {os : List (List D)} {Q : Vl → List (List D) → Prop} (q : Q (.fz (.str w)) os) (h : w = w') : Q (.fz (.str w')) os := h ▸ q
theorem repeat_ok {lo : Nat} {hi : Option Nat} {lz : Bool} (h1 : lo < 1000) (h2 : ∀ h, hi = some h → h < 1000) {Q : Vl → List (List D) → Prop} (q : Q (.fz (.str (mark lo hi lz))) []) : Fv f_write_repeat [.da (.int lo), .da (hiD hi), .da (.bl lz)] Q := by
  have a := decS_len (i := lo) (by omega) (by omega)
  refine fv_fn rfl ?_
  walk_at "n"
  unfold b_write_repeat
  unfold mark mark0 at q
  cases hi with
  | none =>
    rw [show hiD none = .non from rfl]
    unfold markN at q
    dsimp only at q
    cases lz <;> walk_at "x" <;> walk_at "n" <;> refine qstr q ?_ <;> (repeat' split) <;> first | (exfalso; omega) | contradiction | rfl
  | some h =>
    have b := decS_len (i := h) (by omega) (by have := h2 h rfl; omega)
    have h3 := h2 h rfl
    rw [show hiD (some h) = .int h from rfl]
    unfold markS at q
    dsimp only at q
    cases lz <;> walk_at "x" <;> walk_at "n" <;> refine qstr q ?_ <;> (repeat' split) <;> first | (exfalso; omega) | contradiction | rfl
theorem law_mark_ok {lo : Nat} {hi : Option Nat} {lz : Bool} (h1 : lo < 1000) (h2 : ∀ h, hi = some h → h < 1000) {Q : Vl → List (List D) → Prop} (q : Q (.fz (.str (mark lo hi lz))) []) : Fv f_law_mark [.da (.int lo), .da (hiD hi), .da (.bl lz)] Q := by
  have a := decS_len (i := lo) (by omega) (by omega)
  refine fv_fn rfl ?_
  walk_at "n"
  unfold b_law_mark
  unfold mark mark0 at q
  cases hi with
  | none =>
    rw [show hiD none = .non from rfl]
    unfold markN at q
    dsimp only at q
    cases lz <;> walk_at "x" <;> walk_at "n" <;> refine qstr q ?_ <;> (repeat' split) <;> first | (exfalso; omega) | contradiction | rfl
  | some h =>
    have b := decS_len (i := h) (by omega) (by have := h2 h rfl; omega)
    have h3 := h2 h rfl
    rw [show hiD (some h) = .int h from rfl]
    unfold markS at q
    dsimp only at q
    cases lz <;> walk_at "x" <;> walk_at "n" <;> refine qstr q ?_ <;> (repeat' split) <;> first | (exfalso; omega) | contradiction | rfl
end K10
set_option Elab.async false
set_option linter.all false
set_option maxRecDepth 100000
set_option maxHeartbeats 4000000
namespace K10
open Sw L2 Tre Runs
--HDR
local macro_rules | `(tactic| walk_at "fn") => `(tactic| (fail))
local macro_rules | `(tactic| walk_at "s1") => `(tactic| (first | ((with_reducible refine gEv ?_); (first | ((with_reducible refine' ev_tAnd_d ?s0 ?s1 ?_); (case s0 => (intro Q q; walk_at "g"; (first | exact q | exact toD_n q | exact toD_t q | exact toD_f q | exact toD_b q))); (case s1 => (intro hp Q q; walk_at "g"; (first | exact q | exact toD_n q | exact toD_t q | exact toD_f q | exact toD_b q)))) | ((with_reducible refine' ev_tOr_d ?s0 ?s1 ?_); (case s0 => (intro Q q; walk_at "g"; (first | exact q | exact toD_n q | exact toD_t q | exact toD_f q | exact toD_b q))); (case s1 => (intro hp Q q; walk_at "g"; (first | exact q | exact toD_n q | exact toD_t q | exact toD_f q | exact toD_b q)))) | with_reducible refine ev_c ?_ | ((with_reducible refine' ev_vd ?s0 ?_); (case s0 => (rfl))) | ((with_reducible refine' ev_vo ?s0 ?_); (case s0 => (rfl))) | ((with_reducible refine' ev_vi ?s0 ?_); (case s0 => (rfl))) | with_reducible refine ev_bin ?_ | with_reducible refine ev_un ?_ | with_reducible refine ev_anil ?_ | with_reducible refine ev_acons ?_ | with_reducible refine ev_blt ?_ | with_reducible refine ev_met ?_ | with_reducible refine ev_ono ?_ | with_reducible refine ev_osome ?_ | with_reducible refine ev_sl ?_ | with_reducible refine ev_tup ?_ | with_reducible refine ev_lst ?_ | with_reducible refine ev_tE ?_ | with_reducible refine ev_tyes ?_ | with_reducible refine ev_tAnd ?_ | with_reducible refine ev_tOr ?_ | with_reducible refine ev_tNot ?_ | with_reducible refine ev_eAnd ?_ | with_reducible refine ev_eOr ?_ | with_reducible refine ev_eNot ?_ | with_reducible refine ev_eIf ?_ | with_reducible refine ev_chain ?_ | with_reducible refine ev_call ?_)) | ((with_reducible refine gGiv ?_); (first | ((with_reducible refine' giv_mod ?s0 ?_); (case s0 => (first | assumption | decide | omega | (show _ ≤ 16777216; omega) | (show _ < 16777216; omega) | (simp only [List.length_append, List.length_cons, List.length_nil, List.length_replicate, List.length_map, List.length_take, List.length_drop, List.length_dropLast]; first | omega | (show _ ≤ 16777216; omega))))) | ((with_reducible refine' giv_div ?s0 ?_); (case s0 => (first | assumption | decide | omega | (show _ ≤ 16777216; omega) | (show _ < 16777216; omega) | (simp only [List.length_append, List.length_cons, List.length_nil, List.length_replicate, List.length_map, List.length_take, List.length_drop, List.length_dropLast]; first | omega | (show _ ≤ 16777216; omega))))) | ((with_reducible refine' giv_mul ?s0 ?_); (case s0 => (first | assumption | exact cMul_r (by decide) | exact cMul_r (by omega)))) | ((with_reducible refine' giv_muls ?s0 ?_); (case s0 => (first | assumption | decide | omega | (show _ ≤ 16777216; omega) | (show _ < 16777216; omega) | (simp only [List.length_append, List.length_cons, List.length_nil, List.length_replicate, List.length_map, List.length_take, List.length_drop, List.length_dropLast]; first | omega | (show _ ≤ 16777216; omega))))) | ((with_reducible refine' giv_adds ?s0 ?_); (case s0 => (first | assumption | decide | omega | (show _ ≤ 16777216; omega) | (show _ < 16777216; omega) | (simp only [List.length_append, List.length_cons, List.length_nil, List.length_replicate, List.length_map, List.length_take, List.length_drop, List.length_dropLast]; first | omega | (show _ ≤ 16777216; omega))))) | ((with_reducible refine' giv_addl ?s0 ?_); (case s0 => (first | assumption | decide | omega | (show _ ≤ 16777216; omega) | (show _ < 16777216; omega) | (simp only [List.length_append, List.length_cons, List.length_nil, List.length_replicate, List.length_map, List.length_take, List.length_drop, List.length_dropLast]; first | omega | (show _ ≤ 16777216; omega))))) | ((with_reducible refine' giv_ixl ?s0 ?_); (case s0 => (first | assumption | rfl | exact atI_zero))) | ((with_reducible refine' giv_ixt ?s0 ?_); (case s0 => (first | assumption | rfl | exact atI_zero))) | ((with_reducible refine' giv_ixs ?s0 ?s1 ?_); (case s0 => (first | assumption | decide | omega | (show _ ≤ 16777216; omega) | (show _ < 16777216; omega) | (simp only [List.length_append, List.length_cons, List.length_nil, List.length_replicate, List.length_map, List.length_take, List.length_drop, List.length_dropLast]; first | omega | (show _ ≤ 16777216; omega)))); (case s1 => (first | assumption | rfl))) | ((with_reducible refine' giv_dr4 ?s0 ?_); (case s0 => (assumption))) | ((with_reducible refine' giv_slm1 ?s0 ?_); (case s0 => (first | assumption | decide | omega | (show _ ≤ 16777216; omega) | (show _ < 16777216; omega) | (simp only [List.length_append, List.length_cons, List.length_nil, List.length_replicate, List.length_map, List.length_take, List.length_drop, List.length_dropLast]; first | omega | (show _ ≤ 16777216; omega))))) | ((with_reducible refine' giv_slt ?s0 ?s1 ?_); (case s0 => (first | assumption | decide | omega | (show _ ≤ 16777216; omega) | (show _ < 16777216; omega) | (simp only [List.length_append, List.length_cons, List.length_nil, List.length_replicate, List.length_map, List.length_take, List.length_drop, List.length_dropLast]; first | omega | (show _ ≤ 16777216; omega)))); (case s1 => (first | assumption | decide | omega))) | ((with_reducible refine' giv_sld ?s0 ?s1 ?_); (case s0 => (first | assumption | decide | omega | (show _ ≤ 16777216; omega) | (show _ < 16777216; omega) | (simp only [List.length_append, List.length_cons, List.length_nil, List.length_replicate, List.length_map, List.length_take, List.length_drop, List.length_dropLast]; first | omega | (show _ ≤ 16777216; omega)))); (case s1 => (first | assumption | decide | omega))) | ((with_reducible refine' giv_slm ?s0 ?s1 ?s2 ?_); (case s0 => (first | assumption | decide | omega | (show _ ≤ 16777216; omega) | (show _ < 16777216; omega) | (simp only [List.length_append, List.length_cons, List.length_nil, List.length_replicate, List.length_map, List.length_take, List.length_drop, List.length_dropLast]; first | omega | (show _ ≤ 16777216; omega)))); (case s1 => (first | assumption | decide | omega)); (case s2 => (first | assumption | decide | omega))) | ((with_reducible refine' giv_sltl ?s0 ?_); (case s0 => (first | assumption | decide | omega))) | ((with_reducible refine' giv_sldl ?s0 ?_); (case s0 => (first | assumption | decide | omega))) | ((with_reducible refine' giv_sls ?s0 ?_); (case s0 => (first | assumption | decide | omega | (show _ ≤ 16777216; omega) | (show _ < 16777216; omega) | (simp only [List.length_append, List.length_cons, List.length_nil, List.length_replicate, List.length_map, List.length_take, List.length_drop, List.length_dropLast]; first | omega | (show _ ≤ 16777216; omega))))) | with_reducible refine giv_sll ?_ | ((with_reducible refine' giv_lens ?s0 ?_); (case s0 => (first | assumption | decide | omega | (show _ ≤ 16777216; omega) | (show _ < 16777216; omega) | (simp only [List.length_append, List.length_cons, List.length_nil, List.length_replicate, List.length_map, List.length_take, List.length_drop, List.length_dropLast]; first | omega | (show _ ≤ 16777216; omega))))) | ((with_reducible refine' giv_revs ?s0 ?_); (case s0 => (first | assumption | decide | omega | (show _ ≤ 16777216; omega) | (show _ < 16777216; omega) | (simp only [List.length_append, List.length_cons, List.length_nil, List.length_replicate, List.length_map, List.length_take, List.length_drop, List.length_dropLast]; first | omega | (show _ ≤ 16777216; omega))))) | with_reducible refine giv_tup ?_ | with_reducible refine giv_tupt ?_ | ((with_reducible refine' giv_str ?s0 ?_); (case s0 => (first | assumption | decide | omega))) | with_reducible refine giv_strN ?_ | with_reducible refine giv_strS ?_ | with_reducible refine giv r_add1 ?_ | with_reducible refine giv r_sub ?_ | with_reducible refine giv r_lt ?_ | with_reducible refine giv r_lts ?_ | with_reducible refine giv r_le ?_ | with_reducible refine giv r_gt ?_ | with_reducible refine giv r_ge ?_ | with_reducible refine giv r_eqi ?_ | with_reducible refine giv r_eqs ?_ | with_reducible refine giv r_eqb ?_ | with_reducible refine giv r_nei ?_ | with_reducible refine giv r_nes ?_ | with_reducible refine giv r_neb ?_ | with_reducible refine giv r_isb ?_ | with_reducible refine giv r_ntb ?_ | with_reducible refine giv r_ins ?_ | with_reducible refine giv r_nis ?_ | with_reducible refine giv r_neg ?_ | with_reducible refine giv r_len2 ?_ | with_reducible refine giv r_len3 ?_ | with_reducible refine giv r_int1 ?_ | with_reducible refine giv r_fFind ?_ | with_reducible refine giv r_rev1 ?_ | with_reducible refine giv r_fIsi1 ?_ | with_reducible refine giv r_fIsi2 ?_ | with_reducible refine giv r_fIsi3 ?_ | with_reducible refine giv r_fIsi4 ?_ | with_reducible refine giv r_fIsi5 ?_ | with_reducible refine giv r_fIsi6 ?_ | with_reducible refine giv r_min2 ?_ | with_reducible refine giv r_max2 ?_ | with_reducible refine giv r_min3 ?_ | with_reducible refine giv r_isn1 ?_ | with_reducible refine giv r_isn2 ?_ | with_reducible refine giv r_isn3 ?_ | with_reducible refine giv r_isn4 ?_ | with_reducible refine giv r_isn5 ?_ | with_reducible refine giv r_ntn1 ?_ | with_reducible refine giv r_ntn2 ?_ | with_reducible refine giv r_ntn3 ?_ | with_reducible refine giv r_ntn4 ?_ | with_reducible refine giv r_ntn5 ?_ | with_reducible refine giv r_eqn1 ?_ | with_reducible refine giv r_eqn2 ?_ | ((with_reducible refine' giv ?s0 ?_); (case s0 => (first | exact (rfl : _ = some (D.bl true)) | exact (rfl : _ = some (D.bl false))))) | ((with_reducible refine' giv_ixs_all ?s0 ?s1 ?s2 ?_); (case s0 => (first | assumption | decide | omega | (show _ ≤ 16777216; omega) | (show _ < 16777216; omega) | (simp only [List.length_append, List.length_cons, List.length_nil, List.length_replicate, List.length_map, List.length_take, List.length_drop, List.length_dropLast]; first | omega | (show _ ≤ 16777216; omega)))); (case s1 => (first | assumption | decide | omega)); (case s2 => (first | assumption | (refine Int.lt_of_lt_of_le (by assumption) ?_; decide) | (show _ < (_ : Int); omega) | (simp only [List.length_append, List.length_cons, List.length_nil]; omega))); intro _ _))) | ((with_reducible refine gBrn ?_); (first | with_reducible refine brn_t ?_ | with_reducible refine brn_f ?_ | with_reducible refine brn_nT ?_ | with_reducible refine brn_nF ?_ | with_reducible refine brn_nn ?_ | ((with_reducible refine' brn_dt ?s0 ?_); (case s0 => decide)) | ((with_reducible refine' brn_df ?s0 ?_); (case s0 => decide)) | ((with_reducible refine' brn_nt ?s0 ?_); (case s0 => decide)) | ((with_reducible refine' brn_nf ?s0 ?_); (case s0 => decide)))) | ((with_reducible refine gFv ?_); (first | ((with_reducible refine' fv_nextE ?s0 ?s1 ?_); (case s0 => assumption); (case s1 => (first | assumption | decide | omega)); intro _ _ _ _ _; (try dsimp only [puts, put, agI, outsOf, slOf, List.set_cons_zero, List.set_cons_succ, List.getElem?_cons_zero, List.getElem?_cons_succ, wipeR, backR, Option.getD_some, stl])) | ((with_reducible refine' fv_drawE ?s0 ?_); (case s0 => assumption); intro _ _) | with_reducible refine fv_signs ?_ | (walk_at "fn"))) | with_reducible refine ret_z ?_ | with_reducible refine ret_r ?_ | ((with_reducible refine' ret_b ?s0 ?_); (case s0 => (rfl))) | ((with_reducible refine' see2 ?s0 ?s1 ?_); (case s0 => (rfl)); (case s1 => (rfl))) | ((with_reducible refine' see1 ?s0 ?_); (case s0 => (rfl))) | ((with_reducible refine' sees ?s0 ?_); (case s0 => (rfl))) | with_reducible refine isI ?_ | with_reducible refine isB ?_ | with_reducible refine isBD ?_ | ((with_reducible refine' frzs' ?s0 (And.intro ?s1 ?_)); (case s0 => rfl); (case s1 => (first | decide | simp)); (try dsimp only [puts, put, agI, outsOf, slOf, List.set_cons_zero, List.set_cons_succ, List.getElem?_cons_zero, List.getElem?_cons_succ, wipeR, backR, Option.getD_some, stl])) | ((with_reducible refine' arg ?s0 ?s1 ?s2 ?_); (case s0 => (rfl)); (case s1 => (rfl)); (case s2 => (first | exact List.nodup_nil | exact nodup1 | simp [agI])); (try dsimp only [puts, put, agI, outsOf, slOf, List.set_cons_zero, List.set_cons_succ, List.getElem?_cons_zero, List.getElem?_cons_succ, wipeR, backR, Option.getD_some, stl])) | ((with_reducible refine' ex_asg ?s0 ?_); (case s0 => (first | rfl | assumption)); (try dsimp only [puts, put, agI, outsOf, slOf, List.set_cons_zero, List.set_cons_succ, List.getElem?_cons_zero, List.getElem?_cons_succ, wipeR, backR, Option.getD_some, stl])) | ((with_reducible refine' ex_asg' ?s0 ?_); (case s0 => (first | rfl | assumption)); (try dsimp only [puts, put, agI, outsOf, slOf, List.set_cons_zero, List.set_cons_succ, List.getElem?_cons_zero, List.getElem?_cons_succ, wipeR, backR, Option.getD_some, stl])) | ((with_reducible refine' ex_asg'' ?s0 ?_); (case s0 => (rfl)); (try dsimp only [puts, put, agI, outsOf, slOf, List.set_cons_zero, List.set_cons_succ, List.getElem?_cons_zero, List.getElem?_cons_succ, wipeR, backR, Option.getD_some, stl])) | ((with_reducible refine' ex_asgT ?s0 ?_); (case s0 => (rfl)); (try dsimp only [puts, put, agI, outsOf, slOf, List.set_cons_zero, List.set_cons_succ, List.getElem?_cons_zero, List.getElem?_cons_succ, wipeR, backR, Option.getD_some, stl])) | ((with_reducible refine' nbw_z ?_); (try dsimp only [puts, put, agI, outsOf, slOf, List.set_cons_zero, List.set_cons_succ, List.getElem?_cons_zero, List.getElem?_cons_succ, wipeR, backR, Option.getD_some, stl])) | ((with_reducible refine' nbw_r ?_); (try dsimp only [puts, put, agI, outsOf, slOf, List.set_cons_zero, List.set_cons_succ, List.getElem?_cons_zero, List.getElem?_cons_succ, wipeR, backR, Option.getD_some, stl])) | ((with_reducible refine' own_at ?s0 (And.intro ?s1 ?_)); (case s0 => rfl); (case s1 => exact ⟨_, by assumption⟩); intro _ _; (try dsimp only [puts, put, agI, outsOf, slOf, List.set_cons_zero, List.set_cons_succ, List.getElem?_cons_zero, List.getElem?_cons_succ, wipeR, backR, Option.getD_some, stl])) | ((with_reducible refine gSv ?_); (first | with_reducible refine sv_asg_s ?_ | with_reducible refine sv_nx_s ?_ | with_reducible refine sv_if_s ?_ | with_reducible refine sv_ret_s ?_ | with_reducible refine sv_seq_s ?_ | with_reducible refine sv_drop_s ?_ | ((with_reducible refine' sv_app_s ?s0 ?_); (case s0 => (rfl))) | ((with_reducible refine' sv_app_l ?s0 ?_); (case s0 => (rfl))) | with_reducible refine sv_asg_l ?_ | with_reducible refine sv_if_l ?_ | with_reducible refine sv_ret_l ?_ | with_reducible refine sv_nx ?_ | with_reducible refine sv_asgT_s ?_ | with_reducible refine sv_asgT_l ?_ | with_reducible refine sv_set4_s ?_))))
local macro_rules | `(tactic| walk_at "s2") => `(tactic| (first | ((with_reducible refine gEv ?_); (first | ((with_reducible refine' ev_tAnd_d ?s0 ?s1 ?_); (case s0 => (intro Q q; walk_at "g"; (first | exact q | exact toD_n q | exact toD_t q | exact toD_f q | exact toD_b q))); (case s1 => (intro hp Q q; walk_at "g"; (first | exact q | exact toD_n q | exact toD_t q | exact toD_f q | exact toD_b q)))) | ((with_reducible refine' ev_tOr_d ?s0 ?s1 ?_); (case s0 => (intro Q q; walk_at "g"; (first | exact q | exact toD_n q | exact toD_t q | exact toD_f q | exact toD_b q))); (case s1 => (intro hp Q q; walk_at "g"; (first | exact q | exact toD_n q | exact toD_t q | exact toD_f q | exact toD_b q)))) | with_reducible refine ev_c ?_ | ((with_reducible refine' ev_vd ?s0 ?_); (case s0 => (rfl))) | ((with_reducible refine' ev_vo ?s0 ?_); (case s0 => (rfl))) | ((with_reducible refine' ev_vi ?s0 ?_); (case s0 => (rfl))) | with_reducible refine ev_bin ?_ | with_reducible refine ev_un ?_ | with_reducible refine ev_anil ?_ | with_reducible refine ev_acons ?_ | with_reducible refine ev_blt ?_ | with_reducible refine ev_met ?_ | with_reducible refine ev_ono ?_ | with_reducible refine ev_osome ?_ | with_reducible refine ev_sl ?_ | with_reducible refine ev_tup ?_ | with_reducible refine ev_lst ?_ | with_reducible refine ev_tE ?_ | with_reducible refine ev_tyes ?_ | with_reducible refine ev_tAnd ?_ | with_reducible refine ev_tOr ?_ | with_reducible refine ev_tNot ?_ | with_reducible refine ev_eAnd ?_ | with_reducible refine ev_eOr ?_ | with_reducible refine ev_eNot ?_ | with_reducible refine ev_eIf ?_ | with_reducible refine ev_chain ?_ | with_reducible refine ev_call ?_)) | ((with_reducible refine gGiv ?_); (first | ((with_reducible refine' giv_mod ?s0 ?_); (case s0 => (first | assumption | decide | omega | (show _ ≤ 16777216; omega) | (show _ < 16777216; omega) | (simp only [List.length_append, List.length_cons, List.length_nil, List.length_replicate, List.length_map, List.length_take, List.length_drop, List.length_dropLast]; first | omega | (show _ ≤ 16777216; omega))))) | ((with_reducible refine' giv_div ?s0 ?_); (case s0 => (first | assumption | decide | omega | (show _ ≤ 16777216; omega) | (show _ < 16777216; omega) | (simp only [List.length_append, List.length_cons, List.length_nil, List.length_replicate, List.length_map, List.length_take, List.length_drop, List.length_dropLast]; first | omega | (show _ ≤ 16777216; omega))))) | ((with_reducible refine' giv_mul ?s0 ?_); (case s0 => (first | assumption | exact cMul_r (by decide) | exact cMul_r (by omega)))) | ((with_reducible refine' giv_muls ?s0 ?_); (case s0 => (first | assumption | decide | omega | (show _ ≤ 16777216; omega) | (show _ < 16777216; omega) | (simp only [List.length_append, List.length_cons, List.length_nil, List.length_replicate, List.length_map, List.length_take, List.length_drop, List.length_dropLast]; first | omega | (show _ ≤ 16777216; omega))))) | ((with_reducible refine' giv_adds ?s0 ?_); (case s0 => (first | assumption | decide | omega | (show _ ≤ 16777216; omega) | (show _ < 16777216; omega) | (simp only [List.length_append, List.length_cons, List.length_nil, List.length_replicate, List.length_map, List.length_take, List.length_drop, List.length_dropLast]; first | omega | (show _ ≤ 16777216; omega))))) | ((with_reducible refine' giv_addl ?s0 ?_); (case s0 => (first | assumption | decide | omega | (show _ ≤ 16777216; omega) | (show _ < 16777216; omega) | (simp only [List.length_append, List.length_cons, List.length_nil, List.length_replicate, List.length_map, List.length_take, List.length_drop, List.length_dropLast]; first | omega | (show _ ≤ 16777216; omega))))) | ((with_reducible refine' giv_ixl ?s0 ?_); (case s0 => (first | assumption | rfl | exact atI_zero))) | ((with_reducible refine' giv_ixt ?s0 ?_); (case s0 => (first | assumption | rfl | exact atI_zero))) | ((with_reducible refine' giv_ixs ?s0 ?s1 ?_); (case s0 => (first | assumption | decide | omega | (show _ ≤ 16777216; omega) | (show _ < 16777216; omega) | (simp only [List.length_append, List.length_cons, List.length_nil, List.length_replicate, List.length_map, List.length_take, List.length_drop, List.length_dropLast]; first | omega | (show _ ≤ 16777216; omega)))); (case s1 => (first | assumption | rfl))) | ((with_reducible refine' giv_dr4 ?s0 ?_); (case s0 => (assumption))) | ((with_reducible refine' giv_slm1 ?s0 ?_); (case s0 => (first | assumption | decide | omega | (show _ ≤ 16777216; omega) | (show _ < 16777216; omega) | (simp only [List.length_append, List.length_cons, List.length_nil, List.length_replicate, List.length_map, List.length_take, List.length_drop, List.length_dropLast]; first | omega | (show _ ≤ 16777216; omega))))) | ((with_reducible refine' giv_slt ?s0 ?s1 ?_); (case s0 => (first | assumption | decide | omega | (show _ ≤ 16777216; omega) | (show _ < 16777216; omega) | (simp only [List.length_append, List.length_cons, List.length_nil, List.length_replicate, List.length_map, List.length_take, List.length_drop, List.length_dropLast]; first | omega | (show _ ≤ 16777216; omega)))); (case s1 => (first | assumption | decide | omega))) | ((with_reducible refine' giv_sld ?s0 ?s1 ?_); (case s0 => (first | assumption | decide | omega | (show _ ≤ 16777216; omega) | (show _ < 16777216; omega) | (simp only [List.length_append, List.length_cons, List.length_nil, List.length_replicate, List.length_map, List.length_take, List.length_drop, List.length_dropLast]; first | omega | (show _ ≤ 16777216; omega)))); (case s1 => (first | assumption | decide | omega))) | ((with_reducible refine' giv_slm ?s0 ?s1 ?s2 ?_); (case s0 => (first | assumption | decide | omega | (show _ ≤ 16777216; omega) | (show _ < 16777216; omega) | (simp only [List.length_append, List.length_cons, List.length_nil, List.length_replicate, List.length_map, List.length_take, List.length_drop, List.length_dropLast]; first | omega | (show _ ≤ 16777216; omega)))); (case s1 => (first | assumption | decide | omega)); (case s2 => (first | assumption | decide | omega))) | ((with_reducible refine' giv_sltl ?s0 ?_); (case s0 => (first | assumption | decide | omega))) | ((with_reducible refine' giv_sldl ?s0 ?_); (case s0 => (first | assumption | decide | omega))) | ((with_reducible refine' giv_sls ?s0 ?_); (case s0 => (first | assumption | decide | omega | (show _ ≤ 16777216; omega) | (show _ < 16777216; omega) | (simp only [List.length_append, List.length_cons, List.length_nil, List.length_replicate, List.length_map, List.length_take, List.length_drop, List.length_dropLast]; first | omega | (show _ ≤ 16777216; omega))))) | with_reducible refine giv_sll ?_ | ((with_reducible refine' giv_lens ?s0 ?_); (case s0 => (first | assumption | decide | omega | (show _ ≤ 16777216; omega) | (show _ < 16777216; omega) | (simp only [List.length_append, List.length_cons, List.length_nil, List.length_replicate, List.length_map, List.length_take, List.length_drop, List.length_dropLast]; first | omega | (show _ ≤ 16777216; omega))))) | ((with_reducible refine' giv_revs ?s0 ?_); (case s0 => (first | assumption | decide | omega | (show _ ≤ 16777216; omega) | (show _ < 16777216; omega) | (simp only [List.length_append, List.length_cons, List.length_nil, List.length_replicate, List.length_map, List.length_take, List.length_drop, List.length_dropLast]; first | omega | (show _ ≤ 16777216; omega))))) | with_reducible refine giv_tup ?_ | with_reducible refine giv_tupt ?_ | ((with_reducible refine' giv_str ?s0 ?_); (case s0 => (first | assumption | decide | omega))) | with_reducible refine giv_strN ?_ | with_reducible refine giv_strS ?_ | with_reducible refine giv r_add1 ?_ | with_reducible refine giv r_sub ?_ | with_reducible refine giv r_lt ?_ | with_reducible refine giv r_lts ?_ | with_reducible refine giv r_le ?_ | with_reducible refine giv r_gt ?_ | with_reducible refine giv r_ge ?_ | with_reducible refine giv r_eqi ?_ | with_reducible refine giv r_eqs ?_ | with_reducible refine giv r_eqb ?_ | with_reducible refine giv r_nei ?_ | with_reducible refine giv r_nes ?_ | with_reducible refine giv r_neb ?_ | with_reducible refine giv r_isb ?_ | with_reducible refine giv r_ntb ?_ | with_reducible refine giv r_ins ?_ | with_reducible refine giv r_nis ?_ | with_reducible refine giv r_neg ?_ | with_reducible refine giv r_len2 ?_ | with_reducible refine giv r_len3 ?_ | with_reducible refine giv r_int1 ?_ | with_reducible refine giv r_fFind ?_ | with_reducible refine giv r_rev1 ?_ | with_reducible refine giv r_fIsi1 ?_ | with_reducible refine giv r_fIsi2 ?_ | with_reducible refine giv r_fIsi3 ?_ | with_reducible refine giv r_fIsi4 ?_ | with_reducible refine giv r_fIsi5 ?_ | with_reducible refine giv r_fIsi6 ?_ | with_reducible refine giv r_min2 ?_ | with_reducible refine giv r_max2 ?_ | with_reducible refine giv r_min3 ?_ | with_reducible refine giv r_isn1 ?_ | with_reducible refine giv r_isn2 ?_ | with_reducible refine giv r_isn3 ?_ | with_reducible refine giv r_isn4 ?_ | with_reducible refine giv r_isn5 ?_ | with_reducible refine giv r_ntn1 ?_ | with_reducible refine giv r_ntn2 ?_ | with_reducible refine giv r_ntn3 ?_ | with_reducible refine giv r_ntn4 ?_ | with_reducible refine giv r_ntn5 ?_ | with_reducible refine giv r_eqn1 ?_ | with_reducible refine giv r_eqn2 ?_ | ((with_reducible refine' giv ?s0 ?_); (case s0 => (first | exact (rfl : _ = some (D.bl true)) | exact (rfl : _ = some (D.bl false))))) | ((with_reducible refine' giv_ixs_all ?s0 ?s1 ?s2 ?_); (case s0 => (first | assumption | decide | omega | (show _ ≤ 16777216; omega) | (show _ < 16777216; omega) | (simp only [List.length_append, List.length_cons, List.length_nil, List.length_replicate, List.length_map, List.length_take, List.length_drop, List.length_dropLast]; first | omega | (show _ ≤ 16777216; omega)))); (case s1 => (first | assumption | decide | omega)); (case s2 => (first | assumption | (refine Int.lt_of_lt_of_le (by assumption) ?_; decide) | (show _ < (_ : Int); omega) | (simp only [List.length_append, List.length_cons, List.length_nil]; omega))); intro _ _))) | ((with_reducible refine gBrn ?_); (first | with_reducible refine brn_t ?_ | with_reducible refine brn_f ?_ | with_reducible refine brn_nT ?_ | with_reducible refine brn_nF ?_ | with_reducible refine brn_nn ?_ | ((with_reducible refine' brn_dt ?s0 ?_); (case s0 => decide)) | ((with_reducible refine' brn_df ?s0 ?_); (case s0 => decide)) | ((with_reducible refine' brn_nt ?s0 ?_); (case s0 => decide)) | ((with_reducible refine' brn_nf ?s0 ?_); (case s0 => decide)))) | ((with_reducible refine gFv ?_); (first | ((with_reducible refine' fv_nextE ?s0 ?s1 ?_); (case s0 => assumption); (case s1 => (first | assumption | decide | omega)); intro _ _ _ _ _; (try dsimp only [puts, put, agI, outsOf, slOf, List.set_cons_zero, List.set_cons_succ, List.getElem?_cons_zero, List.getElem?_cons_succ, wipeR, backR, Option.getD_some, stl])) | ((with_reducible refine' fv_drawE ?s0 ?_); (case s0 => assumption); intro _ _) | with_reducible refine fv_signs ?_ | (walk_at "fn"))) | with_reducible refine ret_z ?_ | with_reducible refine ret_r ?_ | ((with_reducible refine' ret_b ?s0 ?_); (case s0 => (rfl))) | ((with_reducible refine' see2 ?s0 ?s1 ?_); (case s0 => (rfl)); (case s1 => (rfl))) | ((with_reducible refine' see1 ?s0 ?_); (case s0 => (rfl))) | ((with_reducible refine' sees ?s0 ?_); (case s0 => (rfl))) | with_reducible refine isI ?_ | with_reducible refine isB ?_ | with_reducible refine isBD ?_ | ((with_reducible refine' frzs' ?s0 (And.intro ?s1 ?_)); (case s0 => rfl); (case s1 => (first | decide | simp)); (try dsimp only [puts, put, agI, outsOf, slOf, List.set_cons_zero, List.set_cons_succ, List.getElem?_cons_zero, List.getElem?_cons_succ, wipeR, backR, Option.getD_some, stl])) | ((with_reducible refine' arg ?s0 ?s1 ?s2 ?_); (case s0 => (rfl)); (case s1 => (rfl)); (case s2 => (first | exact List.nodup_nil | exact nodup1 | simp [agI])); (try dsimp only [puts, put, agI, outsOf, slOf, List.set_cons_zero, List.set_cons_succ, List.getElem?_cons_zero, List.getElem?_cons_succ, wipeR, backR, Option.getD_some, stl])) | ((with_reducible refine' ex_asg ?s0 ?_); (case s0 => (first | rfl | assumption)); (try dsimp only [puts, put, agI, outsOf, slOf, List.set_cons_zero, List.set_cons_succ, List.getElem?_cons_zero, List.getElem?_cons_succ, wipeR, backR, Option.getD_some, stl])) | ((with_reducible refine' ex_asg' ?s0 ?_); (case s0 => (first | rfl | assumption)); (try dsimp only [puts, put, agI, outsOf, slOf, List.set_cons_zero, List.set_cons_succ, List.getElem?_cons_zero, List.getElem?_cons_succ, wipeR, backR, Option.getD_some, stl])) | ((with_reducible refine' ex_asg'' ?s0 ?_); (case s0 => (rfl)); (try dsimp only [puts, put, agI, outsOf, slOf, List.set_cons_zero, List.set_cons_succ, List.getElem?_cons_zero, List.getElem?_cons_succ, wipeR, backR, Option.getD_some, stl])) | ((with_reducible refine' ex_asgT ?s0 ?_); (case s0 => (rfl)); (try dsimp only [puts, put, agI, outsOf, slOf, List.set_cons_zero, List.set_cons_succ, List.getElem?_cons_zero, List.getElem?_cons_succ, wipeR, backR, Option.getD_some, stl])) | ((with_reducible refine' nbw_z ?_); (try dsimp only [puts, put, agI, outsOf, slOf, List.set_cons_zero, List.set_cons_succ, List.getElem?_cons_zero, List.getElem?_cons_succ, wipeR, backR, Option.getD_some, stl])) | ((with_reducible refine' nbw_r ?_); (try dsimp only [puts, put, agI, outsOf, slOf, List.set_cons_zero, List.set_cons_succ, List.getElem?_cons_zero, List.getElem?_cons_succ, wipeR, backR, Option.getD_some, stl])) | ((with_reducible refine' own_at ?s0 (And.intro ?s1 ?_)); (case s0 => rfl); (case s1 => exact ⟨_, by assumption⟩); intro _ _; (try dsimp only [puts, put, agI, outsOf, slOf, List.set_cons_zero, List.set_cons_succ, List.getElem?_cons_zero, List.getElem?_cons_succ, wipeR, backR, Option.getD_some, stl])) | ((with_reducible refine gSv ?_); (first | with_reducible refine sv_asg_s ?_ | with_reducible refine sv_nx_s ?_ | with_reducible refine sv_ret_s ?_ | with_reducible refine sv_seq_s ?_ | with_reducible refine sv_drop_s ?_ | ((with_reducible refine' sv_app_s ?s0 ?_); (case s0 => (rfl))) | ((with_reducible refine' sv_app_l ?s0 ?_); (case s0 => (rfl))) | with_reducible refine sv_asg_l ?_ | with_reducible refine sv_if_l ?_ | with_reducible refine sv_ret_l ?_ | with_reducible refine sv_nx ?_ | with_reducible refine sv_asgT_s ?_ | with_reducible refine sv_asgT_l ?_ | with_reducible refine sv_set4_s ?_))))
local macro_rules | `(tactic| walk_at "b") => `(tactic| (first | ((with_reducible refine' giv_ixl_all ?s0 ?s1 ?_); (case s0 => (first | assumption | decide | omega)); (case s1 => (first | assumption | (refine Int.lt_of_lt_of_le (by assumption) ?_; decide) | (show _ < (_ : Int); omega) | (simp only [List.length_append, List.length_cons, List.length_nil]; omega))); repeat' (first | exact all_nil | refine all_cons ?_ ?_)) | ((with_reducible refine brn_d ?_ ?_) <;> intro _ <;> (first | (exfalso; omega) | skip)) | ((with_reducible refine brn_nd ?_ ?_) <;> intro _ <;> (first | (exfalso; omega) | skip)) | ((with_reducible refine brn_c ?_ ?_) <;> intro _ <;> (first | (exfalso; omega) | contradiction | (subst_vars; contradiction) | skip))))
local macro_rules | `(tactic| walk_at "n") => `(tactic| (try dsimp only [puts, put, agI, outsOf, slOf, List.map, List.set_cons_zero, List.set_cons_succ, List.getElem?_cons_zero, List.getElem?_cons_succ, wipeR, backR, Option.getD_some, List.replicate, List.cons_append, List.nil_append, List.append_eq, List.append_nil, Nat.reduceSub, FEnd, Ret, noBw, stl]))
local macro_rules | `(tactic| walk_at "g") => `(tactic| (repeat (walk_at "s1")))
local macro_rules | `(tactic| walk_at "gS") => `(tactic| (repeat (walk_at "s2")))
local macro_rules | `(tactic| walk_at "x") => `(tactic| (repeat' (first | (walk_at "s1") | (walk_at "b"))))
local macro_rules | `(tactic| walk_at "xS") => `(tactic| (repeat' (first | (walk_at "s2") | (walk_at "b"))))
--HDREND
def kindS : T → List Nat
  | .empty => tEMPTY
  | .set _ => tSET
  | .seq _ => tSEQ
  | .alt _ => tALT
  | .rep _ _ _ _ => tREP
  | .group _ _ => tGROUP
  | .look _ _ _ => tLOOK
  | .edge _ => tEDGE
  | .same _ => tSAME
theorem D_kind (t : T) : ∃ r, t.D = .tup (.str (kindS t) :: r) := by
  cases t <;> (rw [T.D]; exact ⟨_, rfl⟩)
theorem wset_eq1 : f_write_set = K09.f_write_set := rfl
theorem wset_eq2 : f_law_written_set = K09.f_law_written_set := rfl
theorem set_ok {cs : List Nat} (hs : cs.Sublist SGN) {Q : Vl → List (List D) → Prop} (q : Q (.fz (.str (wset cs))) []) : Fv f_write_set [.da (.str cs)] Q := by
  rw [wset_eq1]; exact K09.write_set_ok hs q
theorem lset_ok {cs : List Nat} (hs : cs.Sublist SGN) {Q : Vl → List (List D) → Prop} (q : Q (.fz (.str (wset cs))) []) : Fv f_law_written_set [.da (.str cs)] Q := by
  rw [wset_eq2]; exact K09.written_set_ok hs q
/-- a child, in parentheses or not -/
theorem child_ok {t : T} {n p : Nat} {W : List D} (hW : fIn (.str (kindS t)) (.tup W) = some (.bl (decide (bare t < p)))) (hl : (wrt t).length ≤ 100000)
    (hp : ∀ {Q : Vl → List (List D) → Prop}, Q (.fz (.str (wrt t))) [] → Fv (fx_write_pattern n) [.da t.D] Q)
    {Q : Vl → List (List D) → Prop} (q : Q (.fz (.str (paren p t (wrt t)))) []) : Fv (fx_write_child (n + 1)) [.da t.D, .da (.tup W)] Q := by
  unfold fx_write_child
  refine fv_fn rfl ?_
  walk_at "n"
  unfold b_write_child
  obtain ⟨r, e⟩ := D_kind t
  rw [e] at hp ⊢
  walk_at "g"
  refine giv hW ?_
  unfold paren at q
  walk_at "x"
  · rename_i z
    rw [if_pos z] at q
    refine hp ?_
    walk_at "g"
    walk_at "n"
    exact q
  · rename_i z
    rw [if_neg z] at q
    refine hp ?_
    walk_at "g"
    walk_at "n"
    exact q
theorem write_ok (t : T) (h : t.All Ok1) (hs : t.size ≤ 150) : ∀ n, 2 * t.depth ≤ n → ∀ {Q : Vl → List (List D) → Prop}, Q (.fz (.str (wrt t))) [] → Fv (fx_write_pattern n) [.da t.D] Q := by
  induction t using T.ind with
  | h0 =>
    intro n hn Q q
    obtain ⟨n, rfl⟩ : ∃ m, n = m + 1 := ⟨n - 1, by simp only [T.depth] at hn; omega⟩
    unfold fx_write_pattern
    refine fv_fn rfl ?_
    walk_at "n"
    unfold b_write_pattern
    rw [D_empty]
    walk_at "g"
    walk_at "n"
    rw [wrt] at q
    exact q
  | h1 s =>
    intro n hn Q q
    obtain ⟨n, rfl⟩ : ∃ m, n = m + 1 := ⟨n - 1, by simp only [T.depth] at hn; omega⟩
    have hsub : s.Sublist SGN := by simp only [T.All] at h; exact h
    unfold fx_write_pattern
    refine fv_fn rfl ?_
    walk_at "n"
    unfold b_write_pattern
    rw [D_set]
    walk_at "g"
    refine set_ok hsub ?_
    walk_at "g"
    walk_at "n"
    rw [wrt] at q
    exact q
  | h2 ts ih =>
    intro n hn Q q
    obtain ⟨n, rfl⟩ : ∃ m, n = m + 2 := ⟨n - 2, by simp only [T.depth] at hn; omega⟩
    simp only [T.All] at h
    simp only [T.depth] at hn
    simp only [T.size] at hs
    have len : ∀ t ∈ ts, (wrt t).length + 10 ≤ 600 * t.size := fun t ht => wrt_len t (alls_mem.mp h.2 t ht)
    have sum := wrts_sum 2 len
    unfold fx_write_pattern
    refine fv_fn rfl ?_
    walk_at "n"
    unfold b_write_pattern
    rw [D_seq]
    walk_at "g"
    refine ev_lcm ts T.D (fun t => .str (paren 2 t (wrt t))) rfl (by show _ ≤ 16777216; omega) ?_ ?_ ?_
    · intro Q' q'
      refine ev_isqd (xs := ts.map T.D) ?_
      walk_at "g"
      exact ⟨_, rfl, rfl, q'⟩
    · intro x hx Q' q'
      have h1 := size_mem hx
      have h2 := depth_mem hx
      have h3 := len x hx
      walk_at "g"
      refine child_ok (p := 2) (by cases x <;> rfl) (by omega) (fun {Q} q => ih x hx (alls_mem.mp h.2 x hx) (by omega) n (by omega) q) ?_
      walk_at "g"
      exact q'
    · walk_at "g"
      rw [show ts.map (fun t => Sw.D.str (paren 2 t (wrt t))) = (wrts 2 ts).map Sw.D.str by rw [wrts_map, List.map_map]; rfl]
      refine giv_join (by show (_ : Nat) ≤ 16777216; have : ((wrts 2 ts).map (fun x => x.length)).sum = ((wrts 2 ts).map List.length).sum := rfl; omega) ?_
      walk_at "g"
      walk_at "n"
      rw [wrt] at q
      exact q
  | h3 ts ih =>
    intro n hn Q q
    obtain ⟨n, rfl⟩ : ∃ m, n = m + 2 := ⟨n - 2, by simp only [T.depth] at hn; omega⟩
    simp only [T.All] at h
    simp only [T.depth] at hn
    simp only [T.size] at hs
    have len : ∀ t ∈ ts, (wrt t).length + 10 ≤ 600 * t.size := fun t ht => wrt_len t (alls_mem.mp h.2 t ht)
    have sum := wrts_sum 1 len
    unfold fx_write_pattern
    refine fv_fn rfl ?_
    walk_at "n"
    unfold b_write_pattern
    rw [D_alt]
    walk_at "g"
    refine ev_lcm ts T.D (fun t => .str (paren 1 t (wrt t))) rfl (by show _ ≤ 16777216; omega) ?_ ?_ ?_
    · intro Q' q'
      refine ev_isqd (xs := ts.map T.D) ?_
      walk_at "g"
      exact ⟨_, rfl, rfl, q'⟩
    · intro x hx Q' q'
      have h1 := size_mem hx
      have h2 := depth_mem hx
      have h3 := len x hx
      walk_at "g"
      refine child_ok (p := 1) (by cases x <;> rfl) (by omega) (fun {Q} q => ih x hx (alls_mem.mp h.2 x hx) (by omega) n (by omega) q) ?_
      walk_at "g"
      exact q'
    · walk_at "g"
      rw [show ts.map (fun t => Sw.D.str (paren 1 t (wrt t))) = (wrts 1 ts).map Sw.D.str by rw [wrts_map, List.map_map]; rfl]
      refine giv_joinb (by rw [wrts_len]; show (_ : Nat) + _ * 1 ≤ 16777216; have : ((wrts 1 ts).map (fun x => x.length)).sum = ((wrts 1 ts).map List.length).sum := rfl; omega) ?_
      walk_at "g"
      walk_at "n"
      rw [wrt] at q
      exact q
  | h4 b lo hi lz ih =>
    intro n hn Q q
    obtain ⟨n, rfl⟩ : ∃ m, n = m + 2 := ⟨n - 2, by simp only [T.depth] at hn; omega⟩
    simp only [T.All] at h
    simp only [T.depth] at hn
    simp only [T.size] at hs
    have len := wrt_len b h.2
    have ml := mark_len (lz := lz) h.1.1 h.1.2
    have pl := paren_len (p := 3) (t := b) (w := wrt b)
    unfold fx_write_pattern
    refine fv_fn rfl ?_
    walk_at "n"
    unfold b_write_pattern
    rw [D_rep]
    walk_at "g"
    refine child_ok (p := 3) (by cases b <;> rfl) (by omega) (fun {Q} q => ih h.2 (by omega) n (by omega) q) ?_
    walk_at "g"
    refine repeat_ok h.1.1 h.1.2 ?_
    walk_at "g"
    walk_at "n"
    rw [wrt] at q
    exact q
  | h5 nm b ih =>
    intro n hn Q q
    obtain ⟨n, rfl⟩ : ∃ m, n = m + 1 := ⟨n - 1, by simp only [T.depth] at hn; omega⟩
    simp only [T.All] at h
    simp only [T.depth] at hn
    simp only [T.size] at hs
    have len := wrt_len b h.2
    have nl : nm.length ≤ 12 := h.1
    unfold fx_write_pattern
    refine fv_fn rfl ?_
    walk_at "n"
    unfold b_write_pattern
    rw [D_group]
    walk_at "g"
    refine giv_adds (by show 4 + _ ≤ 16777216; omega) ?_
    walk_at "g"
    refine giv_adds (by rw [List.length_append]; show 4 + _ + 1 ≤ 16777216; omega) ?_
    walk_at "g"
    refine ih h.2 (by omega) n (by omega) ?_
    walk_at "g"
    refine giv_adds (by rw [List.length_append, List.length_append]; show 4 + _ + 1 + _ ≤ 16777216; omega) ?_
    walk_at "g"
    refine giv_adds (by rw [List.length_append, List.length_append, List.length_append]; show 4 + _ + 1 + _ + 1 ≤ 16777216; omega) ?_
    walk_at "g"
    walk_at "n"
    rw [wrt] at q
    exact q
  | h6 a w b ih =>
    intro n hn Q q
    obtain ⟨n, rfl⟩ : ∃ m, n = m + 1 := ⟨n - 1, by simp only [T.depth] at hn; omega⟩
    simp only [T.All] at h
    simp only [T.depth] at hn
    simp only [T.size] at hs
    have len := wrt_len b h.2
    have nl := side_len a
    unfold fx_write_pattern
    refine fv_fn rfl ?_
    walk_at "n"
    unfold b_write_pattern
    rw [D_look]
    rw [wrt] at q
    cases w with
    | true =>
      walk_at "g"
      refine ih h.2 (by omega) n (by omega) ?_
      walk_at "g"
      walk_at "n"
      exact q
    | false =>
      walk_at "g"
      refine giv_adds (by show 5 + _ ≤ 16777216; omega) ?_
      walk_at "g"
      refine giv_adds (by rw [List.length_append]; show 5 + _ + 1 ≤ 16777216; omega) ?_
      walk_at "g"
      refine ih h.2 (by omega) n (by omega) ?_
      walk_at "g"
      refine giv_adds (by rw [List.length_append, List.length_append]; show 5 + _ + 1 + _ ≤ 16777216; omega) ?_
      walk_at "g"
      refine giv_adds (by rw [List.length_append, List.length_append, List.length_append]; show 5 + _ + 1 + _ + 1 ≤ 16777216; omega) ?_
      walk_at "g"
      walk_at "n"
      exact q
  | h7 k =>
    intro n hn Q q
    obtain ⟨n, rfl⟩ : ∃ m, n = m + 1 := ⟨n - 1, by simp only [T.depth] at hn; omega⟩
    have nl : k.length ≤ 12 := by simp only [T.All] at h; exact h
    unfold fx_write_pattern
    refine fv_fn rfl ?_
    walk_at "n"
    unfold b_write_pattern
    rw [D_edge]
    walk_at "g"
    walk_at "n"
    rw [wrt] at q
    exact q
  | h8 k =>
    intro n hn Q q
    obtain ⟨n, rfl⟩ : ∃ m, n = m + 1 := ⟨n - 1, by simp only [T.depth] at hn; omega⟩
    have nl : k.length ≤ 12 := by simp only [T.All] at h; exact h
    unfold fx_write_pattern
    refine fv_fn rfl ?_
    walk_at "n"
    unfold b_write_pattern
    rw [D_same]
    walk_at "g"
    refine giv_adds (by show 6 + _ ≤ 16777216; omega) ?_
    walk_at "g"
    refine giv_adds (by rw [List.length_append]; show 6 + _ + 1 ≤ 16777216; omega) ?_
    walk_at "g"
    walk_at "n"
    rw [wrt] at q
    exact q
end K10
set_option Elab.async false
set_option linter.all false
set_option maxRecDepth 100000
set_option maxHeartbeats 4000000
namespace K10
open Sw L2 Tre Runs
--HDR
local macro_rules | `(tactic| walk_at "fn") => `(tactic| (fail))
local macro_rules | `(tactic| walk_at "s1") => `(tactic| (first | ((with_reducible refine gEv ?_); (first | ((with_reducible refine' ev_tAnd_d ?s0 ?s1 ?_); (case s0 => (intro Q q; walk_at "g"; (first | exact q | exact toD_n q | exact toD_t q | exact toD_f q | exact toD_b q))); (case s1 => (intro hp Q q; walk_at "g"; (first | exact q | exact toD_n q | exact toD_t q | exact toD_f q | exact toD_b q)))) | ((with_reducible refine' ev_tOr_d ?s0 ?s1 ?_); (case s0 => (intro Q q; walk_at "g"; (first | exact q | exact toD_n q | exact toD_t q | exact toD_f q | exact toD_b q))); (case s1 => (intro hp Q q; walk_at "g"; (first | exact q | exact toD_n q | exact toD_t q | exact toD_f q | exact toD_b q)))) | with_reducible refine ev_c ?_ | ((with_reducible refine' ev_vd ?s0 ?_); (case s0 => (rfl))) | ((with_reducible refine' ev_vo ?s0 ?_); (case s0 => (rfl))) | ((with_reducible refine' ev_vi ?s0 ?_); (case s0 => (rfl))) | with_reducible refine ev_bin ?_ | with_reducible refine ev_un ?_ | with_reducible refine ev_anil ?_ | with_reducible refine ev_acons ?_ | with_reducible refine ev_blt ?_ | with_reducible refine ev_met ?_ | with_reducible refine ev_ono ?_ | with_reducible refine ev_osome ?_ | with_reducible refine ev_sl ?_ | with_reducible refine ev_tup ?_ | with_reducible refine ev_lst ?_ | with_reducible refine ev_tE ?_ | with_reducible refine ev_tyes ?_ | with_reducible refine ev_tAnd ?_ | with_reducible refine ev_tOr ?_ | with_reducible refine ev_tNot ?_ | with_reducible refine ev_eAnd ?_ | with_reducible refine ev_eOr ?_ | with_reducible refine ev_eNot ?_ | with_reducible refine ev_eIf ?_ | with_reducible refine ev_chain ?_ | with_reducible refine ev_call ?_)) | ((with_reducible refine gGiv ?_); (first | ((with_reducible refine' giv_mod ?s0 ?_); (case s0 => (first | assumption | decide | omega | (show _ ≤ 16777216; omega) | (show _ < 16777216; omega) | (simp only [List.length_append, List.length_cons, List.length_nil, List.length_replicate, List.length_map, List.length_take, List.length_drop, List.length_dropLast]; first | omega | (show _ ≤ 16777216; omega))))) | ((with_reducible refine' giv_div ?s0 ?_); (case s0 => (first | assumption | decide | omega | (show _ ≤ 16777216; omega) | (show _ < 16777216; omega) | (simp only [List.length_append, List.length_cons, List.length_nil, List.length_replicate, List.length_map, List.length_take, List.length_drop, List.length_dropLast]; first | omega | (show _ ≤ 16777216; omega))))) | ((with_reducible refine' giv_mul ?s0 ?_); (case s0 => (first | assumption | exact cMul_r (by decide) | exact cMul_r (by omega)))) | ((with_reducible refine' giv_muls ?s0 ?_); (case s0 => (first | assumption | decide | omega | (show _ ≤ 16777216; omega) | (show _ < 16777216; omega) | (simp only [List.length_append, List.length_cons, List.length_nil, List.length_replicate, List.length_map, List.length_take, List.length_drop, List.length_dropLast]; first | omega | (show _ ≤ 16777216; omega))))) | ((with_reducible refine' giv_adds ?s0 ?_); (case s0 => (first | assumption | decide | omega | (show _ ≤ 16777216; omega) | (show _ < 16777216; omega) | (simp only [List.length_append, List.length_cons, List.length_nil, List.length_replicate, List.length_map, List.length_take, List.length_drop, List.length_dropLast]; first | omega | (show _ ≤ 16777216; omega))))) | ((with_reducible refine' giv_addl ?s0 ?_); (case s0 => (first | assumption | decide | omega | (show _ ≤ 16777216; omega) | (show _ < 16777216; omega) | (simp only [List.length_append, List.length_cons, List.length_nil, List.length_replicate, List.length_map, List.length_take, List.length_drop, List.length_dropLast]; first | omega | (show _ ≤ 16777216; omega))))) | ((with_reducible refine' giv_ixl ?s0 ?_); (case s0 => (first | assumption | rfl | exact atI_zero))) | ((with_reducible refine' giv_ixt ?s0 ?_); (case s0 => (first | assumption | rfl | exact atI_zero))) | ((with_reducible refine' giv_ixs ?s0 ?s1 ?_); (case s0 => (first | assumption | decide | omega | (show _ ≤ 16777216; omega) | (show _ < 16777216; omega) | (simp only [List.length_append, List.length_cons, List.length_nil, List.length_replicate, List.length_map, List.length_take, List.length_drop, List.length_dropLast]; first | omega | (show _ ≤ 16777216; omega)))); (case s1 => (first | assumption | rfl))) | ((with_reducible refine' giv_dr4 ?s0 ?_); (case s0 => (assumption))) | ((with_reducible refine' giv_slm1 ?s0 ?_); (case s0 => (first | assumption | decide | omega | (show _ ≤ 16777216; omega) | (show _ < 16777216; omega) | (simp only [List.length_append, List.length_cons, List.length_nil, List.length_replicate, List.length_map, List.length_take, List.length_drop, List.length_dropLast]; first | omega | (show _ ≤ 16777216; omega))))) | ((with_reducible refine' giv_slt ?s0 ?s1 ?_); (case s0 => (first | assumption | decide | omega | (show _ ≤ 16777216; omega) | (show _ < 16777216; omega) | (simp only [List.length_append, List.length_cons, List.length_nil, List.length_replicate, List.length_map, List.length_take, List.length_drop, List.length_dropLast]; first | omega | (show _ ≤ 16777216; omega)))); (case s1 => (first | assumption | decide | omega))) | ((with_reducible refine' giv_sld ?s0 ?s1 ?_); (case s0 => (first | assumption | decide | omega | (show _ ≤ 16777216; omega) | (show _ < 16777216; omega) | (simp only [List.length_append, List.length_cons, List.length_nil, List.length_replicate, List.length_map, List.length_take, List.length_drop, List.length_dropLast]; first | omega | (show _ ≤ 16777216; omega)))); (case s1 => (first | assumption | decide | omega))) | ((with_reducible refine' giv_slm ?s0 ?s1 ?s2 ?_); (case s0 => (first | assumption | decide | omega | (show _ ≤ 16777216; omega) | (show _ < 16777216; omega) | (simp only [List.length_append, List.length_cons, List.length_nil, List.length_replicate, List.length_map, List.length_take, List.length_drop, List.length_dropLast]; first | omega | (show _ ≤ 16777216; omega)))); (case s1 => (first | assumption | decide | omega)); (case s2 => (first | assumption | decide | omega))) | ((with_reducible refine' giv_sltl ?s0 ?_); (case s0 => (first | assumption | decide | omega))) | ((with_reducible refine' giv_sldl ?s0 ?_); (case s0 => (first | assumption | decide | omega))) | ((with_reducible refine' giv_sls ?s0 ?_); (case s0 => (first | assumption | decide | omega | (show _ ≤ 16777216; omega) | (show _ < 16777216; omega) | (simp only [List.length_append, List.length_cons, List.length_nil, List.length_replicate, List.length_map, List.length_take, List.length_drop, List.length_dropLast]; first | omega | (show _ ≤ 16777216; omega))))) | with_reducible refine giv_sll ?_ | ((with_reducible refine' giv_lens ?s0 ?_); (case s0 => (first | assumption | decide | omega | (show _ ≤ 16777216; omega) | (show _ < 16777216; omega) | (simp only [List.length_append, List.length_cons, List.length_nil, List.length_replicate, List.length_map, List.length_take, List.length_drop, List.length_dropLast]; first | omega | (show _ ≤ 16777216; omega))))) | ((with_reducible refine' giv_revs ?s0 ?_); (case s0 => (first | assumption | decide | omega | (show _ ≤ 16777216; omega) | (show _ < 16777216; omega) | (simp only [List.length_append, List.length_cons, List.length_nil, List.length_replicate, List.length_map, List.length_take, List.length_drop, List.length_dropLast]; first | omega | (show _ ≤ 16777216; omega))))) | with_reducible refine giv_tup ?_ | with_reducible refine giv_tupt ?_ | ((with_reducible refine' giv_str ?s0 ?_); (case s0 => (first | assumption | decide | omega))) | with_reducible refine giv_strN ?_ | with_reducible refine giv_strS ?_ | with_reducible refine giv r_add1 ?_ | with_reducible refine giv r_sub ?_ | with_reducible refine giv r_lt ?_ | with_reducible refine giv r_lts ?_ | with_reducible refine giv r_le ?_ | with_reducible refine giv r_gt ?_ | with_reducible refine giv r_ge ?_ | with_reducible refine giv r_eqi ?_ | with_reducible refine giv r_eqs ?_ | with_reducible refine giv r_eqb ?_ | with_reducible refine giv r_nei ?_ | with_reducible refine giv r_nes ?_ | with_reducible refine giv r_neb ?_ | with_reducible refine giv r_isb ?_ | with_reducible refine giv r_ntb ?_ | with_reducible refine giv r_ins ?_ | with_reducible refine giv r_nis ?_ | with_reducible refine giv r_neg ?_ | with_reducible refine giv r_len2 ?_ | with_reducible refine giv r_len3 ?_ | with_reducible refine giv r_int1 ?_ | with_reducible refine giv r_fFind ?_ | with_reducible refine giv r_rev1 ?_ | with_reducible refine giv r_fIsi1 ?_ | with_reducible refine giv r_fIsi2 ?_ | with_reducible refine giv r_fIsi3 ?_ | with_reducible refine giv r_fIsi4 ?_ | with_reducible refine giv r_fIsi5 ?_ | with_reducible refine giv r_fIsi6 ?_ | with_reducible refine giv r_min2 ?_ | with_reducible refine giv r_max2 ?_ | with_reducible refine giv r_min3 ?_ | with_reducible refine giv r_isn1 ?_ | with_reducible refine giv r_isn2 ?_ | with_reducible refine giv r_isn3 ?_ | with_reducible refine giv r_isn4 ?_ | with_reducible refine giv r_isn5 ?_ | with_reducible refine giv r_ntn1 ?_ | with_reducible refine giv r_ntn2 ?_ | with_reducible refine giv r_ntn3 ?_ | with_reducible refine giv r_ntn4 ?_ | with_reducible refine giv r_ntn5 ?_ | with_reducible refine giv r_eqn1 ?_ | with_reducible refine giv r_eqn2 ?_ | ((with_reducible refine' giv ?s0 ?_); (case s0 => (first | exact (rfl : _ = some (D.bl true)) | exact (rfl : _ = some (D.bl false))))) | ((with_reducible refine' giv_ixs_all ?s0 ?s1 ?s2 ?_); (case s0 => (first | assumption | decide | omega | (show _ ≤ 16777216; omega) | (show _ < 16777216; omega) | (simp only [List.length_append, List.length_cons, List.length_nil, List.length_replicate, List.length_map, List.length_take, List.length_drop, List.length_dropLast]; first | omega | (show _ ≤ 16777216; omega)))); (case s1 => (first | assumption | decide | omega)); (case s2 => (first | assumption | (refine Int.lt_of_lt_of_le (by assumption) ?_; decide) | (show _ < (_ : Int); omega) | (simp only [List.length_append, List.length_cons, List.length_nil]; omega))); intro _ _))) | ((with_reducible refine gBrn ?_); (first | with_reducible refine brn_t ?_ | with_reducible refine brn_f ?_ | with_reducible refine brn_nT ?_ | with_reducible refine brn_nF ?_ | with_reducible refine brn_nn ?_ | ((with_reducible refine' brn_dt ?s0 ?_); (case s0 => decide)) | ((with_reducible refine' brn_df ?s0 ?_); (case s0 => decide)) | ((with_reducible refine' brn_nt ?s0 ?_); (case s0 => decide)) | ((with_reducible refine' brn_nf ?s0 ?_); (case s0 => decide)))) | ((with_reducible refine gFv ?_); (first | ((with_reducible refine' fv_nextE ?s0 ?s1 ?_); (case s0 => assumption); (case s1 => (first | assumption | decide | omega)); intro _ _ _ _ _; (try dsimp only [puts, put, agI, outsOf, slOf, List.set_cons_zero, List.set_cons_succ, List.getElem?_cons_zero, List.getElem?_cons_succ, wipeR, backR, Option.getD_some, stl])) | ((with_reducible refine' fv_drawE ?s0 ?_); (case s0 => assumption); intro _ _) | with_reducible refine fv_signs ?_ | (walk_at "fn"))) | with_reducible refine ret_z ?_ | with_reducible refine ret_r ?_ | ((with_reducible refine' ret_b ?s0 ?_); (case s0 => (rfl))) | ((with_reducible refine' see2 ?s0 ?s1 ?_); (case s0 => (rfl)); (case s1 => (rfl))) | ((with_reducible refine' see1 ?s0 ?_); (case s0 => (rfl))) | ((with_reducible refine' sees ?s0 ?_); (case s0 => (rfl))) | with_reducible refine isI ?_ | with_reducible refine isB ?_ | with_reducible refine isBD ?_ | ((with_reducible refine' frzs' ?s0 (And.intro ?s1 ?_)); (case s0 => rfl); (case s1 => (first | decide | simp)); (try dsimp only [puts, put, agI, outsOf, slOf, List.set_cons_zero, List.set_cons_succ, List.getElem?_cons_zero, List.getElem?_cons_succ, wipeR, backR, Option.getD_some, stl])) | ((with_reducible refine' arg ?s0 ?s1 ?s2 ?_); (case s0 => (rfl)); (case s1 => (rfl)); (case s2 => (first | exact List.nodup_nil | exact nodup1 | simp [agI])); (try dsimp only [puts, put, agI, outsOf, slOf, List.set_cons_zero, List.set_cons_succ, List.getElem?_cons_zero, List.getElem?_cons_succ, wipeR, backR, Option.getD_some, stl])) | ((with_reducible refine' ex_asg ?s0 ?_); (case s0 => (first | rfl | assumption)); (try dsimp only [puts, put, agI, outsOf, slOf, List.set_cons_zero, List.set_cons_succ, List.getElem?_cons_zero, List.getElem?_cons_succ, wipeR, backR, Option.getD_some, stl])) | ((with_reducible refine' ex_asg' ?s0 ?_); (case s0 => (first | rfl | assumption)); (try dsimp only [puts, put, agI, outsOf, slOf, List.set_cons_zero, List.set_cons_succ, List.getElem?_cons_zero, List.getElem?_cons_succ, wipeR, backR, Option.getD_some, stl])) | ((with_reducible refine' ex_asg'' ?s0 ?_); (case s0 => (rfl)); (try dsimp only [puts, put, agI, outsOf, slOf, List.set_cons_zero, List.set_cons_succ, List.getElem?_cons_zero, List.getElem?_cons_succ, wipeR, backR, Option.getD_some, stl])) | ((with_reducible refine' ex_asgT ?s0 ?_); (case s0 => (rfl)); (try dsimp only [puts, put, agI, outsOf, slOf, List.set_cons_zero, List.set_cons_succ, List.getElem?_cons_zero, List.getElem?_cons_succ, wipeR, backR, Option.getD_some, stl])) | ((with_reducible refine' nbw_z ?_); (try dsimp only [puts, put, agI, outsOf, slOf, List.set_cons_zero, List.set_cons_succ, List.getElem?_cons_zero, List.getElem?_cons_succ, wipeR, backR, Option.getD_some, stl])) | ((with_reducible refine' nbw_r ?_); (try dsimp only [puts, put, agI, outsOf, slOf, List.set_cons_zero, List.set_cons_succ, List.getElem?_cons_zero, List.getElem?_cons_succ, wipeR, backR, Option.getD_some, stl])) | ((with_reducible refine' own_at ?s0 (And.intro ?s1 ?_)); (case s0 => rfl); (case s1 => exact ⟨_, by assumption⟩); intro _ _; (try dsimp only [puts, put, agI, outsOf, slOf, List.set_cons_zero, List.set_cons_succ, List.getElem?_cons_zero, List.getElem?_cons_succ, wipeR, backR, Option.getD_some, stl])) | ((with_reducible refine gSv ?_); (first | with_reducible refine sv_asg_s ?_ | with_reducible refine sv_nx_s ?_ | with_reducible refine sv_if_s ?_ | with_reducible refine sv_ret_s ?_ | with_reducible refine sv_seq_s ?_ | with_reducible refine sv_drop_s ?_ | ((with_reducible refine' sv_app_s ?s0 ?_); (case s0 => (rfl))) | ((with_reducible refine' sv_app_l ?s0 ?_); (case s0 => (rfl))) | with_reducible refine sv_asg_l ?_ | with_reducible refine sv_if_l ?_ | with_reducible refine sv_ret_l ?_ | with_reducible refine sv_nx ?_ | with_reducible refine sv_asgT_s ?_ | with_reducible refine sv_asgT_l ?_ | with_reducible refine sv_set4_s ?_))))
local macro_rules | `(tactic| walk_at "s2") => `(tactic| (first | ((with_reducible refine gEv ?_); (first | ((with_reducible refine' ev_tAnd_d ?s0 ?s1 ?_); (case s0 => (intro Q q; walk_at "g"; (first | exact q | exact toD_n q | exact toD_t q | exact toD_f q | exact toD_b q))); (case s1 => (intro hp Q q; walk_at "g"; (first | exact q | exact toD_n q | exact toD_t q | exact toD_f q | exact toD_b q)))) | ((with_reducible refine' ev_tOr_d ?s0 ?s1 ?_); (case s0 => (intro Q q; walk_at "g"; (first | exact q | exact toD_n q | exact toD_t q | exact toD_f q | exact toD_b q))); (case s1 => (intro hp Q q; walk_at "g"; (first | exact q | exact toD_n q | exact toD_t q | exact toD_f q | exact toD_b q)))) | with_reducible refine ev_c ?_ | ((with_reducible refine' ev_vd ?s0 ?_); (case s0 => (rfl))) | ((with_reducible refine' ev_vo ?s0 ?_); (case s0 => (rfl))) | ((with_reducible refine' ev_vi ?s0 ?_); (case s0 => (rfl))) | with_reducible refine ev_bin ?_ | with_reducible refine ev_un ?_ | with_reducible refine ev_anil ?_ | with_reducible refine ev_acons ?_ | with_reducible refine ev_blt ?_ | with_reducible refine ev_met ?_ | with_reducible refine ev_ono ?_ | with_reducible refine ev_osome ?_ | with_reducible refine ev_sl ?_ | with_reducible refine ev_tup ?_ | with_reducible refine ev_lst ?_ | with_reducible refine ev_tE ?_ | with_reducible refine ev_tyes ?_ | with_reducible refine ev_tAnd ?_ | with_reducible refine ev_tOr ?_ | with_reducible refine ev_tNot ?_ | with_reducible refine ev_eAnd ?_ | with_reducible refine ev_eOr ?_ | with_reducible refine ev_eNot ?_ | with_reducible refine ev_eIf ?_ | with_reducible refine ev_chain ?_ | with_reducible refine ev_call ?_)) | ((with_reducible refine gGiv ?_); (first | ((with_reducible refine' giv_mod ?s0 ?_); (case s0 => (first | assumption | decide | omega | (show _ ≤ 16777216; omega) | (show _ < 16777216; omega) | (simp only [List.length_append, List.length_cons, List.length_nil, List.length_replicate, List.length_map, List.length_take, List.length_drop, List.length_dropLast]; first | omega | (show _ ≤ 16777216; omega))))) | ((with_reducible refine' giv_div ?s0 ?_); (case s0 => (first | assumption | decide | omega | (show _ ≤ 16777216; omega) | (show _ < 16777216; omega) | (simp only [List.length_append, List.length_cons, List.length_nil, List.length_replicate, List.length_map, List.length_take, List.length_drop, List.length_dropLast]; first | omega | (show _ ≤ 16777216; omega))))) | ((with_reducible refine' giv_mul ?s0 ?_); (case s0 => (first | assumption | exact cMul_r (by decide) | exact cMul_r (by omega)))) | ((with_reducible refine' giv_muls ?s0 ?_); (case s0 => (first | assumption | decide | omega | (show _ ≤ 16777216; omega) | (show _ < 16777216; omega) | (simp only [List.length_append, List.length_cons, List.length_nil, List.length_replicate, List.length_map, List.length_take, List.length_drop, List.length_dropLast]; first | omega | (show _ ≤ 16777216; omega))))) | ((with_reducible refine' giv_adds ?s0 ?_); (case s0 => (first | assumption | decide | omega | (show _ ≤ 16777216; omega) | (show _ < 16777216; omega) | (simp only [List.length_append, List.length_cons, List.length_nil, List.length_replicate, List.length_map, List.length_take, List.length_drop, List.length_dropLast]; first | omega | (show _ ≤ 16777216; omega))))) | ((with_reducible refine' giv_addl ?s0 ?_); (case s0 => (first | assumption | decide | omega | (show _ ≤ 16777216; omega) | (show _ < 16777216; omega) | (simp only [List.length_append, List.length_cons, List.length_nil, List.length_replicate, List.length_map, List.length_take, List.length_drop, List.length_dropLast]; first | omega | (show _ ≤ 16777216; omega))))) | ((with_reducible refine' giv_ixl ?s0 ?_); (case s0 => (first | assumption | rfl | exact atI_zero))) | ((with_reducible refine' giv_ixt ?s0 ?_); (case s0 => (first | assumption | rfl | exact atI_zero))) | ((with_reducible refine' giv_ixs ?s0 ?s1 ?_); (case s0 => (first | assumption | decide | omega | (show _ ≤ 16777216; omega) | (show _ < 16777216; omega) | (simp only [List.length_append, List.length_cons, List.length_nil, List.length_replicate, List.length_map, List.length_take, List.length_drop, List.length_dropLast]; first | omega | (show _ ≤ 16777216; omega)))); (case s1 => (first | assumption | rfl))) | ((with_reducible refine' giv_dr4 ?s0 ?_); (case s0 => (assumption))) | ((with_reducible refine' giv_slm1 ?s0 ?_); (case s0 => (first | assumption | decide | omega | (show _ ≤ 16777216; omega) | (show _ < 16777216; omega) | (simp only [List.length_append, List.length_cons, List.length_nil, List.length_replicate, List.length_map, List.length_take, List.length_drop, List.length_dropLast]; first | omega | (show _ ≤ 16777216; omega))))) | ((with_reducible refine' giv_slt ?s0 ?s1 ?_); (case s0 => (first | assumption | decide | omega | (show _ ≤ 16777216; omega) | (show _ < 16777216; omega) | (simp only [List.length_append, List.length_cons, List.length_nil, List.length_replicate, List.length_map, List.length_take, List.length_drop, List.length_dropLast]; first | omega | (show _ ≤ 16777216; omega)))); (case s1 => (first | assumption | decide | omega))) | ((with_reducible refine' giv_sld ?s0 ?s1 ?_); (case s0 => (first | assumption | decide | omega | (show _ ≤ 16777216; omega) | (show _ < 16777216; omega) | (simp only [List.length_append, List.length_cons, List.length_nil, List.length_replicate, List.length_map, List.length_take, List.length_drop, List.length_dropLast]; first | omega | (show _ ≤ 16777216; omega)))); (case s1 => (first | assumption | decide | omega))) | ((with_reducible refine' giv_slm ?s0 ?s1 ?s2 ?_); (case s0 => (first | assumption | decide | omega | (show _ ≤ 16777216; omega) | (show _ < 16777216; omega) | (simp only [List.length_append, List.length_cons, List.length_nil, List.length_replicate, List.length_map, List.length_take, List.length_drop, List.length_dropLast]; first | omega | (show _ ≤ 16777216; omega)))); (case s1 => (first | assumption | decide | omega)); (case s2 => (first | assumption | decide | omega))) | ((with_reducible refine' giv_sltl ?s0 ?_); (case s0 => (first | assumption | decide | omega))) | ((with_reducible refine' giv_sldl ?s0 ?_); (case s0 => (first | assumption | decide | omega))) | ((with_reducible refine' giv_sls ?s0 ?_); (case s0 => (first | assumption | decide | omega | (show _ ≤ 16777216; omega) | (show _ < 16777216; omega) | (simp only [List.length_append, List.length_cons, List.length_nil, List.length_replicate, List.length_map, List.length_take, List.length_drop, List.length_dropLast]; first | omega | (show _ ≤ 16777216; omega))))) | with_reducible refine giv_sll ?_ | ((with_reducible refine' giv_lens ?s0 ?_); (case s0 => (first | assumption | decide | omega | (show _ ≤ 16777216; omega) | (show _ < 16777216; omega) | (simp only [List.length_append, List.length_cons, List.length_nil, List.length_replicate, List.length_map, List.length_take, List.length_drop, List.length_dropLast]; first | omega | (show _ ≤ 16777216; omega))))) | ((with_reducible refine' giv_revs ?s0 ?_); (case s0 => (first | assumption | decide | omega | (show _ ≤ 16777216; omega) | (show _ < 16777216; omega) | (simp only [List.length_append, List.length_cons, List.length_nil, List.length_replicate, List.length_map, List.length_take, List.length_drop, List.length_dropLast]; first | omega | (show _ ≤ 16777216; omega))))) | with_reducible refine giv_tup ?_ | with_reducible refine giv_tupt ?_ | ((with_reducible refine' giv_str ?s0 ?_); (case s0 => (first | assumption | decide | omega))) | with_reducible refine giv_strN ?_ | with_reducible refine giv_strS ?_ | with_reducible refine giv r_add1 ?_ | with_reducible refine giv r_sub ?_ | with_reducible refine giv r_lt ?_ | with_reducible refine giv r_lts ?_ | with_reducible refine giv r_le ?_ | with_reducible refine giv r_gt ?_ | with_reducible refine giv r_ge ?_ | with_reducible refine giv r_eqi ?_ | with_reducible refine giv r_eqs ?_ | with_reducible refine giv r_eqb ?_ | with_reducible refine giv r_nei ?_ | with_reducible refine giv r_nes ?_ | with_reducible refine giv r_neb ?_ | with_reducible refine giv r_isb ?_ | with_reducible refine giv r_ntb ?_ | with_reducible refine giv r_ins ?_ | with_reducible refine giv r_nis ?_ | with_reducible refine giv r_neg ?_ | with_reducible refine giv r_len2 ?_ | with_reducible refine giv r_len3 ?_ | with_reducible refine giv r_int1 ?_ | with_reducible refine giv r_fFind ?_ | with_reducible refine giv r_rev1 ?_ | with_reducible refine giv r_fIsi1 ?_ | with_reducible refine giv r_fIsi2 ?_ | with_reducible refine giv r_fIsi3 ?_ | with_reducible refine giv r_fIsi4 ?_ | with_reducible refine giv r_fIsi5 ?_ | with_reducible refine giv r_fIsi6 ?_ | with_reducible refine giv r_min2 ?_ | with_reducible refine giv r_max2 ?_ | with_reducible refine giv r_min3 ?_ | with_reducible refine giv r_isn1 ?_ | with_reducible refine giv r_isn2 ?_ | with_reducible refine giv r_isn3 ?_ | with_reducible refine giv r_isn4 ?_ | with_reducible refine giv r_isn5 ?_ | with_reducible refine giv r_ntn1 ?_ | with_reducible refine giv r_ntn2 ?_ | with_reducible refine giv r_ntn3 ?_ | with_reducible refine giv r_ntn4 ?_ | with_reducible refine giv r_ntn5 ?_ | with_reducible refine giv r_eqn1 ?_ | with_reducible refine giv r_eqn2 ?_ | ((with_reducible refine' giv ?s0 ?_); (case s0 => (first | exact (rfl : _ = some (D.bl true)) | exact (rfl : _ = some (D.bl false))))) | ((with_reducible refine' giv_ixs_all ?s0 ?s1 ?s2 ?_); (case s0 => (first | assumption | decide | omega | (show _ ≤ 16777216; omega) | (show _ < 16777216; omega) | (simp only [List.length_append, List.length_cons, List.length_nil, List.length_replicate, List.length_map, List.length_take, List.length_drop, List.length_dropLast]; first | omega | (show _ ≤ 16777216; omega)))); (case s1 => (first | assumption | decide | omega)); (case s2 => (first | assumption | (refine Int.lt_of_lt_of_le (by assumption) ?_; decide) | (show _ < (_ : Int); omega) | (simp only [List.length_append, List.length_cons, List.length_nil]; omega))); intro _ _))) | ((with_reducible refine gBrn ?_); (first | with_reducible refine brn_t ?_ | with_reducible refine brn_f ?_ | with_reducible refine brn_nT ?_ | with_reducible refine brn_nF ?_ | with_reducible refine brn_nn ?_ | ((with_reducible refine' brn_dt ?s0 ?_); (case s0 => decide)) | ((with_reducible refine' brn_df ?s0 ?_); (case s0 => decide)) | ((with_reducible refine' brn_nt ?s0 ?_); (case s0 => decide)) | ((with_reducible refine' brn_nf ?s0 ?_); (case s0 => decide)))) | ((with_reducible refine gFv ?_); (first | ((with_reducible refine' fv_nextE ?s0 ?s1 ?_); (case s0 => assumption); (case s1 => (first | assumption | decide | omega)); intro _ _ _ _ _; (try dsimp only [puts, put, agI, outsOf, slOf, List.set_cons_zero, List.set_cons_succ, List.getElem?_cons_zero, List.getElem?_cons_succ, wipeR, backR, Option.getD_some, stl])) | ((with_reducible refine' fv_drawE ?s0 ?_); (case s0 => assumption); intro _ _) | with_reducible refine fv_signs ?_ | (walk_at "fn"))) | with_reducible refine ret_z ?_ | with_reducible refine ret_r ?_ | ((with_reducible refine' ret_b ?s0 ?_); (case s0 => (rfl))) | ((with_reducible refine' see2 ?s0 ?s1 ?_); (case s0 => (rfl)); (case s1 => (rfl))) | ((with_reducible refine' see1 ?s0 ?_); (case s0 => (rfl))) | ((with_reducible refine' sees ?s0 ?_); (case s0 => (rfl))) | with_reducible refine isI ?_ | with_reducible refine isB ?_ | with_reducible refine isBD ?_ | ((with_reducible refine' frzs' ?s0 (And.intro ?s1 ?_)); (case s0 => rfl); (case s1 => (first | decide | simp)); (try dsimp only [puts, put, agI, outsOf, slOf, List.set_cons_zero, List.set_cons_succ, List.getElem?_cons_zero, List.getElem?_cons_succ, wipeR, backR, Option.getD_some, stl])) | ((with_reducible refine' arg ?s0 ?s1 ?s2 ?_); (case s0 => (rfl)); (case s1 => (rfl)); (case s2 => (first | exact List.nodup_nil | exact nodup1 | simp [agI])); (try dsimp only [puts, put, agI, outsOf, slOf, List.set_cons_zero, List.set_cons_succ, List.getElem?_cons_zero, List.getElem?_cons_succ, wipeR, backR, Option.getD_some, stl])) | ((with_reducible refine' ex_asg ?s0 ?_); (case s0 => (first | rfl | assumption)); (try dsimp only [puts, put, agI, outsOf, slOf, List.set_cons_zero, List.set_cons_succ, List.getElem?_cons_zero, List.getElem?_cons_succ, wipeR, backR, Option.getD_some, stl])) | ((with_reducible refine' ex_asg' ?s0 ?_); (case s0 => (first | rfl | assumption)); (try dsimp only [puts, put, agI, outsOf, slOf, List.set_cons_zero, List.set_cons_succ, List.getElem?_cons_zero, List.getElem?_cons_succ, wipeR, backR, Option.getD_some, stl])) | ((with_reducible refine' ex_asg'' ?s0 ?_); (case s0 => (rfl)); (try dsimp only [puts, put, agI, outsOf, slOf, List.set_cons_zero, List.set_cons_succ, List.getElem?_cons_zero, List.getElem?_cons_succ, wipeR, backR, Option.getD_some, stl])) | ((with_reducible refine' ex_asgT ?s0 ?_); (case s0 => (rfl)); (try dsimp only [puts, put, agI, outsOf, slOf, List.set_cons_zero, List.set_cons_succ, List.getElem?_cons_zero, List.getElem?_cons_succ, wipeR, backR, Option.getD_some, stl])) | ((with_reducible refine' nbw_z ?_); (try dsimp only [puts, put, agI, outsOf, slOf, List.set_cons_zero, List.set_cons_succ, List.getElem?_cons_zero, List.getElem?_cons_succ, wipeR, backR, Option.getD_some, stl])) | ((with_reducible refine' nbw_r ?_); (try dsimp only [puts, put, agI, outsOf, slOf, List.set_cons_zero, List.set_cons_succ, List.getElem?_cons_zero, List.getElem?_cons_succ, wipeR, backR, Option.getD_some, stl])) | ((with_reducible refine' own_at ?s0 (And.intro ?s1 ?_)); (case s0 => rfl); (case s1 => exact ⟨_, by assumption⟩); intro _ _; (try dsimp only [puts, put, agI, outsOf, slOf, List.set_cons_zero, List.set_cons_succ, List.getElem?_cons_zero, List.getElem?_cons_succ, wipeR, backR, Option.getD_some, stl])) | ((with_reducible refine gSv ?_); (first | with_reducible refine sv_asg_s ?_ | with_reducible refine sv_nx_s ?_ | with_reducible refine sv_ret_s ?_ | with_reducible refine sv_seq_s ?_ | with_reducible refine sv_drop_s ?_ | ((with_reducible refine' sv_app_s ?s0 ?_); (case s0 => (rfl))) | ((with_reducible refine' sv_app_l ?s0 ?_); (case s0 => (rfl))) | with_reducible refine sv_asg_l ?_ | with_reducible refine sv_if_l ?_ | with_reducible refine sv_ret_l ?_ | with_reducible refine sv_nx ?_ | with_reducible refine sv_asgT_s ?_ | with_reducible refine sv_asgT_l ?_ | with_reducible refine sv_set4_s ?_))))
local macro_rules | `(tactic| walk_at "b") => `(tactic| (first | ((with_reducible refine' giv_ixl_all ?s0 ?s1 ?_); (case s0 => (first | assumption | decide | omega)); (case s1 => (first | assumption | (refine Int.lt_of_lt_of_le (by assumption) ?_; decide) | (show _ < (_ : Int); omega) | (simp only [List.length_append, List.length_cons, List.length_nil]; omega))); repeat' (first | exact all_nil | refine all_cons ?_ ?_)) | ((with_reducible refine brn_d ?_ ?_) <;> intro _ <;> (first | (exfalso; omega) | skip)) | ((with_reducible refine brn_nd ?_ ?_) <;> intro _ <;> (first | (exfalso; omega) | skip)) | ((with_reducible refine brn_c ?_ ?_) <;> intro _ <;> (first | (exfalso; omega) | contradiction | (subst_vars; contradiction) | skip))))
local macro_rules | `(tactic| walk_at "n") => `(tactic| (try dsimp only [puts, put, agI, outsOf, slOf, List.map, List.set_cons_zero, List.set_cons_succ, List.getElem?_cons_zero, List.getElem?_cons_succ, wipeR, backR, Option.getD_some, List.replicate, List.cons_append, List.nil_append, List.append_eq, List.append_nil, Nat.reduceSub, FEnd, Ret, noBw, stl]))
local macro_rules | `(tactic| walk_at "g") => `(tactic| (repeat (walk_at "s1")))
local macro_rules | `(tactic| walk_at "gS") => `(tactic| (repeat (walk_at "s2")))
local macro_rules | `(tactic| walk_at "x") => `(tactic| (repeat' (first | (walk_at "s1") | (walk_at "b"))))
local macro_rules | `(tactic| walk_at "xS") => `(tactic| (repeat' (first | (walk_at "s2") | (walk_at "b"))))
--HDREND
theorem paren_out {p : Nat} {t : T} {w : List Nat} (h : ¬ bare t < p) : paren p t w = w := if_neg h
theorem written_ok (t : T) (h : t.All Ok1) (hs : t.size ≤ 150) : ∀ n, t.depth ≤ n → ∀ p, p ≤ 3 → ∀ {Q : Vl → List (List D) → Prop}, Q (.fz (.str (paren p t (wrt t)))) [] → Fv (fx_law_written n) [.da t.D, .da (.int p)] Q := by
  induction t using T.ind with
  | h0 =>
    intro n hn p hp Q q
    obtain ⟨n, rfl⟩ : ∃ m, n = m + 1 := ⟨n - 1, by simp only [T.depth] at hn; omega⟩
    unfold fx_law_written
    refine fv_fn rfl ?_
    walk_at "n"
    unfold b_law_written
    rw [D_empty]
    rw [wrt] at q
    change Q (.fz (.str (if 1 < p then [40] ++ [] ++ [41] else []))) [] at q
    walk_at "x" <;> walk_at "n" <;> refine qstr q ?_
    · rw [if_pos (by omega)]; rfl
    · rw [if_neg (by omega)]
  | h1 s =>
    intro n hn p hp Q q
    obtain ⟨n, rfl⟩ : ∃ m, n = m + 1 := ⟨n - 1, by simp only [T.depth] at hn; omega⟩
    have hsub : s.Sublist SGN := by simp only [T.All] at h; exact h
    rw [paren_out (by show ¬ 9 < p; omega), wrt] at q
    unfold fx_law_written
    refine fv_fn rfl ?_
    walk_at "n"
    unfold b_law_written
    rw [D_set]
    walk_at "g"
    refine lset_ok hsub ?_
    walk_at "g"
    walk_at "n"
    exact q
  | h2 ts ih =>
    intro n hn p hp Q q
    obtain ⟨n, rfl⟩ : ∃ m, n = m + 1 := ⟨n - 1, by simp only [T.depth] at hn; omega⟩
    simp only [T.All] at h
    simp only [T.depth] at hn
    simp only [T.size] at hs
    have len : ∀ t ∈ ts, (wrt t).length + 10 ≤ 600 * t.size := fun t ht => wrt_len t (alls_mem.mp h.2 t ht)
    have sum := wrts_sum 2 len
    have fl : (wrts 2 ts).flatten.length ≤ 100000 := by rw [List.length_flatten]; omega
    unfold fx_law_written
    refine fv_fn rfl ?_
    walk_at "n"
    unfold b_law_written
    rw [D_seq]
    walk_at "g"
    refine ev_lcm ts T.D (fun t => .str (paren 2 t (wrt t))) rfl (by show _ ≤ 16777216; omega) ?_ ?_ ?_
    · intro Q' q'
      refine ev_isqd (xs := ts.map T.D) ?_
      walk_at "g"
      exact ⟨_, rfl, rfl, q'⟩
    · intro x hx Q' q'
      have h1 := size_mem hx
      have h2 := depth_mem hx
      have h3 := len x hx
      walk_at "g"
      refine ih x hx (alls_mem.mp h.2 x hx) (by omega) n (by omega) 2 (by omega) ?_
      walk_at "g"
      exact q'
    · walk_at "g"
      rw [show ts.map (fun t => Sw.D.str (paren 2 t (wrt t))) = (wrts 2 ts).map Sw.D.str by rw [wrts_map, List.map_map]; rfl]
      refine giv_join (by show (_ : Nat) ≤ 16777216; have : ((wrts 2 ts).map (fun x => x.length)).sum = ((wrts 2 ts).map List.length).sum := rfl; omega) ?_
      rw [wrt] at q
      change Q (.fz (.str (if 1 < p then [40] ++ (wrts 2 ts).flatten ++ [41] else (wrts 2 ts).flatten))) [] at q
      generalize (wrts 2 ts).flatten = W at fl q ⊢
      walk_at "x" <;> walk_at "n" <;> refine qstr q ?_
      · rw [if_pos (by omega)]; rfl
      · rw [if_neg (by omega)]
  | h3 ts ih =>
    intro n hn p hp Q q
    obtain ⟨n, rfl⟩ : ∃ m, n = m + 1 := ⟨n - 1, by simp only [T.depth] at hn; omega⟩
    simp only [T.All] at h
    simp only [T.depth] at hn
    simp only [T.size] at hs
    have len : ∀ t ∈ ts, (wrt t).length + 10 ≤ 600 * t.size := fun t ht => wrt_len t (alls_mem.mp h.2 t ht)
    have sum := wrts_sum 1 len
    have fl : (TL.joinL [124] (wrts 1 ts)).length ≤ 100000 := by
      have h2 : _ ≤ ((wrts 1 ts).map List.length).sum + _ := joinL_len (s := [124]) (wrts 1 ts)
      rw [wrts_len] at h2
      simp only [List.length_cons, List.length_nil] at h2
      omega
    unfold fx_law_written
    refine fv_fn rfl ?_
    walk_at "n"
    unfold b_law_written
    rw [D_alt]
    walk_at "g"
    refine ev_lcm ts T.D (fun t => .str (paren 1 t (wrt t))) rfl (by show _ ≤ 16777216; omega) ?_ ?_ ?_
    · intro Q' q'
      refine ev_isqd (xs := ts.map T.D) ?_
      walk_at "g"
      exact ⟨_, rfl, rfl, q'⟩
    · intro x hx Q' q'
      have h1 := size_mem hx
      have h2 := depth_mem hx
      have h3 := len x hx
      walk_at "g"
      refine ih x hx (alls_mem.mp h.2 x hx) (by omega) n (by omega) 1 (by omega) ?_
      walk_at "g"
      exact q'
    · walk_at "g"
      rw [show ts.map (fun t => Sw.D.str (paren 1 t (wrt t))) = (wrts 1 ts).map Sw.D.str by rw [wrts_map, List.map_map]; rfl]
      refine giv_joinb (by rw [wrts_len]; show (_ : Nat) + _ * 1 ≤ 16777216; have : ((wrts 1 ts).map (fun x => x.length)).sum = ((wrts 1 ts).map List.length).sum := rfl; omega) ?_
      rw [wrt] at q
      change Q (.fz (.str (if 0 < p then [40] ++ TL.joinL [124] (wrts 1 ts) ++ [41] else TL.joinL [124] (wrts 1 ts)))) [] at q
      generalize TL.joinL [124] (wrts 1 ts) = W at fl q ⊢
      walk_at "x" <;> walk_at "n" <;> refine qstr q ?_
      · rw [if_pos (by omega)]; rfl
      · rw [if_neg (by omega)]
  | h4 b lo hi lz ih =>
    intro n hn p hp Q q
    obtain ⟨n, rfl⟩ : ∃ m, n = m + 1 := ⟨n - 1, by simp only [T.depth] at hn; omega⟩
    simp only [T.All] at h
    simp only [T.depth] at hn
    simp only [T.size] at hs
    have len := wrt_len b h.2
    have ml := mark_len (lz := lz) h.1.1 h.1.2
    have pl := paren_len (p := 3) (t := b) (w := wrt b)
    have fl : (paren 3 b (wrt b) ++ mark lo hi lz).length ≤ 100000 := by rw [List.length_append]; omega
    unfold fx_law_written
    refine fv_fn rfl ?_
    walk_at "n"
    unfold b_law_written
    rw [D_rep]
    walk_at "g"
    refine ih h.2 (by omega) n (by omega) 3 (by omega) ?_
    walk_at "g"
    refine law_mark_ok h.1.1 h.1.2 ?_
    rw [wrt] at q
    change Q (.fz (.str (if 2 < p then [40] ++ (paren 3 b (wrt b) ++ mark lo hi lz) ++ [41] else (paren 3 b (wrt b) ++ mark lo hi lz)))) [] at q
    walk_at "gS"
    generalize paren 3 b (wrt b) ++ mark lo hi lz = W at fl q ⊢
    walk_at "x" <;> walk_at "n" <;> refine qstr q ?_
    · rw [if_pos (by omega)]; rfl
    · rw [if_neg (by omega)]
  | h5 nm b ih =>
    intro n hn p hp Q q
    obtain ⟨n, rfl⟩ : ∃ m, n = m + 1 := ⟨n - 1, by simp only [T.depth] at hn; omega⟩
    simp only [T.All] at h
    simp only [T.depth] at hn
    simp only [T.size] at hs
    have len := wrt_len b h.2
    have nl : nm.length ≤ 12 := h.1
    rw [paren_out (by show ¬ 9 < p; omega), wrt] at q
    unfold fx_law_written
    refine fv_fn rfl ?_
    walk_at "n"
    unfold b_law_written
    rw [D_group]
    walk_at "g"
    refine giv_adds (by show 4 + _ ≤ 16777216; omega) ?_
    walk_at "g"
    refine giv_adds (by rw [List.length_append]; show 4 + _ + 1 ≤ 16777216; omega) ?_
    walk_at "g"
    refine ih h.2 (by omega) n (by omega) 0 (by omega) ?_
    rw [paren_out (by omega)]
    walk_at "g"
    refine giv_adds (by rw [List.length_append, List.length_append]; show 4 + _ + 1 + _ ≤ 16777216; omega) ?_
    walk_at "g"
    refine giv_adds (by rw [List.length_append, List.length_append, List.length_append]; show 4 + _ + 1 + _ + 1 ≤ 16777216; omega) ?_
    walk_at "g"
    walk_at "n"
    exact q
  | h6 a w b ih =>
    intro n hn p hp Q q
    obtain ⟨n, rfl⟩ : ∃ m, n = m + 1 := ⟨n - 1, by simp only [T.depth] at hn; omega⟩
    simp only [T.All] at h
    simp only [T.depth] at hn
    simp only [T.size] at hs
    have len := wrt_len b h.2
    have nl := side_len a
    rw [paren_out (by show ¬ 9 < p; omega), wrt] at q
    unfold fx_law_written
    refine fv_fn rfl ?_
    walk_at "n"
    unfold b_law_written
    rw [D_look]
    cases w with
    | true =>
      walk_at "g"
      refine ih h.2 (by omega) n (by omega) 0 (by omega) ?_
      rw [paren_out (by omega)]
      walk_at "g"
      walk_at "n"
      exact q
    | false =>
      walk_at "g"
      refine giv_adds (by show 5 + _ ≤ 16777216; omega) ?_
      walk_at "g"
      refine giv_adds (by rw [List.length_append]; show 5 + _ + 1 ≤ 16777216; omega) ?_
      walk_at "g"
      refine ih h.2 (by omega) n (by omega) 0 (by omega) ?_
      rw [paren_out (by omega)]
      walk_at "g"
      refine giv_adds (by rw [List.length_append, List.length_append]; show 5 + _ + 1 + _ ≤ 16777216; omega) ?_
      walk_at "g"
      refine giv_adds (by rw [List.length_append, List.length_append, List.length_append]; show 5 + _ + 1 + _ + 1 ≤ 16777216; omega) ?_
      walk_at "g"
      walk_at "n"
      exact q
  | h7 k =>
    intro n hn p hp Q q
    obtain ⟨n, rfl⟩ : ∃ m, n = m + 1 := ⟨n - 1, by simp only [T.depth] at hn; omega⟩
    have nl : k.length ≤ 12 := by simp only [T.All] at h; exact h
    rw [paren_out (by show ¬ 9 < p; omega), wrt] at q
    unfold fx_law_written
    refine fv_fn rfl ?_
    walk_at "n"
    unfold b_law_written
    rw [D_edge]
    walk_at "g"
    walk_at "n"
    exact q
  | h8 k =>
    intro n hn p hp Q q
    obtain ⟨n, rfl⟩ : ∃ m, n = m + 1 := ⟨n - 1, by simp only [T.depth] at hn; omega⟩
    have nl : k.length ≤ 12 := by simp only [T.All] at h; exact h
    rw [paren_out (by show ¬ 9 < p; omega), wrt] at q
    unfold fx_law_written
    refine fv_fn rfl ?_
    walk_at "n"
    unfold b_law_written
    rw [D_same]
    walk_at "g"
    refine giv_adds (by show 6 + _ ≤ 16777216; omega) ?_
    walk_at "g"
    refine giv_adds (by rw [List.length_append]; show 6 + _ + 1 ≤ 16777216; omega) ?_
    walk_at "g"
    walk_at "n"
    exact q
end K10
set_option Elab.async false
set_option linter.all false
set_option maxRecDepth 100000
set_option maxHeartbeats 4000000
namespace K10
open Sw L2 Tre Runs
--HDR
local macro_rules | `(tactic| walk_at "fn") => `(tactic| (fail))
local macro_rules | `(tactic| walk_at "s1") => `(tactic| (first | ((with_reducible refine gEv ?_); (first | ((with_reducible refine' ev_tAnd_d ?s0 ?s1 ?_); (case s0 => (intro Q q; walk_at "g"; (first | exact q | exact toD_n q | exact toD_t q | exact toD_f q | exact toD_b q))); (case s1 => (intro hp Q q; walk_at "g"; (first | exact q | exact toD_n q | exact toD_t q | exact toD_f q | exact toD_b q)))) | ((with_reducible refine' ev_tOr_d ?s0 ?s1 ?_); (case s0 => (intro Q q; walk_at "g"; (first | exact q | exact toD_n q | exact toD_t q | exact toD_f q | exact toD_b q))); (case s1 => (intro hp Q q; walk_at "g"; (first | exact q | exact toD_n q | exact toD_t q | exact toD_f q | exact toD_b q)))) | with_reducible refine ev_c ?_ | ((with_reducible refine' ev_vd ?s0 ?_); (case s0 => (rfl))) | ((with_reducible refine' ev_vo ?s0 ?_); (case s0 => (rfl))) | ((with_reducible refine' ev_vi ?s0 ?_); (case s0 => (rfl))) | with_reducible refine ev_bin ?_ | with_reducible refine ev_un ?_ | with_reducible refine ev_anil ?_ | with_reducible refine ev_acons ?_ | with_reducible refine ev_blt ?_ | with_reducible refine ev_met ?_ | with_reducible refine ev_ono ?_ | with_reducible refine ev_osome ?_ | with_reducible refine ev_sl ?_ | with_reducible refine ev_tup ?_ | with_reducible refine ev_lst ?_ | with_reducible refine ev_tE ?_ | with_reducible refine ev_tyes ?_ | with_reducible refine ev_tAnd ?_ | with_reducible refine ev_tOr ?_ | with_reducible refine ev_tNot ?_ | with_reducible refine ev_eAnd ?_ | with_reducible refine ev_eOr ?_ | with_reducible refine ev_eNot ?_ | with_reducible refine ev_eIf ?_ | with_reducible refine ev_chain ?_ | with_reducible refine ev_call ?_)) | ((with_reducible refine gGiv ?_); (first | ((with_reducible refine' giv_mod ?s0 ?_); (case s0 => (first | assumption | decide | omega | (show _ ≤ 16777216; omega) | (show _ < 16777216; omega) | (simp only [List.length_append, List.length_cons, List.length_nil, List.length_replicate, List.length_map, List.length_take, List.length_drop, List.length_dropLast]; first | omega | (show _ ≤ 16777216; omega))))) | ((with_reducible refine' giv_div ?s0 ?_); (case s0 => (first | assumption | decide | omega | (show _ ≤ 16777216; omega) | (show _ < 16777216; omega) | (simp only [List.length_append, List.length_cons, List.length_nil, List.length_replicate, List.length_map, List.length_take, List.length_drop, List.length_dropLast]; first | omega | (show _ ≤ 16777216; omega))))) | ((with_reducible refine' giv_mul ?s0 ?_); (case s0 => (first | assumption | exact cMul_r (by decide) | exact cMul_r (by omega)))) | ((with_reducible refine' giv_muls ?s0 ?_); (case s0 => (first | assumption | decide | omega | (show _ ≤ 16777216; omega) | (show _ < 16777216; omega) | (simp only [List.length_append, List.length_cons, List.length_nil, List.length_replicate, List.length_map, List.length_take, List.length_drop, List.length_dropLast]; first | omega | (show _ ≤ 16777216; omega))))) | ((with_reducible refine' giv_adds ?s0 ?_); (case s0 => (first | assumption | decide | omega | (show _ ≤ 16777216; omega) | (show _ < 16777216; omega) | (simp only [List.length_append, List.length_cons, List.length_nil, List.length_replicate, List.length_map, List.length_take, List.length_drop, List.length_dropLast]; first | omega | (show _ ≤ 16777216; omega))))) | ((with_reducible refine' giv_addl ?s0 ?_); (case s0 => (first | assumption | decide | omega | (show _ ≤ 16777216; omega) | (show _ < 16777216; omega) | (simp only [List.length_append, List.length_cons, List.length_nil, List.length_replicate, List.length_map, List.length_take, List.length_drop, List.length_dropLast]; first | omega | (show _ ≤ 16777216; omega))))) | ((with_reducible refine' giv_ixl ?s0 ?_); (case s0 => (first | assumption | rfl | exact atI_zero))) | ((with_reducible refine' giv_ixt ?s0 ?_); (case s0 => (first | assumption | rfl | exact atI_zero))) | ((with_reducible refine' giv_ixs ?s0 ?s1 ?_); (case s0 => (first | assumption | decide | omega | (show _ ≤ 16777216; omega) | (show _ < 16777216; omega) | (simp only [List.length_append, List.length_cons, List.length_nil, List.length_replicate, List.length_map, List.length_take, List.length_drop, List.length_dropLast]; first | omega | (show _ ≤ 16777216; omega)))); (case s1 => (first | assumption | rfl))) | ((with_reducible refine' giv_dr4 ?s0 ?_); (case s0 => (assumption))) | ((with_reducible refine' giv_slm1 ?s0 ?_); (case s0 => (first | assumption | decide | omega | (show _ ≤ 16777216; omega) | (show _ < 16777216; omega) | (simp only [List.length_append, List.length_cons, List.length_nil, List.length_replicate, List.length_map, List.length_take, List.length_drop, List.length_dropLast]; first | omega | (show _ ≤ 16777216; omega))))) | ((with_reducible refine' giv_slt ?s0 ?s1 ?_); (case s0 => (first | assumption | decide | omega | (show _ ≤ 16777216; omega) | (show _ < 16777216; omega) | (simp only [List.length_append, List.length_cons, List.length_nil, List.length_replicate, List.length_map, List.length_take, List.length_drop, List.length_dropLast]; first | omega | (show _ ≤ 16777216; omega)))); (case s1 => (first | assumption | decide | omega))) | ((with_reducible refine' giv_sld ?s0 ?s1 ?_); (case s0 => (first | assumption | decide | omega | (show _ ≤ 16777216; omega) | (show _ < 16777216; omega) | (simp only [List.length_append, List.length_cons, List.length_nil, List.length_replicate, List.length_map, List.length_take, List.length_drop, List.length_dropLast]; first | omega | (show _ ≤ 16777216; omega)))); (case s1 => (first | assumption | decide | omega))) | ((with_reducible refine' giv_slm ?s0 ?s1 ?s2 ?_); (case s0 => (first | assumption | decide | omega | (show _ ≤ 16777216; omega) | (show _ < 16777216; omega) | (simp only [List.length_append, List.length_cons, List.length_nil, List.length_replicate, List.length_map, List.length_take, List.length_drop, List.length_dropLast]; first | omega | (show _ ≤ 16777216; omega)))); (case s1 => (first | assumption | decide | omega)); (case s2 => (first | assumption | decide | omega))) | ((with_reducible refine' giv_sltl ?s0 ?_); (case s0 => (first | assumption | decide | omega))) | ((with_reducible refine' giv_sldl ?s0 ?_); (case s0 => (first | assumption | decide | omega))) | ((with_reducible refine' giv_sls ?s0 ?_); (case s0 => (first | assumption | decide | omega | (show _ ≤ 16777216; omega) | (show _ < 16777216; omega) | (simp only [List.length_append, List.length_cons, List.length_nil, List.length_replicate, List.length_map, List.length_take, List.length_drop, List.length_dropLast]; first | omega | (show _ ≤ 16777216; omega))))) | with_reducible refine giv_sll ?_ | ((with_reducible refine' giv_lens ?s0 ?_); (case s0 => (first | assumption | decide | omega | (show _ ≤ 16777216; omega) | (show _ < 16777216; omega) | (simp only [List.length_append, List.length_cons, List.length_nil, List.length_replicate, List.length_map, List.length_take, List.length_drop, List.length_dropLast]; first | omega | (show _ ≤ 16777216; omega))))) | ((with_reducible refine' giv_revs ?s0 ?_); (case s0 => (first | assumption | decide | omega | (show _ ≤ 16777216; omega) | (show _ < 16777216; omega) | (simp only [List.length_append, List.length_cons, List.length_nil, List.length_replicate, List.length_map, List.length_take, List.length_drop, List.length_dropLast]; first | omega | (show _ ≤ 16777216; omega))))) | with_reducible refine giv_tup ?_ | with_reducible refine giv_tupt ?_ | ((with_reducible refine' giv_str ?s0 ?_); (case s0 => (first | assumption | decide | omega))) | with_reducible refine giv_strN ?_ | with_reducible refine giv_strS ?_ | with_reducible refine giv r_add1 ?_ | with_reducible refine giv r_sub ?_ | with_reducible refine giv r_lt ?_ | with_reducible refine giv r_lts ?_ | with_reducible refine giv r_le ?_ | with_reducible refine giv r_gt ?_ | with_reducible refine giv r_ge ?_ | with_reducible refine giv r_eqi ?_ | with_reducible refine giv r_eqs ?_ | with_reducible refine giv r_eqb ?_ | with_reducible refine giv r_nei ?_ | with_reducible refine giv r_nes ?_ | with_reducible refine giv r_neb ?_ | with_reducible refine giv r_isb ?_ | with_reducible refine giv r_ntb ?_ | with_reducible refine giv r_ins ?_ | with_reducible refine giv r_nis ?_ | with_reducible refine giv r_neg ?_ | with_reducible refine giv r_len2 ?_ | with_reducible refine giv r_len3 ?_ | with_reducible refine giv r_int1 ?_ | with_reducible refine giv r_fFind ?_ | with_reducible refine giv r_rev1 ?_ | with_reducible refine giv r_fIsi1 ?_ | with_reducible refine giv r_fIsi2 ?_ | with_reducible refine giv r_fIsi3 ?_ | with_reducible refine giv r_fIsi4 ?_ | with_reducible refine giv r_fIsi5 ?_ | with_reducible refine giv r_fIsi6 ?_ | with_reducible refine giv r_min2 ?_ | with_reducible refine giv r_max2 ?_ | with_reducible refine giv r_min3 ?_ | with_reducible refine giv r_isn1 ?_ | with_reducible refine giv r_isn2 ?_ | with_reducible refine giv r_isn3 ?_ | with_reducible refine giv r_isn4 ?_ | with_reducible refine giv r_isn5 ?_ | with_reducible refine giv r_ntn1 ?_ | with_reducible refine giv r_ntn2 ?_ | with_reducible refine giv r_ntn3 ?_ | with_reducible refine giv r_ntn4 ?_ | with_reducible refine giv r_ntn5 ?_ | with_reducible refine giv r_eqn1 ?_ | with_reducible refine giv r_eqn2 ?_ | ((with_reducible refine' giv ?s0 ?_); (case s0 => (first | exact (rfl : _ = some (D.bl true)) | exact (rfl : _ = some (D.bl false))))) | ((with_reducible refine' giv_ixs_all ?s0 ?s1 ?s2 ?_); (case s0 => (first | assumption | decide | omega | (show _ ≤ 16777216; omega) | (show _ < 16777216; omega) | (simp only [List.length_append, List.length_cons, List.length_nil, List.length_replicate, List.length_map, List.length_take, List.length_drop, List.length_dropLast]; first | omega | (show _ ≤ 16777216; omega)))); (case s1 => (first | assumption | decide | omega)); (case s2 => (first | assumption | (refine Int.lt_of_lt_of_le (by assumption) ?_; decide) | (show _ < (_ : Int); omega) | (simp only [List.length_append, List.length_cons, List.length_nil]; omega))); intro _ _))) | ((with_reducible refine gBrn ?_); (first | with_reducible refine brn_t ?_ | with_reducible refine brn_f ?_ | with_reducible refine brn_nT ?_ | with_reducible refine brn_nF ?_ | with_reducible refine brn_nn ?_ | ((with_reducible refine' brn_dt ?s0 ?_); (case s0 => decide)) | ((with_reducible refine' brn_df ?s0 ?_); (case s0 => decide)) | ((with_reducible refine' brn_nt ?s0 ?_); (case s0 => decide)) | ((with_reducible refine' brn_nf ?s0 ?_); (case s0 => decide)))) | ((with_reducible refine gFv ?_); (first | ((with_reducible refine' fv_nextE ?s0 ?s1 ?_); (case s0 => assumption); (case s1 => (first | assumption | decide | omega)); intro _ _ _ _ _; (try dsimp only [puts, put, agI, outsOf, slOf, List.set_cons_zero, List.set_cons_succ, List.getElem?_cons_zero, List.getElem?_cons_succ, wipeR, backR, Option.getD_some, stl])) | ((with_reducible refine' fv_drawE ?s0 ?_); (case s0 => assumption); intro _ _) | with_reducible refine fv_signs ?_ | (walk_at "fn"))) | with_reducible refine ret_z ?_ | with_reducible refine ret_r ?_ | ((with_reducible refine' ret_b ?s0 ?_); (case s0 => (rfl))) | ((with_reducible refine' see2 ?s0 ?s1 ?_); (case s0 => (rfl)); (case s1 => (rfl))) | ((with_reducible refine' see1 ?s0 ?_); (case s0 => (rfl))) | ((with_reducible refine' sees ?s0 ?_); (case s0 => (rfl))) | with_reducible refine isI ?_ | with_reducible refine isB ?_ | with_reducible refine isBD ?_ | ((with_reducible refine' frzs' ?s0 (And.intro ?s1 ?_)); (case s0 => rfl); (case s1 => (first | decide | simp)); (try dsimp only [puts, put, agI, outsOf, slOf, List.set_cons_zero, List.set_cons_succ, List.getElem?_cons_zero, List.getElem?_cons_succ, wipeR, backR, Option.getD_some, stl])) | ((with_reducible refine' arg ?s0 ?s1 ?s2 ?_); (case s0 => (rfl)); (case s1 => (rfl)); (case s2 => (first | exact List.nodup_nil | exact nodup1 | simp [agI])); (try dsimp only [puts, put, agI, outsOf, slOf, List.set_cons_zero, List.set_cons_succ, List.getElem?_cons_zero, List.getElem?_cons_succ, wipeR, backR, Option.getD_some, stl])) | ((with_reducible refine' ex_asg ?s0 ?_); (case s0 => (first | rfl | assumption)); (try dsimp only [puts, put, agI, outsOf, slOf, List.set_cons_zero, List.set_cons_succ, List.getElem?_cons_zero, List.getElem?_cons_succ, wipeR, backR, Option.getD_some, stl])) | ((with_reducible refine' ex_asg' ?s0 ?_); (case s0 => (first | rfl | assumption)); (try dsimp only [puts, put, agI, outsOf, slOf, List.set_cons_zero, List.set_cons_succ, List.getElem?_cons_zero, List.getElem?_cons_succ, wipeR, backR, Option.getD_some, stl])) | ((with_reducible refine' ex_asg'' ?s0 ?_); (case s0 => (rfl)); (try dsimp only [puts, put, agI, outsOf, slOf, List.set_cons_zero, List.set_cons_succ, List.getElem?_cons_zero, List.getElem?_cons_succ, wipeR, backR, Option.getD_some, stl])) | ((with_reducible refine' ex_asgT ?s0 ?_); (case s0 => (rfl)); (try dsimp only [puts, put, agI, outsOf, slOf, List.set_cons_zero, List.set_cons_succ, List.getElem?_cons_zero, List.getElem?_cons_succ, wipeR, backR, Option.getD_some, stl])) | ((with_reducible refine' nbw_z ?_); (try dsimp only [puts, put, agI, outsOf, slOf, List.set_cons_zero, List.set_cons_succ, List.getElem?_cons_zero, List.getElem?_cons_succ, wipeR, backR, Option.getD_some, stl])) | ((with_reducible refine' nbw_r ?_); (try dsimp only [puts, put, agI, outsOf, slOf, List.set_cons_zero, List.set_cons_succ, List.getElem?_cons_zero, List.getElem?_cons_succ, wipeR, backR, Option.getD_some, stl])) | ((with_reducible refine' own_at ?s0 (And.intro ?s1 ?_)); (case s0 => rfl); (case s1 => exact ⟨_, by assumption⟩); intro _ _; (try dsimp only [puts, put, agI, outsOf, slOf, List.set_cons_zero, List.set_cons_succ, List.getElem?_cons_zero, List.getElem?_cons_succ, wipeR, backR, Option.getD_some, stl])) | ((with_reducible refine gSv ?_); (first | with_reducible refine sv_asg_s ?_ | with_reducible refine sv_nx_s ?_ | with_reducible refine sv_if_s ?_ | with_reducible refine sv_ret_s ?_ | with_reducible refine sv_seq_s ?_ | with_reducible refine sv_drop_s ?_ | ((with_reducible refine' sv_app_s ?s0 ?_); (case s0 => (rfl))) | ((with_reducible refine' sv_app_l ?s0 ?_); (case s0 => (rfl))) | with_reducible refine sv_asg_l ?_ | with_reducible refine sv_if_l ?_ | with_reducible refine sv_ret_l ?_ | with_reducible refine sv_nx ?_ | with_reducible refine sv_asgT_s ?_ | with_reducible refine sv_asgT_l ?_ | with_reducible refine sv_set4_s ?_))))
local macro_rules | `(tactic| walk_at "s2") => `(tactic| (first | ((with_reducible refine gEv ?_); (first | ((with_reducible refine' ev_tAnd_d ?s0 ?s1 ?_); (case s0 => (intro Q q; walk_at "g"; (first | exact q | exact toD_n q | exact toD_t q | exact toD_f q | exact toD_b q))); (case s1 => (intro hp Q q; walk_at "g"; (first | exact q | exact toD_n q | exact toD_t q | exact toD_f q | exact toD_b q)))) | ((with_reducible refine' ev_tOr_d ?s0 ?s1 ?_); (case s0 => (intro Q q; walk_at "g"; (first | exact q | exact toD_n q | exact toD_t q | exact toD_f q | exact toD_b q))); (case s1 => (intro hp Q q; walk_at "g"; (first | exact q | exact toD_n q | exact toD_t q | exact toD_f q | exact toD_b q)))) | with_reducible refine ev_c ?_ | ((with_reducible refine' ev_vd ?s0 ?_); (case s0 => (rfl))) | ((with_reducible refine' ev_vo ?s0 ?_); (case s0 => (rfl))) | ((with_reducible refine' ev_vi ?s0 ?_); (case s0 => (rfl))) | with_reducible refine ev_bin ?_ | with_reducible refine ev_un ?_ | with_reducible refine ev_anil ?_ | with_reducible refine ev_acons ?_ | with_reducible refine ev_blt ?_ | with_reducible refine ev_met ?_ | with_reducible refine ev_ono ?_ | with_reducible refine ev_osome ?_ | with_reducible refine ev_sl ?_ | with_reducible refine ev_tup ?_ | with_reducible refine ev_lst ?_ | with_reducible refine ev_tE ?_ | with_reducible refine ev_tyes ?_ | with_reducible refine ev_tAnd ?_ | with_reducible refine ev_tOr ?_ | with_reducible refine ev_tNot ?_ | with_reducible refine ev_eAnd ?_ | with_reducible refine ev_eOr ?_ | with_reducible refine ev_eNot ?_ | with_reducible refine ev_eIf ?_ | with_reducible refine ev_chain ?_ | with_reducible refine ev_call ?_)) | ((with_reducible refine gGiv ?_); (first | ((with_reducible refine' giv_mod ?s0 ?_); (case s0 => (first | assumption | decide | omega | (show _ ≤ 16777216; omega) | (show _ < 16777216; omega) | (simp only [List.length_append, List.length_cons, List.length_nil, List.length_replicate, List.length_map, List.length_take, List.length_drop, List.length_dropLast]; first | omega | (show _ ≤ 16777216; omega))))) | ((with_reducible refine' giv_div ?s0 ?_); (case s0 => (first | assumption | decide | omega | (show _ ≤ 16777216; omega) | (show _ < 16777216; omega) | (simp only [List.length_append, List.length_cons, List.length_nil, List.length_replicate, List.length_map, List.length_take, List.length_drop, List.length_dropLast]; first | omega | (show _ ≤ 16777216; omega))))) | ((with_reducible refine' giv_mul ?s0 ?_); (case s0 => (first | assumption | exact cMul_r (by decide) | exact cMul_r (by omega)))) | ((with_reducible refine' giv_muls ?s0 ?_); (case s0 => (first | assumption | decide | omega | (show _ ≤ 16777216; omega) | (show _ < 16777216; omega) | (simp only [List.length_append, List.length_cons, List.length_nil, List.length_replicate, List.length_map, List.length_take, List.length_drop, List.length_dropLast]; first | omega | (show _ ≤ 16777216; omega))))) | ((with_reducible refine' giv_adds ?s0 ?_); (case s0 => (first | assumption | decide | omega | (show _ ≤ 16777216; omega) | (show _ < 16777216; omega) | (simp only [List.length_append, List.length_cons, List.length_nil, List.length_replicate, List.length_map, List.length_take, List.length_drop, List.length_dropLast]; first | omega | (show _ ≤ 16777216; omega))))) | ((with_reducible refine' giv_addl ?s0 ?_); (case s0 => (first | assumption | decide | omega | (show _ ≤ 16777216; omega) | (show _ < 16777216; omega) | (simp only [List.length_append, List.length_cons, List.length_nil, List.length_replicate, List.length_map, List.length_take, List.length_drop, List.length_dropLast]; first | omega | (show _ ≤ 16777216; omega))))) | ((with_reducible refine' giv_ixl ?s0 ?_); (case s0 => (first | assumption | rfl | exact atI_zero))) | ((with_reducible refine' giv_ixt ?s0 ?_); (case s0 => (first | assumption | rfl | exact atI_zero))) | ((with_reducible refine' giv_ixs ?s0 ?s1 ?_); (case s0 => (first | assumption | decide | omega | (show _ ≤ 16777216; omega) | (show _ < 16777216; omega) | (simp only [List.length_append, List.length_cons, List.length_nil, List.length_replicate, List.length_map, List.length_take, List.length_drop, List.length_dropLast]; first | omega | (show _ ≤ 16777216; omega)))); (case s1 => (first | assumption | rfl))) | ((with_reducible refine' giv_dr4 ?s0 ?_); (case s0 => (assumption))) | ((with_reducible refine' giv_slm1 ?s0 ?_); (case s0 => (first | assumption | decide | omega | (show _ ≤ 16777216; omega) | (show _ < 16777216; omega) | (simp only [List.length_append, List.length_cons, List.length_nil, List.length_replicate, List.length_map, List.length_take, List.length_drop, List.length_dropLast]; first | omega | (show _ ≤ 16777216; omega))))) | ((with_reducible refine' giv_slt ?s0 ?s1 ?_); (case s0 => (first | assumption | decide | omega | (show _ ≤ 16777216; omega) | (show _ < 16777216; omega) | (simp only [List.length_append, List.length_cons, List.length_nil, List.length_replicate, List.length_map, List.length_take, List.length_drop, List.length_dropLast]; first | omega | (show _ ≤ 16777216; omega)))); (case s1 => (first | assumption | decide | omega))) | ((with_reducible refine' giv_sld ?s0 ?s1 ?_); (case s0 => (first | assumption | decide | omega | (show _ ≤ 16777216; omega) | (show _ < 16777216; omega) | (simp only [List.length_append, List.length_cons, List.length_nil, List.length_replicate, List.length_map, List.length_take, List.length_drop, List.length_dropLast]; first | omega | (show _ ≤ 16777216; omega)))); (case s1 => (first | assumption | decide | omega))) | ((with_reducible refine' giv_slm ?s0 ?s1 ?s2 ?_); (case s0 => (first | assumption | decide | omega | (show _ ≤ 16777216; omega) | (show _ < 16777216; omega) | (simp only [List.length_append, List.length_cons, List.length_nil, List.length_replicate, List.length_map, List.length_take, List.length_drop, List.length_dropLast]; first | omega | (show _ ≤ 16777216; omega)))); (case s1 => (first | assumption | decide | omega)); (case s2 => (first | assumption | decide | omega))) | ((with_reducible refine' giv_sltl ?s0 ?_); (case s0 => (first | assumption | decide | omega))) | ((with_reducible refine' giv_sldl ?s0 ?_); (case s0 => (first | assumption | decide | omega))) | ((with_reducible refine' giv_sls ?s0 ?_); (case s0 => (first | assumption | decide | omega | (show _ ≤ 16777216; omega) | (show _ < 16777216; omega) | (simp only [List.length_append, List.length_cons, List.length_nil, List.length_replicate, List.length_map, List.length_take, List.length_drop, List.length_dropLast]; first | omega | (show _ ≤ 16777216; omega))))) | with_reducible refine giv_sll ?_ | ((with_reducible refine' giv_lens ?s0 ?_); (case s0 => (first | assumption | decide | omega | (show _ ≤ 16777216; omega) | (show _ < 16777216; omega) | (simp only [List.length_append, List.length_cons, List.length_nil, List.length_replicate, List.length_map, List.length_take, List.length_drop, List.length_dropLast]; first | omega | (show _ ≤ 16777216; omega))))) | ((with_reducible refine' giv_revs ?s0 ?_); (case s0 => (first | assumption | decide | omega | (show _ ≤ 16777216; omega) | (show _ < 16777216; omega) | (simp only [List.length_append, List.length_cons, List.length_nil, List.length_replicate, List.length_map, List.length_take, List.length_drop, List.length_dropLast]; first | omega | (show _ ≤ 16777216; omega))))) | with_reducible refine giv_tup ?_ | with_reducible refine giv_tupt ?_ | ((with_reducible refine' giv_str ?s0 ?_); (case s0 => (first | assumption | decide | omega))) | with_reducible refine giv_strN ?_ | with_reducible refine giv_strS ?_ | with_reducible refine giv r_add1 ?_ | with_reducible refine giv r_sub ?_ | with_reducible refine giv r_lt ?_ | with_reducible refine giv r_lts ?_ | with_reducible refine giv r_le ?_ | with_reducible refine giv r_gt ?_ | with_reducible refine giv r_ge ?_ | with_reducible refine giv r_eqi ?_ | with_reducible refine giv r_eqs ?_ | with_reducible refine giv r_eqb ?_ | with_reducible refine giv r_nei ?_ | with_reducible refine giv r_nes ?_ | with_reducible refine giv r_neb ?_ | with_reducible refine giv r_isb ?_ | with_reducible refine giv r_ntb ?_ | with_reducible refine giv r_ins ?_ | with_reducible refine giv r_nis ?_ | with_reducible refine giv r_neg ?_ | with_reducible refine giv r_len2 ?_ | with_reducible refine giv r_len3 ?_ | with_reducible refine giv r_int1 ?_ | with_reducible refine giv r_fFind ?_ | with_reducible refine giv r_rev1 ?_ | with_reducible refine giv r_fIsi1 ?_ | with_reducible refine giv r_fIsi2 ?_ | with_reducible refine giv r_fIsi3 ?_ | with_reducible refine giv r_fIsi4 ?_ | with_reducible refine giv r_fIsi5 ?_ | with_reducible refine giv r_fIsi6 ?_ | with_reducible refine giv r_min2 ?_ | with_reducible refine giv r_max2 ?_ | with_reducible refine giv r_min3 ?_ | with_reducible refine giv r_isn1 ?_ | with_reducible refine giv r_isn2 ?_ | with_reducible refine giv r_isn3 ?_ | with_reducible refine giv r_isn4 ?_ | with_reducible refine giv r_isn5 ?_ | with_reducible refine giv r_ntn1 ?_ | with_reducible refine giv r_ntn2 ?_ | with_reducible refine giv r_ntn3 ?_ | with_reducible refine giv r_ntn4 ?_ | with_reducible refine giv r_ntn5 ?_ | with_reducible refine giv r_eqn1 ?_ | with_reducible refine giv r_eqn2 ?_ | ((with_reducible refine' giv ?s0 ?_); (case s0 => (first | exact (rfl : _ = some (D.bl true)) | exact (rfl : _ = some (D.bl false))))) | ((with_reducible refine' giv_ixs_all ?s0 ?s1 ?s2 ?_); (case s0 => (first | assumption | decide | omega | (show _ ≤ 16777216; omega) | (show _ < 16777216; omega) | (simp only [List.length_append, List.length_cons, List.length_nil, List.length_replicate, List.length_map, List.length_take, List.length_drop, List.length_dropLast]; first | omega | (show _ ≤ 16777216; omega)))); (case s1 => (first | assumption | decide | omega)); (case s2 => (first | assumption | (refine Int.lt_of_lt_of_le (by assumption) ?_; decide) | (show _ < (_ : Int); omega) | (simp only [List.length_append, List.length_cons, List.length_nil]; omega))); intro _ _))) | ((with_reducible refine gBrn ?_); (first | with_reducible refine brn_t ?_ | with_reducible refine brn_f ?_ | with_reducible refine brn_nT ?_ | with_reducible refine brn_nF ?_ | with_reducible refine brn_nn ?_ | ((with_reducible refine' brn_dt ?s0 ?_); (case s0 => decide)) | ((with_reducible refine' brn_df ?s0 ?_); (case s0 => decide)) | ((with_reducible refine' brn_nt ?s0 ?_); (case s0 => decide)) | ((with_reducible refine' brn_nf ?s0 ?_); (case s0 => decide)))) | ((with_reducible refine gFv ?_); (first | ((with_reducible refine' fv_nextE ?s0 ?s1 ?_); (case s0 => assumption); (case s1 => (first | assumption | decide | omega)); intro _ _ _ _ _; (try dsimp only [puts, put, agI, outsOf, slOf, List.set_cons_zero, List.set_cons_succ, List.getElem?_cons_zero, List.getElem?_cons_succ, wipeR, backR, Option.getD_some, stl])) | ((with_reducible refine' fv_drawE ?s0 ?_); (case s0 => assumption); intro _ _) | with_reducible refine fv_signs ?_ | (walk_at "fn"))) | with_reducible refine ret_z ?_ | with_reducible refine ret_r ?_ | ((with_reducible refine' ret_b ?s0 ?_); (case s0 => (rfl))) | ((with_reducible refine' see2 ?s0 ?s1 ?_); (case s0 => (rfl)); (case s1 => (rfl))) | ((with_reducible refine' see1 ?s0 ?_); (case s0 => (rfl))) | ((with_reducible refine' sees ?s0 ?_); (case s0 => (rfl))) | with_reducible refine isI ?_ | with_reducible refine isB ?_ | with_reducible refine isBD ?_ | ((with_reducible refine' frzs' ?s0 (And.intro ?s1 ?_)); (case s0 => rfl); (case s1 => (first | decide | simp)); (try dsimp only [puts, put, agI, outsOf, slOf, List.set_cons_zero, List.set_cons_succ, List.getElem?_cons_zero, List.getElem?_cons_succ, wipeR, backR, Option.getD_some, stl])) | ((with_reducible refine' arg ?s0 ?s1 ?s2 ?_); (case s0 => (rfl)); (case s1 => (rfl)); (case s2 => (first | exact List.nodup_nil | exact nodup1 | simp [agI])); (try dsimp only [puts, put, agI, outsOf, slOf, List.set_cons_zero, List.set_cons_succ, List.getElem?_cons_zero, List.getElem?_cons_succ, wipeR, backR, Option.getD_some, stl])) | ((with_reducible refine' ex_asg ?s0 ?_); (case s0 => (first | rfl | assumption)); (try dsimp only [puts, put, agI, outsOf, slOf, List.set_cons_zero, List.set_cons_succ, List.getElem?_cons_zero, List.getElem?_cons_succ, wipeR, backR, Option.getD_some, stl])) | ((with_reducible refine' ex_asg' ?s0 ?_); (case s0 => (first | rfl | assumption)); (try dsimp only [puts, put, agI, outsOf, slOf, List.set_cons_zero, List.set_cons_succ, List.getElem?_cons_zero, List.getElem?_cons_succ, wipeR, backR, Option.getD_some, stl])) | ((with_reducible refine' ex_asg'' ?s0 ?_); (case s0 => (rfl)); (try dsimp only [puts, put, agI, outsOf, slOf, List.set_cons_zero, List.set_cons_succ, List.getElem?_cons_zero, List.getElem?_cons_succ, wipeR, backR, Option.getD_some, stl])) | ((with_reducible refine' ex_asgT ?s0 ?_); (case s0 => (rfl)); (try dsimp only [puts, put, agI, outsOf, slOf, List.set_cons_zero, List.set_cons_succ, List.getElem?_cons_zero, List.getElem?_cons_succ, wipeR, backR, Option.getD_some, stl])) | ((with_reducible refine' nbw_z ?_); (try dsimp only [puts, put, agI, outsOf, slOf, List.set_cons_zero, List.set_cons_succ, List.getElem?_cons_zero, List.getElem?_cons_succ, wipeR, backR, Option.getD_some, stl])) | ((with_reducible refine' nbw_r ?_); (try dsimp only [puts, put, agI, outsOf, slOf, List.set_cons_zero, List.set_cons_succ, List.getElem?_cons_zero, List.getElem?_cons_succ, wipeR, backR, Option.getD_some, stl])) | ((with_reducible refine' own_at ?s0 (And.intro ?s1 ?_)); (case s0 => rfl); (case s1 => exact ⟨_, by assumption⟩); intro _ _; (try dsimp only [puts, put, agI, outsOf, slOf, List.set_cons_zero, List.set_cons_succ, List.getElem?_cons_zero, List.getElem?_cons_succ, wipeR, backR, Option.getD_some, stl])) | ((with_reducible refine gSv ?_); (first | with_reducible refine sv_asg_s ?_ | with_reducible refine sv_nx_s ?_ | with_reducible refine sv_ret_s ?_ | with_reducible refine sv_seq_s ?_ | with_reducible refine sv_drop_s ?_ | ((with_reducible refine' sv_app_s ?s0 ?_); (case s0 => (rfl))) | ((with_reducible refine' sv_app_l ?s0 ?_); (case s0 => (rfl))) | with_reducible refine sv_asg_l ?_ | with_reducible refine sv_if_l ?_ | with_reducible refine sv_ret_l ?_ | with_reducible refine sv_nx ?_ | with_reducible refine sv_asgT_s ?_ | with_reducible refine sv_asgT_l ?_ | with_reducible refine sv_set4_s ?_))))
local macro_rules | `(tactic| walk_at "b") => `(tactic| (first | ((with_reducible refine' giv_ixl_all ?s0 ?s1 ?_); (case s0 => (first | assumption | decide | omega)); (case s1 => (first | assumption | (refine Int.lt_of_lt_of_le (by assumption) ?_; decide) | (show _ < (_ : Int); omega) | (simp only [List.length_append, List.length_cons, List.length_nil]; omega))); repeat' (first | exact all_nil | refine all_cons ?_ ?_)) | ((with_reducible refine brn_d ?_ ?_) <;> intro _ <;> (first | (exfalso; omega) | skip)) | ((with_reducible refine brn_nd ?_ ?_) <;> intro _ <;> (first | (exfalso; omega) | skip)) | ((with_reducible refine brn_c ?_ ?_) <;> intro _ <;> (first | (exfalso; omega) | contradiction | (subst_vars; contradiction) | skip))))
local macro_rules | `(tactic| walk_at "n") => `(tactic| (try dsimp only [puts, put, agI, outsOf, slOf, List.map, List.set_cons_zero, List.set_cons_succ, List.getElem?_cons_zero, List.getElem?_cons_succ, wipeR, backR, Option.getD_some, List.replicate, List.cons_append, List.nil_append, List.append_eq, List.append_nil, Nat.reduceSub, FEnd, Ret, noBw, stl]))
local macro_rules | `(tactic| walk_at "g") => `(tactic| (repeat (walk_at "s1")))
local macro_rules | `(tactic| walk_at "gS") => `(tactic| (repeat (walk_at "s2")))
local macro_rules | `(tactic| walk_at "x") => `(tactic| (repeat' (first | (walk_at "s1") | (walk_at "b"))))
local macro_rules | `(tactic| walk_at "xS") => `(tactic| (repeat' (first | (walk_at "s2") | (walk_at "b"))))
--HDREND
def NmOk (n : List Nat) : Prop := 1 ≤ n.length ∧ n.length ≤ 12
theorem any_name_ok {xs : List D} {e : Int} (hd : DrE e xs) {Q : Vl → List (List D) → Prop} (q : ∀ n ys, NmOk n → DrE e ys → Q (.fz (.str n)) [ys]) : Fv f_law_any_name [.li xs] Q := by
  refine fv_fn rfl ?_
  walk_at "n"
  unfold b_law_any_name
  rw [next_eq]
  walk_at "g"
  refine brn_d (fun _ => ?_) (fun _ => ?_)
  · walk_at "g"
    simp only [List.cons_append, List.nil_append]
    walk_at "x" <;> walk_at "n" <;> exact q _ _ ⟨by decide, by decide⟩ (by assumption)
  · walk_at "gS"
    rename_i c _ _
    refine sv_then (fun ρ => ∃ ys n x2 x4, DrE e ys ∧ NmOk n ∧ ρ = [.io ys, .d (.str tx_abcdefghijklmn3), x2, .d (.str n), x4])
      (sv_for (fun k ρ => ∃ ys n x2 x4, DrE e ys ∧ n.length = k + 1 ∧ ρ = [.io ys, .d (.str tx_abcdefghijklmn3), x2, .d (.str n), x4] ∧ ioQ (some x2) = false ∧ ioQ (some x4) = false) (ev_ir1 ?_)) ?_
    · walk_at "g"
      refine ⟨_, rfl, by omega, by omega, ⟨_, _, _, _, by assumption, rfl, rfl, rfl, rfl⟩, ?_, ?_⟩
      · rintro i y hy ρ ⟨ys, n, x2, x4, hd, nl, rfl, h2, h4⟩
        obtain ⟨hi, rfl⟩ := rngL_get hy
        refine ⟨_, asg_z (by exact h4), ?_⟩
        walk_at "n"
        walk_at "g"
        exact ⟨_, _, _, _, by assumption, by rw [List.length_append, nl]; rfl, rfl, h2, rfl⟩
      · rintro ρ ⟨ys, n, x2, x4, hd, nl, rfl, _⟩
        rw [rngL_len] at nl
        exact ⟨ys, n, x2, x4, hd, ⟨by omega, by omega⟩, rfl⟩
    · rintro ρ ⟨ys, n, x2, x4, hd, hn, rfl⟩
      walk_at "g"
      walk_at "n"
      exact q n ys hn hd
theorem near_name_ok {xs : List D} {e : Int} {n : List Nat} (hd : DrE e xs) (hn : NmOk n) {Q : Vl → List (List D) → Prop} (q : ∀ n ys, NmOk n → DrE e ys → Q (.fz (.str n)) [ys]) : Fv f_law_near_name [.li xs, .da (.str n)] Q := by
  obtain ⟨n1, n2⟩ := hn
  refine fv_fn rfl ?_
  walk_at "n"
  unfold b_law_near_name
  rw [next_eq]
  walk_at "x" <;> walk_at "n"
  all_goals (refine q _ _ ⟨?_, ?_⟩ (by assumption) <;> simp only [List.length_append, List.length_cons, List.length_nil, List.length_take, List.length_drop, List.length_dropLast] <;> omega)
theorem group_name_ok {xs : List D} {e : Int} {ks : List (List Nat)} (hd : DrE e xs) (hk : ∀ k ∈ ks, NmOk k) {Q : Vl → List (List D) → Prop} (q : ∀ n ys, NmOk n → DrE e ys → Q (.fz (.str n)) [ys, ks.map D.str]) : Fv f_law_group_name_v11 [.li xs, .li (ks.map D.str)] Q := by
  refine fv_fn rfl ?_
  walk_at "n"
  unfold b_law_group_name_v11
  rw [next_eq]
  have any : ∀ ys x, DrE e ys → Sv (sRet (eCall f_law_any_name [true] (aCons (eVar 0) aNil))) [.io ys, .io (ks.map D.str), .d x, .no] (FEnd Q [.li xs, .li (ks.map D.str)]) := by
    intro ys x hd
    walk_at "g"
    refine any_name_ok hd fun n y1 hn hd1 => ?_
    walk_at "g"
    walk_at "n"
    exact q n y1 hn hd1
  walk_at "g"
  refine brn_d (fun z => ?_) (fun z => sv_nx_s (any _ _ (by assumption)))
  rw [List.length_map] at z
  walk_at "g"
  refine fv_nextE (by assumption) (by rw [List.length_map]; exact z.1) ?_
  intro r ys r0 r1 hd2
  rw [List.length_map] at r1
  walk_at "g"
  obtain ⟨k, hk1, hk2⟩ := atI_mem (xs := ks.map D.str) r0 (by rw [List.length_map]; exact r1)
  obtain ⟨n, hn, rfl⟩ := List.mem_map.mp hk1
  refine giv_ixl hk2 ?_
  walk_at "x"
  · walk_at "n"
    exact q n ys (hk n hn) hd2
  · refine near_name_ok hd2 (hk n hn) fun n y1 hn hd1 => ?_
    walk_at "g"
    walk_at "n"
    exact q n y1 hn hd1
theorem words_ok {Q : Vl → List (List D) → Prop} (q : Q (.fz (.str tx_0123456789abcd2)) []) : Fv f_law_words [] Q := by
  refine fv_fn rfl ?_
  walk_at "n"
  unfold b_law_words
  walk_at "g"
  walk_at "n"
  exact q
theorem some_set_ok {xs : List D} {e : Int} (hd : DrE e xs) {Q : Vl → List (List D) → Prop} (q : ∀ s ys, s.Sublist SGN → DrE e ys → Q (.fz (.str s)) [ys]) : Fv f_law_some_set [.li xs] Q := by
  have hS := K09.SGN_lim
  have hS' : SGN.length = 96 := SGN_len
  refine fv_fn rfl ?_
  walk_at "n"
  unfold b_law_some_set
  rw [next_eq, signs_eq]
  walk_at "g"
  refine brn_d (fun _ => ?_) (fun _ => ?_)
  · walk_at "x"
    walk_at "n"
    exact q _ _ (List.singleton_sublist.mpr (by assumption)) (by assumption)
  walk_at "g"
  refine brn_d (fun _ => ?_) (fun _ => ?_)
  · walk_at "x"
    walk_at "n"
    exact q _ _ (List.singleton_sublist.mpr ((show ∀ c ∈ tx_3, c ∈ SGN by decide) _ (by assumption))) (by assumption)
  walk_at "g"
  refine brn_d (fun _ => ?_) (fun _ => ?_)
  · walk_at "x" <;> walk_at "n"
    · exact q _ _ (List.nil_sublist _) (by assumption)
    · exact q _ _ (List.Sublist.refl _) (by assumption)
    · exact q _ _ (by decide) (by assumption)
  walk_at "g"
  refine brn_d (fun _ => ?_) (fun _ => ?_)
  · walk_at "g"
    refine words_ok ?_
    walk_at "x" <;> walk_at "n" <;> exact q _ _ (by decide) (by assumption)
  walk_at "gS"
  rename_i r ys _ _ hd _ _ _ _
  refine sv_then (fun ρ => ∃ ys ch x4 x6, DrE e ys ∧ ρ = [.io ys, .d (.str SGN), .d (.int r), .d (.str ch), x4, .no, x6, .no])
    (sv_for (fun k ρ => ∃ ys ch x4 x6, DrE e ys ∧ ch.length ≤ 96 * k ∧ ρ = [.io ys, .d (.str SGN), .d (.int r), .d (.str ch), x4, .no, x6, .no] ∧ ioQ (some x4) = false ∧ ioQ (some x6) = false) (ev_ir1 ?_)) ?_
  · walk_at "g"
    refine ⟨_, rfl, by omega, by omega, ⟨_, _, _, _, by assumption, Nat.le_refl _, rfl, rfl, rfl⟩, ?_, ?_⟩
    · rintro i y hy ρ ⟨ys, ch, x4, x6, hd, cl, rfl, h4, h6⟩
      obtain ⟨hi, rfl⟩ := rngL_get hy
      refine ⟨_, asg_z (by exact h4), ?_⟩
      walk_at "n"
      walk_at "g"
      exact ⟨_, _, _, _, by assumption, by simp only [List.length_append, List.length_take, List.length_drop]; omega, rfl, rfl, rfl⟩
    · rintro ρ ⟨ys, ch, x4, x6, hd, cl, rfl, _⟩
      exact ⟨ys, ch, x4, x6, hd, rfl⟩
  · rintro ρ ⟨ys, ch, x4, x6, hd, rfl⟩
    walk_at "gS"
    rename_i fl y2 _ _ hd2
    refine ev_lcf SGN (fun c => .str [c]) (fun c => !decide (decide (c ∈ ch) = decide (fl = 0))) (fun c => .str [c]) rfl hS ?_ ?_ ?_ ?_
    · intro Q' q'
      refine ev_isqd (xs := SGN.map fun c => .str [c]) ?_
      walk_at "g"
      exact ⟨_, rfl, rfl, q'⟩
    · intro c hc Q' q'
      walk_at "g"
      exact q'
    · intro c hc _ Q' q'
      walk_at "g"
      exact q'
    · walk_at "g"
      have fs : (SGN.filter fun c => !decide (decide (c ∈ ch) = decide (fl = 0))).Sublist SGN := List.filter_sublist
      have fl2 := fs.length_le
      refine giv (join_signs (Nat.le_trans fl2 hS)) ?_
      walk_at "g"
      walk_at "n"
      exact q _ _ fs hd2
end K10
set_option Elab.async false
set_option linter.all false
set_option maxRecDepth 100000
set_option maxHeartbeats 4000000
namespace K10
open Sw L2 Tre Runs
--HDR
local macro_rules | `(tactic| walk_at "fn") => `(tactic| (fail))
local macro_rules | `(tactic| walk_at "s1") => `(tactic| (first | ((with_reducible refine gEv ?_); (first | ((with_reducible refine' ev_tAnd_d ?s0 ?s1 ?_); (case s0 => (intro Q q; walk_at "g"; (first | exact q | exact toD_n q | exact toD_t q | exact toD_f q | exact toD_b q))); (case s1 => (intro hp Q q; walk_at "g"; (first | exact q | exact toD_n q | exact toD_t q | exact toD_f q | exact toD_b q)))) | ((with_reducible refine' ev_tOr_d ?s0 ?s1 ?_); (case s0 => (intro Q q; walk_at "g"; (first | exact q | exact toD_n q | exact toD_t q | exact toD_f q | exact toD_b q))); (case s1 => (intro hp Q q; walk_at "g"; (first | exact q | exact toD_n q | exact toD_t q | exact toD_f q | exact toD_b q)))) | with_reducible refine ev_c ?_ | ((with_reducible refine' ev_vd ?s0 ?_); (case s0 => (rfl))) | ((with_reducible refine' ev_vo ?s0 ?_); (case s0 => (rfl))) | ((with_reducible refine' ev_vi ?s0 ?_); (case s0 => (rfl))) | with_reducible refine ev_bin ?_ | with_reducible refine ev_un ?_ | with_reducible refine ev_anil ?_ | with_reducible refine ev_acons ?_ | with_reducible refine ev_blt ?_ | with_reducible refine ev_met ?_ | with_reducible refine ev_ono ?_ | with_reducible refine ev_osome ?_ | with_reducible refine ev_sl ?_ | with_reducible refine ev_tup ?_ | with_reducible refine ev_lst ?_ | with_reducible refine ev_tE ?_ | with_reducible refine ev_tyes ?_ | with_reducible refine ev_tAnd ?_ | with_reducible refine ev_tOr ?_ | with_reducible refine ev_tNot ?_ | with_reducible refine ev_eAnd ?_ | with_reducible refine ev_eOr ?_ | with_reducible refine ev_eNot ?_ | with_reducible refine ev_eIf ?_ | with_reducible refine ev_chain ?_ | with_reducible refine ev_call ?_)) | ((with_reducible refine gGiv ?_); (first | ((with_reducible refine' giv_mod ?s0 ?_); (case s0 => (first | assumption | decide | omega | (show _ ≤ 16777216; omega) | (show _ < 16777216; omega) | (simp only [List.length_append, List.length_cons, List.length_nil, List.length_replicate, List.length_map, List.length_take, List.length_drop, List.length_dropLast]; first | omega | (show _ ≤ 16777216; omega))))) | ((with_reducible refine' giv_div ?s0 ?_); (case s0 => (first | assumption | decide | omega | (show _ ≤ 16777216; omega) | (show _ < 16777216; omega) | (simp only [List.length_append, List.length_cons, List.length_nil, List.length_replicate, List.length_map, List.length_take, List.length_drop, List.length_dropLast]; first | omega | (show _ ≤ 16777216; omega))))) | ((with_reducible refine' giv_mul ?s0 ?_); (case s0 => (first | assumption | exact cMul_r (by decide) | exact cMul_r (by omega)))) | ((with_reducible refine' giv_muls ?s0 ?_); (case s0 => (first | assumption | decide | omega | (show _ ≤ 16777216; omega) | (show _ < 16777216; omega) | (simp only [List.length_append, List.length_cons, List.length_nil, List.length_replicate, List.length_map, List.length_take, List.length_drop, List.length_dropLast]; first | omega | (show _ ≤ 16777216; omega))))) | ((with_reducible refine' giv_adds ?s0 ?_); (case s0 => (first | assumption | decide | omega | (show _ ≤ 16777216; omega) | (show _ < 16777216; omega) | (simp only [List.length_append, List.length_cons, List.length_nil, List.length_replicate, List.length_map, List.length_take, List.length_drop, List.length_dropLast]; first | omega | (show _ ≤ 16777216; omega))))) | ((with_reducible refine' giv_addl ?s0 ?_); (case s0 => (first | assumption | decide | omega | (show _ ≤ 16777216; omega) | (show _ < 16777216; omega) | (simp only [List.length_append, List.length_cons, List.length_nil, List.length_replicate, List.length_map, List.length_take, List.length_drop, List.length_dropLast]; first | omega | (show _ ≤ 16777216; omega))))) | ((with_reducible refine' giv_ixl ?s0 ?_); (case s0 => (first | assumption | rfl | exact atI_zero))) | ((with_reducible refine' giv_ixt ?s0 ?_); (case s0 => (first | assumption | rfl | exact atI_zero))) | ((with_reducible refine' giv_ixs ?s0 ?s1 ?_); (case s0 => (first | assumption | decide | omega | (show _ ≤ 16777216; omega) | (show _ < 16777216; omega) | (simp only [List.length_append, List.length_cons, List.length_nil, List.length_replicate, List.length_map, List.length_take, List.length_drop, List.length_dropLast]; first | omega | (show _ ≤ 16777216; omega)))); (case s1 => (first | assumption | rfl))) | ((with_reducible refine' giv_dr4 ?s0 ?_); (case s0 => (assumption))) | ((with_reducible refine' giv_slm1 ?s0 ?_); (case s0 => (first | assumption | decide | omega | (show _ ≤ 16777216; omega) | (show _ < 16777216; omega) | (simp only [List.length_append, List.length_cons, List.length_nil, List.length_replicate, List.length_map, List.length_take, List.length_drop, List.length_dropLast]; first | omega | (show _ ≤ 16777216; omega))))) | ((with_reducible refine' giv_slt ?s0 ?s1 ?_); (case s0 => (first | assumption | decide | omega | (show _ ≤ 16777216; omega) | (show _ < 16777216; omega) | (simp only [List.length_append, List.length_cons, List.length_nil, List.length_replicate, List.length_map, List.length_take, List.length_drop, List.length_dropLast]; first | omega | (show _ ≤ 16777216; omega)))); (case s1 => (first | assumption | decide | omega))) | ((with_reducible refine' giv_sld ?s0 ?s1 ?_); (case s0 => (first | assumption | decide | omega | (show _ ≤ 16777216; omega) | (show _ < 16777216; omega) | (simp only [List.length_append, List.length_cons, List.length_nil, List.length_replicate, List.length_map, List.length_take, List.length_drop, List.length_dropLast]; first | omega | (show _ ≤ 16777216; omega)))); (case s1 => (first | assumption | decide | omega))) | ((with_reducible refine' giv_slm ?s0 ?s1 ?s2 ?_); (case s0 => (first | assumption | decide | omega | (show _ ≤ 16777216; omega) | (show _ < 16777216; omega) | (simp only [List.length_append, List.length_cons, List.length_nil, List.length_replicate, List.length_map, List.length_take, List.length_drop, List.length_dropLast]; first | omega | (show _ ≤ 16777216; omega)))); (case s1 => (first | assumption | decide | omega)); (case s2 => (first | assumption | decide | omega))) | ((with_reducible refine' giv_sltl ?s0 ?_); (case s0 => (first | assumption | decide | omega))) | ((with_reducible refine' giv_sldl ?s0 ?_); (case s0 => (first | assumption | decide | omega))) | ((with_reducible refine' giv_sls ?s0 ?_); (case s0 => (first | assumption | decide | omega | (show _ ≤ 16777216; omega) | (show _ < 16777216; omega) | (simp only [List.length_append, List.length_cons, List.length_nil, List.length_replicate, List.length_map, List.length_take, List.length_drop, List.length_dropLast]; first | omega | (show _ ≤ 16777216; omega))))) | with_reducible refine giv_sll ?_ | ((with_reducible refine' giv_lens ?s0 ?_); (case s0 => (first | assumption | decide | omega | (show _ ≤ 16777216; omega) | (show _ < 16777216; omega) | (simp only [List.length_append, List.length_cons, List.length_nil, List.length_replicate, List.length_map, List.length_take, List.length_drop, List.length_dropLast]; first | omega | (show _ ≤ 16777216; omega))))) | ((with_reducible refine' giv_revs ?s0 ?_); (case s0 => (first | assumption | decide | omega | (show _ ≤ 16777216; omega) | (show _ < 16777216; omega) | (simp only [List.length_append, List.length_cons, List.length_nil, List.length_replicate, List.length_map, List.length_take, List.length_drop, List.length_dropLast]; first | omega | (show _ ≤ 16777216; omega))))) | with_reducible refine giv_tup ?_ | with_reducible refine giv_tupt ?_ | ((with_reducible refine' giv_str ?s0 ?_); (case s0 => (first | assumption | decide | omega))) | with_reducible refine giv_strN ?_ | with_reducible refine giv_strS ?_ | with_reducible refine giv r_add1 ?_ | with_reducible refine giv r_sub ?_ | with_reducible refine giv r_lt ?_ | with_reducible refine giv r_lts ?_ | with_reducible refine giv r_le ?_ | with_reducible refine giv r_gt ?_ | with_reducible refine giv r_ge ?_ | with_reducible refine giv r_eqi ?_ | with_reducible refine giv r_eqs ?_ | with_reducible refine giv r_eqb ?_ | with_reducible refine giv r_nei ?_ | with_reducible refine giv r_nes ?_ | with_reducible refine giv r_neb ?_ | with_reducible refine giv r_isb ?_ | with_reducible refine giv r_ntb ?_ | with_reducible refine giv r_ins ?_ | with_reducible refine giv r_nis ?_ | with_reducible refine giv r_neg ?_ | with_reducible refine giv r_len2 ?_ | with_reducible refine giv r_len3 ?_ | with_reducible refine giv r_int1 ?_ | with_reducible refine giv r_fFind ?_ | with_reducible refine giv r_rev1 ?_ | with_reducible refine giv r_fIsi1 ?_ | with_reducible refine giv r_fIsi2 ?_ | with_reducible refine giv r_fIsi3 ?_ | with_reducible refine giv r_fIsi4 ?_ | with_reducible refine giv r_fIsi5 ?_ | with_reducible refine giv r_fIsi6 ?_ | with_reducible refine giv r_min2 ?_ | with_reducible refine giv r_max2 ?_ | with_reducible refine giv r_min3 ?_ | with_reducible refine giv r_isn1 ?_ | with_reducible refine giv r_isn2 ?_ | with_reducible refine giv r_isn3 ?_ | with_reducible refine giv r_isn4 ?_ | with_reducible refine giv r_isn5 ?_ | with_reducible refine giv r_ntn1 ?_ | with_reducible refine giv r_ntn2 ?_ | with_reducible refine giv r_ntn3 ?_ | with_reducible refine giv r_ntn4 ?_ | with_reducible refine giv r_ntn5 ?_ | with_reducible refine giv r_eqn1 ?_ | with_reducible refine giv r_eqn2 ?_ | ((with_reducible refine' giv ?s0 ?_); (case s0 => (first | exact (rfl : _ = some (D.bl true)) | exact (rfl : _ = some (D.bl false))))) | ((with_reducible refine' giv_ixs_all ?s0 ?s1 ?s2 ?_); (case s0 => (first | assumption | decide | omega | (show _ ≤ 16777216; omega) | (show _ < 16777216; omega) | (simp only [List.length_append, List.length_cons, List.length_nil, List.length_replicate, List.length_map, List.length_take, List.length_drop, List.length_dropLast]; first | omega | (show _ ≤ 16777216; omega)))); (case s1 => (first | assumption | decide | omega)); (case s2 => (first | assumption | (refine Int.lt_of_lt_of_le (by assumption) ?_; decide) | (show _ < (_ : Int); omega) | (simp only [List.length_append, List.length_cons, List.length_nil]; omega))); intro _ _))) | ((with_reducible refine gBrn ?_); (first | with_reducible refine brn_t ?_ | with_reducible refine brn_f ?_ | with_reducible refine brn_nT ?_ | with_reducible refine brn_nF ?_ | with_reducible refine brn_nn ?_ | ((with_reducible refine' brn_dt ?s0 ?_); (case s0 => decide)) | ((with_reducible refine' brn_df ?s0 ?_); (case s0 => decide)) | ((with_reducible refine' brn_nt ?s0 ?_); (case s0 => decide)) | ((with_reducible refine' brn_nf ?s0 ?_); (case s0 => decide)))) | ((with_reducible refine gFv ?_); (first | ((with_reducible refine' fv_nextE ?s0 ?s1 ?_); (case s0 => assumption); (case s1 => (first | assumption | decide | omega)); intro _ _ _ _ _; (try dsimp only [puts, put, agI, outsOf, slOf, List.set_cons_zero, List.set_cons_succ, List.getElem?_cons_zero, List.getElem?_cons_succ, wipeR, backR, Option.getD_some, stl])) | ((with_reducible refine' fv_drawE ?s0 ?_); (case s0 => assumption); intro _ _) | with_reducible refine fv_signs ?_ | (walk_at "fn"))) | with_reducible refine ret_z ?_ | with_reducible refine ret_r ?_ | ((with_reducible refine' ret_b ?s0 ?_); (case s0 => (rfl))) | ((with_reducible refine' see2 ?s0 ?s1 ?_); (case s0 => (rfl)); (case s1 => (rfl))) | ((with_reducible refine' see1 ?s0 ?_); (case s0 => (rfl))) | ((with_reducible refine' sees ?s0 ?_); (case s0 => (rfl))) | with_reducible refine isI ?_ | with_reducible refine isB ?_ | with_reducible refine isBD ?_ | ((with_reducible refine' frzs' ?s0 (And.intro ?s1 ?_)); (case s0 => rfl); (case s1 => (first | decide | simp)); (try dsimp only [puts, put, agI, outsOf, slOf, List.set_cons_zero, List.set_cons_succ, List.getElem?_cons_zero, List.getElem?_cons_succ, wipeR, backR, Option.getD_some, stl])) | ((with_reducible refine' arg ?s0 ?s1 ?s2 ?_); (case s0 => (rfl)); (case s1 => (rfl)); (case s2 => (first | exact List.nodup_nil | exact nodup1 | simp [agI])); (try dsimp only [puts, put, agI, outsOf, slOf, List.set_cons_zero, List.set_cons_succ, List.getElem?_cons_zero, List.getElem?_cons_succ, wipeR, backR, Option.getD_some, stl])) | ((with_reducible refine' ex_asg ?s0 ?_); (case s0 => (first | rfl | assumption)); (try dsimp only [puts, put, agI, outsOf, slOf, List.set_cons_zero, List.set_cons_succ, List.getElem?_cons_zero, List.getElem?_cons_succ, wipeR, backR, Option.getD_some, stl])) | ((with_reducible refine' ex_asg' ?s0 ?_); (case s0 => (first | rfl | assumption)); (try dsimp only [puts, put, agI, outsOf, slOf, List.set_cons_zero, List.set_cons_succ, List.getElem?_cons_zero, List.getElem?_cons_succ, wipeR, backR, Option.getD_some, stl])) | ((with_reducible refine' ex_asg'' ?s0 ?_); (case s0 => (rfl)); (try dsimp only [puts, put, agI, outsOf, slOf, List.set_cons_zero, List.set_cons_succ, List.getElem?_cons_zero, List.getElem?_cons_succ, wipeR, backR, Option.getD_some, stl])) | ((with_reducible refine' ex_asgT ?s0 ?_); (case s0 => (rfl)); (try dsimp only [puts, put, agI, outsOf, slOf, List.set_cons_zero, List.set_cons_succ, List.getElem?_cons_zero, List.getElem?_cons_succ, wipeR, backR, Option.getD_some, stl])) | ((with_reducible refine' nbw_z ?_); (try dsimp only [puts, put, agI, outsOf, slOf, List.set_cons_zero, List.set_cons_succ, List.getElem?_cons_zero, List.getElem?_cons_succ, wipeR, backR, Option.getD_some, stl])) | ((with_reducible refine' nbw_r ?_); (try dsimp only [puts, put, agI, outsOf, slOf, List.set_cons_zero, List.set_cons_succ, List.getElem?_cons_zero, List.getElem?_cons_succ, wipeR, backR, Option.getD_some, stl])) | ((with_reducible refine' own_at ?s0 (And.intro ?s1 ?_)); (case s0 => rfl); (case s1 => exact ⟨_, by assumption⟩); intro _ _; (try dsimp only [puts, put, agI, outsOf, slOf, List.set_cons_zero, List.set_cons_succ, List.getElem?_cons_zero, List.getElem?_cons_succ, wipeR, backR, Option.getD_some, stl])) | ((with_reducible refine gSv ?_); (first | with_reducible refine sv_asg_s ?_ | with_reducible refine sv_nx_s ?_ | with_reducible refine sv_if_s ?_ | with_reducible refine sv_ret_s ?_ | with_reducible refine sv_seq_s ?_ | with_reducible refine sv_drop_s ?_ | ((with_reducible refine' sv_app_s ?s0 ?_); (case s0 => (rfl))) | ((with_reducible refine' sv_app_l ?s0 ?_); (case s0 => (rfl))) | with_reducible refine sv_asg_l ?_ | with_reducible refine sv_if_l ?_ | with_reducible refine sv_ret_l ?_ | with_reducible refine sv_nx ?_ | with_reducible refine sv_asgT_s ?_ | with_reducible refine sv_asgT_l ?_ | with_reducible refine sv_set4_s ?_))))
local macro_rules | `(tactic| walk_at "s2") => `(tactic| (first | ((with_reducible refine gEv ?_); (first | ((with_reducible refine' ev_tAnd_d ?s0 ?s1 ?_); (case s0 => (intro Q q; walk_at "g"; (first | exact q | exact toD_n q | exact toD_t q | exact toD_f q | exact toD_b q))); (case s1 => (intro hp Q q; walk_at "g"; (first | exact q | exact toD_n q | exact toD_t q | exact toD_f q | exact toD_b q)))) | ((with_reducible refine' ev_tOr_d ?s0 ?s1 ?_); (case s0 => (intro Q q; walk_at "g"; (first | exact q | exact toD_n q | exact toD_t q | exact toD_f q | exact toD_b q))); (case s1 => (intro hp Q q; walk_at "g"; (first | exact q | exact toD_n q | exact toD_t q | exact toD_f q | exact toD_b q)))) | with_reducible refine ev_c ?_ | ((with_reducible refine' ev_vd ?s0 ?_); (case s0 => (rfl))) | ((with_reducible refine' ev_vo ?s0 ?_); (case s0 => (rfl))) | ((with_reducible refine' ev_vi ?s0 ?_); (case s0 => (rfl))) | with_reducible refine ev_bin ?_ | with_reducible refine ev_un ?_ | with_reducible refine ev_anil ?_ | with_reducible refine ev_acons ?_ | with_reducible refine ev_blt ?_ | with_reducible refine ev_met ?_ | with_reducible refine ev_ono ?_ | with_reducible refine ev_osome ?_ | with_reducible refine ev_sl ?_ | with_reducible refine ev_tup ?_ | with_reducible refine ev_lst ?_ | with_reducible refine ev_tE ?_ | with_reducible refine ev_tyes ?_ | with_reducible refine ev_tAnd ?_ | with_reducible refine ev_tOr ?_ | with_reducible refine ev_tNot ?_ | with_reducible refine ev_eAnd ?_ | with_reducible refine ev_eOr ?_ | with_reducible refine ev_eNot ?_ | with_reducible refine ev_eIf ?_ | with_reducible refine ev_chain ?_ | with_reducible refine ev_call ?_)) | ((with_reducible refine gGiv ?_); (first | ((with_reducible refine' giv_mod ?s0 ?_); (case s0 => (first | assumption | decide | omega | (show _ ≤ 16777216; omega) | (show _ < 16777216; omega) | (simp only [List.length_append, List.length_cons, List.length_nil, List.length_replicate, List.length_map, List.length_take, List.length_drop, List.length_dropLast]; first | omega | (show _ ≤ 16777216; omega))))) | ((with_reducible refine' giv_div ?s0 ?_); (case s0 => (first | assumption | decide | omega | (show _ ≤ 16777216; omega) | (show _ < 16777216; omega) | (simp only [List.length_append, List.length_cons, List.length_nil, List.length_replicate, List.length_map, List.length_take, List.length_drop, List.length_dropLast]; first | omega | (show _ ≤ 16777216; omega))))) | ((with_reducible refine' giv_mul ?s0 ?_); (case s0 => (first | assumption | exact cMul_r (by decide) | exact cMul_r (by omega)))) | ((with_reducible refine' giv_muls ?s0 ?_); (case s0 => (first | assumption | decide | omega | (show _ ≤ 16777216; omega) | (show _ < 16777216; omega) | (simp only [List.length_append, List.length_cons, List.length_nil, List.length_replicate, List.length_map, List.length_take, List.length_drop, List.length_dropLast]; first | omega | (show _ ≤ 16777216; omega))))) | ((with_reducible refine' giv_adds ?s0 ?_); (case s0 => (first | assumption | decide | omega | (show _ ≤ 16777216; omega) | (show _ < 16777216; omega) | (simp only [List.length_append, List.length_cons, List.length_nil, List.length_replicate, List.length_map, List.length_take, List.length_drop, List.length_dropLast]; first | omega | (show _ ≤ 16777216; omega))))) | ((with_reducible refine' giv_addl ?s0 ?_); (case s0 => (first | assumption | decide | omega | (show _ ≤ 16777216; omega) | (show _ < 16777216; omega) | (simp only [List.length_append, List.length_cons, List.length_nil, List.length_replicate, List.length_map, List.length_take, List.length_drop, List.length_dropLast]; first | omega | (show _ ≤ 16777216; omega))))) | ((with_reducible refine' giv_ixl ?s0 ?_); (case s0 => (first | assumption | rfl | exact atI_zero))) | ((with_reducible refine' giv_ixt ?s0 ?_); (case s0 => (first | assumption | rfl | exact atI_zero))) | ((with_reducible refine' giv_ixs ?s0 ?s1 ?_); (case s0 => (first | assumption | decide | omega | (show _ ≤ 16777216; omega) | (show _ < 16777216; omega) | (simp only [List.length_append, List.length_cons, List.length_nil, List.length_replicate, List.length_map, List.length_take, List.length_drop, List.length_dropLast]; first | omega | (show _ ≤ 16777216; omega)))); (case s1 => (first | assumption | rfl))) | ((with_reducible refine' giv_dr4 ?s0 ?_); (case s0 => (assumption))) | ((with_reducible refine' giv_slm1 ?s0 ?_); (case s0 => (first | assumption | decide | omega | (show _ ≤ 16777216; omega) | (show _ < 16777216; omega) | (simp only [List.length_append, List.length_cons, List.length_nil, List.length_replicate, List.length_map, List.length_take, List.length_drop, List.length_dropLast]; first | omega | (show _ ≤ 16777216; omega))))) | ((with_reducible refine' giv_slt ?s0 ?s1 ?_); (case s0 => (first | assumption | decide | omega | (show _ ≤ 16777216; omega) | (show _ < 16777216; omega) | (simp only [List.length_append, List.length_cons, List.length_nil, List.length_replicate, List.length_map, List.length_take, List.length_drop, List.length_dropLast]; first | omega | (show _ ≤ 16777216; omega)))); (case s1 => (first | assumption | decide | omega))) | ((with_reducible refine' giv_sld ?s0 ?s1 ?_); (case s0 => (first | assumption | decide | omega | (show _ ≤ 16777216; omega) | (show _ < 16777216; omega) | (simp only [List.length_append, List.length_cons, List.length_nil, List.length_replicate, List.length_map, List.length_take, List.length_drop, List.length_dropLast]; first | omega | (show _ ≤ 16777216; omega)))); (case s1 => (first | assumption | decide | omega))) | ((with_reducible refine' giv_slm ?s0 ?s1 ?s2 ?_); (case s0 => (first | assumption | decide | omega | (show _ ≤ 16777216; omega) | (show _ < 16777216; omega) | (simp only [List.length_append, List.length_cons, List.length_nil, List.length_replicate, List.length_map, List.length_take, List.length_drop, List.length_dropLast]; first | omega | (show _ ≤ 16777216; omega)))); (case s1 => (first | assumption | decide | omega)); (case s2 => (first | assumption | decide | omega))) | ((with_reducible refine' giv_sltl ?s0 ?_); (case s0 => (first | assumption | decide | omega))) | ((with_reducible refine' giv_sldl ?s0 ?_); (case s0 => (first | assumption | decide | omega))) | ((with_reducible refine' giv_sls ?s0 ?_); (case s0 => (first | assumption | decide | omega | (show _ ≤ 16777216; omega) | (show _ < 16777216; omega) | (simp only [List.length_append, List.length_cons, List.length_nil, List.length_replicate, List.length_map, List.length_take, List.length_drop, List.length_dropLast]; first | omega | (show _ ≤ 16777216; omega))))) | with_reducible refine giv_sll ?_ | ((with_reducible refine' giv_lens ?s0 ?_); (case s0 => (first | assumption | decide | omega | (show _ ≤ 16777216; omega) | (show _ < 16777216; omega) | (simp only [List.length_append, List.length_cons, List.length_nil, List.length_replicate, List.length_map, List.length_take, List.length_drop, List.length_dropLast]; first | omega | (show _ ≤ 16777216; omega))))) | ((with_reducible refine' giv_revs ?s0 ?_); (case s0 => (first | assumption | decide | omega | (show _ ≤ 16777216; omega) | (show _ < 16777216; omega) | (simp only [List.length_append, List.length_cons, List.length_nil, List.length_replicate, List.length_map, List.length_take, List.length_drop, List.length_dropLast]; first | omega | (show _ ≤ 16777216; omega))))) | with_reducible refine giv_tup ?_ | with_reducible refine giv_tupt ?_ | ((with_reducible refine' giv_str ?s0 ?_); (case s0 => (first | assumption | decide | omega))) | with_reducible refine giv_strN ?_ | with_reducible refine giv_strS ?_ | with_reducible refine giv r_add1 ?_ | with_reducible refine giv r_sub ?_ | with_reducible refine giv r_lt ?_ | with_reducible refine giv r_lts ?_ | with_reducible refine giv r_le ?_ | with_reducible refine giv r_gt ?_ | with_reducible refine giv r_ge ?_ | with_reducible refine giv r_eqi ?_ | with_reducible refine giv r_eqs ?_ | with_reducible refine giv r_eqb ?_ | with_reducible refine giv r_nei ?_ | with_reducible refine giv r_nes ?_ | with_reducible refine giv r_neb ?_ | with_reducible refine giv r_isb ?_ | with_reducible refine giv r_ntb ?_ | with_reducible refine giv r_ins ?_ | with_reducible refine giv r_nis ?_ | with_reducible refine giv r_neg ?_ | with_reducible refine giv r_len2 ?_ | with_reducible refine giv r_len3 ?_ | with_reducible refine giv r_int1 ?_ | with_reducible refine giv r_fFind ?_ | with_reducible refine giv r_rev1 ?_ | with_reducible refine giv r_fIsi1 ?_ | with_reducible refine giv r_fIsi2 ?_ | with_reducible refine giv r_fIsi3 ?_ | with_reducible refine giv r_fIsi4 ?_ | with_reducible refine giv r_fIsi5 ?_ | with_reducible refine giv r_fIsi6 ?_ | with_reducible refine giv r_min2 ?_ | with_reducible refine giv r_max2 ?_ | with_reducible refine giv r_min3 ?_ | with_reducible refine giv r_isn1 ?_ | with_reducible refine giv r_isn2 ?_ | with_reducible refine giv r_isn3 ?_ | with_reducible refine giv r_isn4 ?_ | with_reducible refine giv r_isn5 ?_ | with_reducible refine giv r_ntn1 ?_ | with_reducible refine giv r_ntn2 ?_ | with_reducible refine giv r_ntn3 ?_ | with_reducible refine giv r_ntn4 ?_ | with_reducible refine giv r_ntn5 ?_ | with_reducible refine giv r_eqn1 ?_ | with_reducible refine giv r_eqn2 ?_ | ((with_reducible refine' giv ?s0 ?_); (case s0 => (first | exact (rfl : _ = some (D.bl true)) | exact (rfl : _ = some (D.bl false))))) | ((with_reducible refine' giv_ixs_all ?s0 ?s1 ?s2 ?_); (case s0 => (first | assumption | decide | omega | (show _ ≤ 16777216; omega) | (show _ < 16777216; omega) | (simp only [List.length_append, List.length_cons, List.length_nil, List.length_replicate, List.length_map, List.length_take, List.length_drop, List.length_dropLast]; first | omega | (show _ ≤ 16777216; omega)))); (case s1 => (first | assumption | decide | omega)); (case s2 => (first | assumption | (refine Int.lt_of_lt_of_le (by assumption) ?_; decide) | (show _ < (_ : Int); omega) | (simp only [List.length_append, List.length_cons, List.length_nil]; omega))); intro _ _))) | ((with_reducible refine gBrn ?_); (first | with_reducible refine brn_t ?_ | with_reducible refine brn_f ?_ | with_reducible refine brn_nT ?_ | with_reducible refine brn_nF ?_ | with_reducible refine brn_nn ?_ | ((with_reducible refine' brn_dt ?s0 ?_); (case s0 => decide)) | ((with_reducible refine' brn_df ?s0 ?_); (case s0 => decide)) | ((with_reducible refine' brn_nt ?s0 ?_); (case s0 => decide)) | ((with_reducible refine' brn_nf ?s0 ?_); (case s0 => decide)))) | ((with_reducible refine gFv ?_); (first | ((with_reducible refine' fv_nextE ?s0 ?s1 ?_); (case s0 => assumption); (case s1 => (first | assumption | decide | omega)); intro _ _ _ _ _; (try dsimp only [puts, put, agI, outsOf, slOf, List.set_cons_zero, List.set_cons_succ, List.getElem?_cons_zero, List.getElem?_cons_succ, wipeR, backR, Option.getD_some, stl])) | ((with_reducible refine' fv_drawE ?s0 ?_); (case s0 => assumption); intro _ _) | with_reducible refine fv_signs ?_ | (walk_at "fn"))) | with_reducible refine ret_z ?_ | with_reducible refine ret_r ?_ | ((with_reducible refine' ret_b ?s0 ?_); (case s0 => (rfl))) | ((with_reducible refine' see2 ?s0 ?s1 ?_); (case s0 => (rfl)); (case s1 => (rfl))) | ((with_reducible refine' see1 ?s0 ?_); (case s0 => (rfl))) | ((with_reducible refine' sees ?s0 ?_); (case s0 => (rfl))) | with_reducible refine isI ?_ | with_reducible refine isB ?_ | with_reducible refine isBD ?_ | ((with_reducible refine' frzs' ?s0 (And.intro ?s1 ?_)); (case s0 => rfl); (case s1 => (first | decide | simp)); (try dsimp only [puts, put, agI, outsOf, slOf, List.set_cons_zero, List.set_cons_succ, List.getElem?_cons_zero, List.getElem?_cons_succ, wipeR, backR, Option.getD_some, stl])) | ((with_reducible refine' arg ?s0 ?s1 ?s2 ?_); (case s0 => (rfl)); (case s1 => (rfl)); (case s2 => (first | exact List.nodup_nil | exact nodup1 | simp [agI])); (try dsimp only [puts, put, agI, outsOf, slOf, List.set_cons_zero, List.set_cons_succ, List.getElem?_cons_zero, List.getElem?_cons_succ, wipeR, backR, Option.getD_some, stl])) | ((with_reducible refine' ex_asg ?s0 ?_); (case s0 => (first | rfl | assumption)); (try dsimp only [puts, put, agI, outsOf, slOf, List.set_cons_zero, List.set_cons_succ, List.getElem?_cons_zero, List.getElem?_cons_succ, wipeR, backR, Option.getD_some, stl])) | ((with_reducible refine' ex_asg' ?s0 ?_); (case s0 => (first | rfl | assumption)); (try dsimp only [puts, put, agI, outsOf, slOf, List.set_cons_zero, List.set_cons_succ, List.getElem?_cons_zero, List.getElem?_cons_succ, wipeR, backR, Option.getD_some, stl])) | ((with_reducible refine' ex_asg'' ?s0 ?_); (case s0 => (rfl)); (try dsimp only [puts, put, agI, outsOf, slOf, List.set_cons_zero, List.set_cons_succ, List.getElem?_cons_zero, List.getElem?_cons_succ, wipeR, backR, Option.getD_some, stl])) | ((with_reducible refine' ex_asgT ?s0 ?_); (case s0 => (rfl)); (try dsimp only [puts, put, agI, outsOf, slOf, List.set_cons_zero, List.set_cons_succ, List.getElem?_cons_zero, List.getElem?_cons_succ, wipeR, backR, Option.getD_some, stl])) | ((with_reducible refine' nbw_z ?_); (try dsimp only [puts, put, agI, outsOf, slOf, List.set_cons_zero, List.set_cons_succ, List.getElem?_cons_zero, List.getElem?_cons_succ, wipeR, backR, Option.getD_some, stl])) | ((with_reducible refine' nbw_r ?_); (try dsimp only [puts, put, agI, outsOf, slOf, List.set_cons_zero, List.set_cons_succ, List.getElem?_cons_zero, List.getElem?_cons_succ, wipeR, backR, Option.getD_some, stl])) | ((with_reducible refine' own_at ?s0 (And.intro ?s1 ?_)); (case s0 => rfl); (case s1 => exact ⟨_, by assumption⟩); intro _ _; (try dsimp only [puts, put, agI, outsOf, slOf, List.set_cons_zero, List.set_cons_succ, List.getElem?_cons_zero, List.getElem?_cons_succ, wipeR, backR, Option.getD_some, stl])) | ((with_reducible refine gSv ?_); (first | with_reducible refine sv_asg_s ?_ | with_reducible refine sv_nx_s ?_ | with_reducible refine sv_ret_s ?_ | with_reducible refine sv_seq_s ?_ | with_reducible refine sv_drop_s ?_ | ((with_reducible refine' sv_app_s ?s0 ?_); (case s0 => (rfl))) | ((with_reducible refine' sv_app_l ?s0 ?_); (case s0 => (rfl))) | with_reducible refine sv_asg_l ?_ | with_reducible refine sv_if_l ?_ | with_reducible refine sv_ret_l ?_ | with_reducible refine sv_nx ?_ | with_reducible refine sv_asgT_s ?_ | with_reducible refine sv_asgT_l ?_ | with_reducible refine sv_set4_s ?_))))
local macro_rules | `(tactic| walk_at "b") => `(tactic| (first | ((with_reducible refine' giv_ixl_all ?s0 ?s1 ?_); (case s0 => (first | assumption | decide | omega)); (case s1 => (first | assumption | (refine Int.lt_of_lt_of_le (by assumption) ?_; decide) | (show _ < (_ : Int); omega) | (simp only [List.length_append, List.length_cons, List.length_nil]; omega))); repeat' (first | exact all_nil | refine all_cons ?_ ?_)) | ((with_reducible refine brn_d ?_ ?_) <;> intro _ <;> (first | (exfalso; omega) | skip)) | ((with_reducible refine brn_nd ?_ ?_) <;> intro _ <;> (first | (exfalso; omega) | skip)) | ((with_reducible refine brn_c ?_ ?_) <;> intro _ <;> (first | (exfalso; omega) | contradiction | (subst_vars; contradiction) | skip))))
local macro_rules | `(tactic| walk_at "n") => `(tactic| (try dsimp only [puts, put, agI, outsOf, slOf, List.map, List.set_cons_zero, List.set_cons_succ, List.getElem?_cons_zero, List.getElem?_cons_succ, wipeR, backR, Option.getD_some, List.replicate, List.cons_append, List.nil_append, List.append_eq, List.append_nil, Nat.reduceSub, FEnd, Ret, noBw, stl]))
local macro_rules | `(tactic| walk_at "g") => `(tactic| (repeat (walk_at "s1")))
local macro_rules | `(tactic| walk_at "gS") => `(tactic| (repeat (walk_at "s2")))
local macro_rules | `(tactic| walk_at "x") => `(tactic| (repeat' (first | (walk_at "s1") | (walk_at "b"))))
local macro_rules | `(tactic| walk_at "xS") => `(tactic| (repeat' (first | (walk_at "s2") | (walk_at "b"))))
--HDREND
theorem numbers_ok {xs : List D} {e f : Int} (hd : DrE e xs) (f0 : 1 ≤ f) (f1 : f ≤ 33) {Q : Vl → List (List D) → Prop}
   (q1 : ∀ a ys, 0 ≤ a → a < f → a ≤ 9 → DrE e ys → Q (.fz (.tup [.int a, .non])) [ys])
   (q2 : ∀ a b ys, 0 ≤ a → a ≤ b → b ≤ f → b ≤ 9 → DrE e ys → Q (.fz (.tup [.int a, .int b])) [ys]) : Fv f_law_numbers [.li xs, .da (.int f)] Q := by
  refine fv_fn rfl ?_
  walk_at "n"
  unfold b_law_numbers
  rw [next_eq]
  walk_at "x"
  all_goals walk_at "n"
  all_goals first | (refine q1 _ _ ?_ ?_ ?_ ?_ <;> first | omega | assumption) | (refine q2 _ _ _ ?_ ?_ ?_ ?_ ?_ <;> first | omega | assumption)
theorem times_N {lo : Int} {Q : Vl → List (List D) → Prop} (q : Q (.fz (.int (lo + 1))) []) : Fv f_law_times [.da (.tup [.int lo, .non])] Q := by
  refine fv_fn rfl ?_
  walk_at "n"
  unfold b_law_times
  walk_at "g"; walk_at "n"; exact q
theorem times_S {lo hi : Int} {Q : Vl → List (List D) → Prop} (q : Q (.fz (.int hi)) []) : Fv f_law_times [.da (.tup [.int lo, .int hi])] Q := by
  refine fv_fn rfl ?_
  walk_at "n"
  unfold b_law_times
  walk_at "g"; walk_at "n"; exact q
def KsOk (ks : List (List Nat)) : Prop := (∀ k ∈ ks, NmOk k) ∧ ks.length ≤ 1000
theorem tip_ok {xs : List D} {e : Int} {o : Bool} {ks : List (List Nat)} (hd : DrE e xs) (hk : ∀ k ∈ ks, NmOk k) {Q : Vl → List (List D) → Prop}
    (q : ∀ (t : T) (ys : List Sw.D), t.All Ok1 → t.size = 1 → t.depth = 1 → DrE e ys → Q (.fz t.D) [ys, ks.map D.str]) : Fv f_law_tip_v101 [.li xs, .da (.bl o), .li (ks.map D.str)] Q := by
  have qe : ∀ k ys, k.length ≤ 12 → DrE e ys → Q (.fz (.tup [.str tEDGE, .str k])) [ys, ks.map D.str] := fun k ys h hd => by
    have := q (.edge k) ys (by simp only [T.All]; exact h) (by simp only [T.size]) (by simp only [T.depth]) hd
    rwa [D_edge] at this
  have qs : ∀ k ys, NmOk k → DrE e ys → Q (.fz (.tup [.str tSAME, .str k])) [ys, ks.map D.str] := fun k ys h hd => by
    have := q (.same k) ys (by simp only [T.All]; exact h.2) (by simp only [T.size]) (by simp only [T.depth]) hd
    rwa [D_same] at this
  have q0 : ∀ ys, DrE e ys → Q (.fz (.tup [.str tEMPTY])) [ys, ks.map D.str] := fun ys hd => by
    have := q .empty ys (by simp only [T.All]; trivial) (by simp only [T.size]) (by simp only [T.depth]) hd
    rwa [D_empty] at this
  have qt : ∀ s ys, s.Sublist SGN → DrE e ys → Q (.fz (.tup [.str tSET, .str s])) [ys, ks.map D.str] := fun s ys h hd => by
    have := q (.set s) ys (by simp only [T.All]; exact h) (by simp only [T.size]) (by simp only [T.depth]) hd
    rwa [D_set] at this
  refine fv_fn rfl ?_
  walk_at "n"
  unfold b_law_tip_v101
  rw [next_eq]
  have set' : ∀ ys x, DrE e ys → Sv (sRet (eTup (aCons (eC (.str [115, 101, 116])) (aCons (eCall f_law_some_set [true] (aCons (eVar 0) aNil)) aNil)))) [.io ys, .d (.bl o), .io (ks.map D.str), .d x] (FEnd Q [.li xs, .da (.bl o), .li (ks.map D.str)]) := by
    intro ys x hd
    walk_at "g"
    refine some_set_ok hd fun s y1 hs hd1 => ?_
    walk_at "g"
    walk_at "n"
    exact qt s y1 hs hd1
  walk_at "g"
  refine brn_d (fun _ => ?_) (fun _ => ?_)
  · walk_at "g"
    walk_at "n"
    exact q0 _ (by assumption)
  walk_at "g"
  refine brn_d (fun _ => ?_) (fun _ => ?_)
  · walk_at "x" <;> walk_at "n" <;> exact qe _ _ (by decide) (by assumption)
  walk_at "g"
  refine brn_d (fun z => ?_) (fun z => sv_nx_s (set' _ _ (by assumption)))
  obtain ⟨_, _, z⟩ := z
  rw [List.length_map] at z
  walk_at "g"
  refine fv_nextE (by assumption) (by rw [List.length_map]; exact z) ?_
  intro r ys r0 r1 hd2
  rw [List.length_map] at r1
  walk_at "g"
  obtain ⟨k, hk1, hk2⟩ := atI_mem (xs := ks.map D.str) r0 (by rw [List.length_map]; exact r1)
  obtain ⟨n, hn, rfl⟩ := List.mem_map.mp hk1
  refine giv_ixl hk2 ?_
  walk_at "g"
  walk_at "n"
  exact qs n ys (hk n hn) hd2
/-- the drawn forms -/
structure FormSpec (n : Nat) : Prop where
  out : ∀ {xs : List Sw.D} {ks : List (List Nat)} {e f nd d : Int} {o : Bool} {Q : Vl → List (List Sw.D) → Prop}, d + 1 ≤ n → 1 ≤ n → DrE e xs → (∀ k ∈ ks, NmOk k) → (ks.length : Int) + max 1 nd ≤ 1000 → 1 ≤ f → f ≤ 33 → nd ≤ 60 → d ≤ 12 →
  (∀ (t : T) (ys : List Sw.D) (ks' : List (List Nat)) (e' : Int), t.All Ok1 → (t.size : Int) ≤ max 1 nd → (t.depth : Int) ≤ max 1 d → DrE e' ys → (∀ k ∈ ks', NmOk k) → ks'.length ≤ ks.length + t.size → Q (.fz t.D) [ys, ks'.map D.str]) →
  Fv (fx_law_form n) [.li xs, .da (.int f), .da (.int nd), .da (.int d), .da (.bl o), .li (ks.map D.str)] Q
theorem seqalt (ts : List T) (w : List Nat) (h : w = tSEQ ∨ w = tALT) : ∃ t : T, t.D = .tup [.str w, .tup (ts.map T.D)] ∧ t.size = 1 + T.sizes ts ∧ t.depth = 1 + T.depths ts ∧ (T.Alls Ok1 ts → t.All Ok1) := by
  rcases h with rfl | rfl
  · exact ⟨.seq ts, D_seq ts, by simp only [T.size], by simp only [T.depth], fun h => by simp only [T.All]; exact ⟨trivial, h⟩⟩
  · exact ⟨.alt ts, D_alt ts, by simp only [T.size], by simp only [T.depth], fun h => by simp only [T.All]; exact ⟨trivial, h⟩⟩
theorem alls_snoc {P : T → Prop} {ts : List T} {t : T} (h : T.Alls P ts) (h2 : t.All P) : T.Alls P (ts ++ [t]) := by
  rw [alls_mem] at h ⊢
  intro x hx
  rcases List.mem_append.mp hx with hx | hx
  · exact h x hx
  · rw [List.mem_singleton.mp hx]; exact h2
theorem form_loop {n : Nat} (ih : FormSpec n) {xs : List Sw.D} {ks : List (List Nat)} {e f nd d c m g : Int} {o : Bool} (hn : d ≤ n) (hn1 : 1 ≤ n) (hd : DrE e xs) (hk : ∀ k ∈ ks, NmOk k) (hkl : (ks.length : Int) + nd ≤ 1000) (f0 : 1 ≤ f) (f1 : f ≤ 33) (n1 : nd ≤ 60) (d1 : d ≤ 12)
    (m0 : 2 ≤ m) (m1 : m ≤ nd - 1) (m2 : m ≤ f) (g0 : 0 ≤ g) (QS : Fl → Rho → Prop)
    (q : ∀ (ts : List T) (ys : List Sw.D) (ks' : List (List Nat)) (e' : Int) x, T.Alls Ok1 ts → (T.sizes ts : Int) ≤ nd - 1 → (T.depths ts : Int) ≤ max 1 (d - 1) → DrE e' ys → (∀ k ∈ ks', NmOk k) → ks'.length ≤ ks.length + T.sizes ts →
      QS .nx [.io ys, .d (.int f), .d (.int nd), .d (.int d), .d (.bl o), .io (ks'.map D.str), .d (.int c), .d (.int m), .d (.int g), .ow (ts.map T.D), x, .no, .no, .no, .no, .no, .no]) :
    Sv (sFor (iR1 (aCons (eVar 7) aNil)) (gN 10) (sIf (tE (eBin fEq (eVar 8) (eVar 10))) (sApp 9 (eCall (fx_law_form n) [true, false, false, false, false, true] (aCons (eVar 0) (aCons (eBin fAdd (eBin fSub (eVar 1) (eVar 7)) (eC (.int 1))) (aCons (eBin fSub (eVar 2) (eVar 7)) (aCons (eBin fSub (eVar 3) (eC (.int 1))) (aCons (eVar 4) (aCons (eVar 5) aNil)))))))) (sIf (tE (eBin fLt (eVar 8) (eVar 7))) (sApp 9 (eCall f_law_tip_v101 [true, false, true] (aCons (eVar 0) (aCons (eVar 4) (aCons (eVar 5) aNil))))) (sApp 9 (eCall (fx_law_form n) [true, false, false, false, false, true] (aCons (eVar 0) (aCons (eBin fDiv (eVar 1) (eVar 7)) (aCons (eBin fDiv (eBin fSub (eVar 2) (eC (.int 1))) (eVar 7)) (aCons (eBin fSub (eVar 3) (eC (.int 1))) (aCons (eVar 4) (aCons (eVar 5) aNil)))))))))))
      [.io xs, .d (.int f), .d (.int nd), .d (.int d), .d (.bl o), .io (ks.map D.str), .d (.int c), .d (.int m), .d (.int g), .ow [], .no, .no, .no, .no, .no, .no, .no] QS := by
  have dq : 1 ≤ (nd - 1) / m := Int.le_ediv_of_mul_le (by omega) (by omega)
  have dm : m * ((nd - 1) / m) ≤ nd - 1 := Int.mul_ediv_self_le (by omega)
  have df : 1 ≤ f / m := Int.le_ediv_of_mul_le (by omega) (by omega)
  have df2 : f / m ≤ 33 := by have := Int.ediv_le_self (a := f) m (by omega); omega
  have dq2 : (nd - 1) / m ≤ 60 := by have := Int.ediv_le_self (a := nd - 1) m (by omega); omega
  generalize hqq : (nd - 1) / m = qq at dq dm dq2
  have Bs : ∃ B : Nat → Int, 0 ≤ B 0 ∧ B m.toNat ≤ nd - 1 ∧ (∀ k : Nat, (k : Int) ≤ m → B k ≤ nd - 1) ∧ (∀ k : Nat, (k : Int) < m → (g = k → B k + (nd - m) ≤ B (k + 1)) ∧ (g ≠ k → g < m → B k + 1 ≤ B (k + 1)) ∧ (¬ g < m → B k + qq ≤ B (k + 1))) := by
    by_cases hg : g < m
    · refine ⟨fun k => k + (if g < k then nd - m - 1 else 0), ?_, ?_, ?_, ?_⟩
      · dsimp only; split <;> omega
      · dsimp only; split <;> omega
      · intro k hk; dsimp only; split <;> omega
      · intro k hk
        dsimp only
        refine ⟨fun h => ?_, fun h _ => ?_, fun h => absurd hg h⟩
        · rw [if_neg (by omega), if_pos (by omega)]; omega
        · by_cases h2 : g < k
          · rw [if_pos h2, if_pos (by omega)]; omega
          · rw [if_neg h2, if_neg (by omega)]; omega
    · refine ⟨fun k => k * qq, by simp, ?_, ?_, ?_⟩
      · dsimp only
        rw [show ((m.toNat : Nat) : Int) = m by omega]
        exact dm
      · intro k hk
        dsimp only
        have : (k : Int) * qq ≤ m * qq := Int.mul_le_mul_of_nonneg_right (by omega) (by omega)
        omega
      · intro k hk
        dsimp only
        refine ⟨fun h => by omega, fun _ h => absurd h hg, fun _ => ?_⟩
        rw [show ((k + 1 : Nat) : Int) = (k : Int) + 1 by omega, Int.add_mul]
        omega
  obtain ⟨B, B0, Bm, Bk, Bs⟩ := Bs
  refine sv_for (fun k ρ => ∃ (ts : List T) (ys : List Sw.D) (ks' : List (List Nat)) (e' : Int) (x : Sl), T.Alls Ok1 ts ∧ ts.length = k ∧ (T.sizes ts : Int) ≤ B k ∧ (T.depths ts : Int) ≤ max 1 (d - 1) ∧ DrE e' ys ∧ (∀ k ∈ ks', NmOk k) ∧ ks'.length ≤ ks.length + T.sizes ts ∧
    ρ = [.io ys, .d (.int f), .d (.int nd), .d (.int d), .d (.bl o), .io (ks'.map D.str), .d (.int c), .d (.int m), .d (.int g), .ow (ts.map T.D), x, .no, .no, .no, .no, .no, .no] ∧ ioQ (some x) = false) (ev_ir1 ?_)
  walk_at "g"
  refine ⟨_, rfl, by omega, by omega, ⟨[], xs, ks, e, .no, trivial, rfl, by simp only [T.sizes]; omega, by simp only [T.depths]; omega, hd, hk, by omega, rfl, rfl⟩, ?_, ?_⟩
  · rintro i y hy ρ ⟨ts, ys, ks', e', x, ha, tl, hsz, hdp, hd', hk', hkl', rfl, hx⟩
    obtain ⟨hi, rfl⟩ := rngL_get hy
    obtain ⟨b1, b2, b3⟩ := Bs i (by omega)
    have b4 := Bk i (by omega)
    have b5 := Bk (i + 1) (by omega)
    have ll : (ts.map T.D).length < lim := by rw [List.length_map, tl]; show _ < 16777216; omega
    have fin : ∀ (t : T) (z : List Sw.D) (ks2 : List (List Nat)) (e2 : Int), t.All Ok1 → B i + t.size ≤ B (i + 1) → (t.depth : Int) ≤ max 1 (d - 1) → DrE e2 z → (∀ k ∈ ks2, NmOk k) → ks2.length ≤ ks'.length + t.size →
        ∃ (ts' : List T) (ys : List Sw.D) (ks' : List (List Nat)) (e' : Int) (x : Sl), T.Alls Ok1 ts' ∧ ts'.length = i + 1 ∧ (T.sizes ts' : Int) ≤ B (i + 1) ∧ (T.depths ts' : Int) ≤ max 1 (d - 1) ∧ DrE e' ys ∧ (∀ k ∈ ks', NmOk k) ∧ ks'.length ≤ ks.length + T.sizes ts' ∧
        [Sl.io z, .d (.int f), .d (.int nd), .d (.int d), .d (.bl o), .io (ks2.map D.str), .d (.int c), .d (.int m), .d (.int g), .ow (ts.map T.D ++ [t.D]), .d (.int (0 + i)), .no, .no, .no, .no, .no, .no] = [.io ys, .d (.int f), .d (.int nd), .d (.int d), .d (.bl o), .io (ks'.map D.str), .d (.int c), .d (.int m), .d (.int g), .ow (ts'.map T.D), x, .no, .no, .no, .no, .no, .no] ∧ ioQ (some x) = false := by
      intro t z ks2 e2 h1 h2 h3 h4 h5 h6
      refine ⟨ts ++ [t], z, ks2, e2, _, alls_snoc ha h1, by rw [List.length_append, tl]; rfl, by rw [sizes_snoc]; omega, by rw [depths_snoc]; omega, h4, h5, by rw [sizes_snoc]; omega, by rw [List.map_append]; rfl, rfl⟩
    refine ⟨_, asg_z (by exact hx), ?_⟩
    walk_at "n"
    walk_at "g"
    refine brn_d (fun z => ?_) (fun z => ?_)
    · walk_at "g"
      have := b1 (by omega)
      refine ih.out (by omega) hn1 hd' hk' (by omega) (by omega) (by omega) (by omega) (by omega) fun t y2 ks2 e2 h1 h2 h3 h4 h5 h6 => ?_
      walk_at "g"
      refine app rfl rfl ll ?_
      walk_at "n"
      have := b1 (by omega)
      exact fin t y2 ks2 e2 h1 (by omega) h3 h4 h5 h6
    · walk_at "g"
      refine brn_d (fun z2 => ?_) (fun z2 => ?_)
      · walk_at "g"
        refine tip_ok hd' hk' fun t y2 h1 h2 h3 h4 => ?_
        walk_at "g"
        refine app rfl rfl ll ?_
        walk_at "n"
        have := b2 (by omega) z2
        exact fin t y2 ks' e' h1 (by omega) (by omega) h4 hk' (by omega)
      · walk_at "g"
        rw [hqq]
        have := b3 z2
        refine ih.out (by omega) hn1 hd' hk' (by omega) df df2 (by omega) (by omega) fun t y2 ks2 e2 h1 h2 h3 h4 h5 h6 => ?_
        walk_at "g"
        refine app rfl rfl ll ?_
        walk_at "n"
        have := b3 z2
        exact fin t y2 ks2 e2 h1 (by omega) h3 h4 h5 h6
  · rintro ρ ⟨ts, ys, ks', e', x, ha, tl, hsz, hdp, hd', hk', hkl', rfl, hx⟩
    rw [rngL_len] at tl hsz
    exact q ts ys ks' e' x ha (by omega) hdp hd' hk' hkl'
end K10
set_option Elab.async false
set_option linter.all false
set_option maxRecDepth 100000
set_option maxHeartbeats 4000000
namespace K10
open Sw L2 Tre Runs
--HDR
local macro_rules | `(tactic| walk_at "fn") => `(tactic| (fail))
local macro_rules | `(tactic| walk_at "s1") => `(tactic| (first | ((with_reducible refine gEv ?_); (first | ((with_reducible refine' ev_tAnd_d ?s0 ?s1 ?_); (case s0 => (intro Q q; walk_at "g"; (first | exact q | exact toD_n q | exact toD_t q | exact toD_f q | exact toD_b q))); (case s1 => (intro hp Q q; walk_at "g"; (first | exact q | exact toD_n q | exact toD_t q | exact toD_f q | exact toD_b q)))) | ((with_reducible refine' ev_tOr_d ?s0 ?s1 ?_); (case s0 => (intro Q q; walk_at "g"; (first | exact q | exact toD_n q | exact toD_t q | exact toD_f q | exact toD_b q))); (case s1 => (intro hp Q q; walk_at "g"; (first | exact q | exact toD_n q | exact toD_t q | exact toD_f q | exact toD_b q)))) | with_reducible refine ev_c ?_ | ((with_reducible refine' ev_vd ?s0 ?_); (case s0 => (rfl))) | ((with_reducible refine' ev_vo ?s0 ?_); (case s0 => (rfl))) | ((with_reducible refine' ev_vi ?s0 ?_); (case s0 => (rfl))) | with_reducible refine ev_bin ?_ | with_reducible refine ev_un ?_ | with_reducible refine ev_anil ?_ | with_reducible refine ev_acons ?_ | with_reducible refine ev_blt ?_ | with_reducible refine ev_met ?_ | with_reducible refine ev_ono ?_ | with_reducible refine ev_osome ?_ | with_reducible refine ev_sl ?_ | with_reducible refine ev_tup ?_ | with_reducible refine ev_lst ?_ | with_reducible refine ev_tE ?_ | with_reducible refine ev_tyes ?_ | with_reducible refine ev_tAnd ?_ | with_reducible refine ev_tOr ?_ | with_reducible refine ev_tNot ?_ | with_reducible refine ev_eAnd ?_ | with_reducible refine ev_eOr ?_ | with_reducible refine ev_eNot ?_ | with_reducible refine ev_eIf ?_ | with_reducible refine ev_chain ?_ | with_reducible refine ev_call ?_)) | ((with_reducible refine gGiv ?_); (first | ((with_reducible refine' giv_mod ?s0 ?_); (case s0 => (first | assumption | decide | omega | (show _ ≤ 16777216; omega) | (show _ < 16777216; omega) | (simp only [List.length_append, List.length_cons, List.length_nil, List.length_replicate, List.length_map, List.length_take, List.length_drop, List.length_dropLast]; first | omega | (show _ ≤ 16777216; omega))))) | ((with_reducible refine' giv_div ?s0 ?_); (case s0 => (first | assumption | decide | omega | (show _ ≤ 16777216; omega) | (show _ < 16777216; omega) | (simp only [List.length_append, List.length_cons, List.length_nil, List.length_replicate, List.length_map, List.length_take, List.length_drop, List.length_dropLast]; first | omega | (show _ ≤ 16777216; omega))))) | ((with_reducible refine' giv_mul ?s0 ?_); (case s0 => (first | assumption | exact cMul_r (by decide) | exact cMul_r (by omega)))) | ((with_reducible refine' giv_muls ?s0 ?_); (case s0 => (first | assumption | decide | omega | (show _ ≤ 16777216; omega) | (show _ < 16777216; omega) | (simp only [List.length_append, List.length_cons, List.length_nil, List.length_replicate, List.length_map, List.length_take, List.length_drop, List.length_dropLast]; first | omega | (show _ ≤ 16777216; omega))))) | ((with_reducible refine' giv_adds ?s0 ?_); (case s0 => (first | assumption | decide | omega | (show _ ≤ 16777216; omega) | (show _ < 16777216; omega) | (simp only [List.length_append, List.length_cons, List.length_nil, List.length_replicate, List.length_map, List.length_take, List.length_drop, List.length_dropLast]; first | omega | (show _ ≤ 16777216; omega))))) | ((with_reducible refine' giv_addl ?s0 ?_); (case s0 => (first | assumption | decide | omega | (show _ ≤ 16777216; omega) | (show _ < 16777216; omega) | (simp only [List.length_append, List.length_cons, List.length_nil, List.length_replicate, List.length_map, List.length_take, List.length_drop, List.length_dropLast]; first | omega | (show _ ≤ 16777216; omega))))) | ((with_reducible refine' giv_ixl ?s0 ?_); (case s0 => (first | assumption | rfl | exact atI_zero))) | ((with_reducible refine' giv_ixt ?s0 ?_); (case s0 => (first | assumption | rfl | exact atI_zero))) | ((with_reducible refine' giv_ixs ?s0 ?s1 ?_); (case s0 => (first | assumption | decide | omega | (show _ ≤ 16777216; omega) | (show _ < 16777216; omega) | (simp only [List.length_append, List.length_cons, List.length_nil, List.length_replicate, List.length_map, List.length_take, List.length_drop, List.length_dropLast]; first | omega | (show _ ≤ 16777216; omega)))); (case s1 => (first | assumption | rfl))) | ((with_reducible refine' giv_dr4 ?s0 ?_); (case s0 => (assumption))) | ((with_reducible refine' giv_slm1 ?s0 ?_); (case s0 => (first | assumption | decide | omega | (show _ ≤ 16777216; omega) | (show _ < 16777216; omega) | (simp only [List.length_append, List.length_cons, List.length_nil, List.length_replicate, List.length_map, List.length_take, List.length_drop, List.length_dropLast]; first | omega | (show _ ≤ 16777216; omega))))) | ((with_reducible refine' giv_slt ?s0 ?s1 ?_); (case s0 => (first | assumption | decide | omega | (show _ ≤ 16777216; omega) | (show _ < 16777216; omega) | (simp only [List.length_append, List.length_cons, List.length_nil, List.length_replicate, List.length_map, List.length_take, List.length_drop, List.length_dropLast]; first | omega | (show _ ≤ 16777216; omega)))); (case s1 => (first | assumption | decide | omega))) | ((with_reducible refine' giv_sld ?s0 ?s1 ?_); (case s0 => (first | assumption | decide | omega | (show _ ≤ 16777216; omega) | (show _ < 16777216; omega) | (simp only [List.length_append, List.length_cons, List.length_nil, List.length_replicate, List.length_map, List.length_take, List.length_drop, List.length_dropLast]; first | omega | (show _ ≤ 16777216; omega)))); (case s1 => (first | assumption | decide | omega))) | ((with_reducible refine' giv_slm ?s0 ?s1 ?s2 ?_); (case s0 => (first | assumption | decide | omega | (show _ ≤ 16777216; omega) | (show _ < 16777216; omega) | (simp only [List.length_append, List.length_cons, List.length_nil, List.length_replicate, List.length_map, List.length_take, List.length_drop, List.length_dropLast]; first | omega | (show _ ≤ 16777216; omega)))); (case s1 => (first | assumption | decide | omega)); (case s2 => (first | assumption | decide | omega))) | ((with_reducible refine' giv_sltl ?s0 ?_); (case s0 => (first | assumption | decide | omega))) | ((with_reducible refine' giv_sldl ?s0 ?_); (case s0 => (first | assumption | decide | omega))) | ((with_reducible refine' giv_sls ?s0 ?_); (case s0 => (first | assumption | decide | omega | (show _ ≤ 16777216; omega) | (show _ < 16777216; omega) | (simp only [List.length_append, List.length_cons, List.length_nil, List.length_replicate, List.length_map, List.length_take, List.length_drop, List.length_dropLast]; first | omega | (show _ ≤ 16777216; omega))))) | with_reducible refine giv_sll ?_ | ((with_reducible refine' giv_lens ?s0 ?_); (case s0 => (first | assumption | decide | omega | (show _ ≤ 16777216; omega) | (show _ < 16777216; omega) | (simp only [List.length_append, List.length_cons, List.length_nil, List.length_replicate, List.length_map, List.length_take, List.length_drop, List.length_dropLast]; first | omega | (show _ ≤ 16777216; omega))))) | ((with_reducible refine' giv_revs ?s0 ?_); (case s0 => (first | assumption | decide | omega | (show _ ≤ 16777216; omega) | (show _ < 16777216; omega) | (simp only [List.length_append, List.length_cons, List.length_nil, List.length_replicate, List.length_map, List.length_take, List.length_drop, List.length_dropLast]; first | omega | (show _ ≤ 16777216; omega))))) | with_reducible refine giv_tup ?_ | with_reducible refine giv_tupt ?_ | ((with_reducible refine' giv_str ?s0 ?_); (case s0 => (first | assumption | decide | omega))) | with_reducible refine giv_strN ?_ | with_reducible refine giv_strS ?_ | with_reducible refine giv r_add1 ?_ | with_reducible refine giv r_sub ?_ | with_reducible refine giv r_lt ?_ | with_reducible refine giv r_lts ?_ | with_reducible refine giv r_le ?_ | with_reducible refine giv r_gt ?_ | with_reducible refine giv r_ge ?_ | with_reducible refine giv r_eqi ?_ | with_reducible refine giv r_eqs ?_ | with_reducible refine giv r_eqb ?_ | with_reducible refine giv r_nei ?_ | with_reducible refine giv r_nes ?_ | with_reducible refine giv r_neb ?_ | with_reducible refine giv r_isb ?_ | with_reducible refine giv r_ntb ?_ | with_reducible refine giv r_ins ?_ | with_reducible refine giv r_nis ?_ | with_reducible refine giv r_neg ?_ | with_reducible refine giv r_len2 ?_ | with_reducible refine giv r_len3 ?_ | with_reducible refine giv r_int1 ?_ | with_reducible refine giv r_fFind ?_ | with_reducible refine giv r_rev1 ?_ | with_reducible refine giv r_fIsi1 ?_ | with_reducible refine giv r_fIsi2 ?_ | with_reducible refine giv r_fIsi3 ?_ | with_reducible refine giv r_fIsi4 ?_ | with_reducible refine giv r_fIsi5 ?_ | with_reducible refine giv r_fIsi6 ?_ | with_reducible refine giv r_min2 ?_ | with_reducible refine giv r_max2 ?_ | with_reducible refine giv r_min3 ?_ | with_reducible refine giv r_isn1 ?_ | with_reducible refine giv r_isn2 ?_ | with_reducible refine giv r_isn3 ?_ | with_reducible refine giv r_isn4 ?_ | with_reducible refine giv r_isn5 ?_ | with_reducible refine giv r_ntn1 ?_ | with_reducible refine giv r_ntn2 ?_ | with_reducible refine giv r_ntn3 ?_ | with_reducible refine giv r_ntn4 ?_ | with_reducible refine giv r_ntn5 ?_ | with_reducible refine giv r_eqn1 ?_ | with_reducible refine giv r_eqn2 ?_ | ((with_reducible refine' giv ?s0 ?_); (case s0 => (first | exact (rfl : _ = some (D.bl true)) | exact (rfl : _ = some (D.bl false))))) | ((with_reducible refine' giv_ixs_all ?s0 ?s1 ?s2 ?_); (case s0 => (first | assumption | decide | omega | (show _ ≤ 16777216; omega) | (show _ < 16777216; omega) | (simp only [List.length_append, List.length_cons, List.length_nil, List.length_replicate, List.length_map, List.length_take, List.length_drop, List.length_dropLast]; first | omega | (show _ ≤ 16777216; omega)))); (case s1 => (first | assumption | decide | omega)); (case s2 => (first | assumption | (refine Int.lt_of_lt_of_le (by assumption) ?_; decide) | (show _ < (_ : Int); omega) | (simp only [List.length_append, List.length_cons, List.length_nil]; omega))); intro _ _))) | ((with_reducible refine gBrn ?_); (first | with_reducible refine brn_t ?_ | with_reducible refine brn_f ?_ | with_reducible refine brn_nT ?_ | with_reducible refine brn_nF ?_ | with_reducible refine brn_nn ?_ | ((with_reducible refine' brn_dt ?s0 ?_); (case s0 => decide)) | ((with_reducible refine' brn_df ?s0 ?_); (case s0 => decide)) | ((with_reducible refine' brn_nt ?s0 ?_); (case s0 => decide)) | ((with_reducible refine' brn_nf ?s0 ?_); (case s0 => decide)))) | ((with_reducible refine gFv ?_); (first | ((with_reducible refine' fv_nextE ?s0 ?s1 ?_); (case s0 => assumption); (case s1 => (first | assumption | decide | omega)); intro _ _ _ _ _; (try dsimp only [puts, put, agI, outsOf, slOf, List.set_cons_zero, List.set_cons_succ, List.getElem?_cons_zero, List.getElem?_cons_succ, wipeR, backR, Option.getD_some, stl])) | ((with_reducible refine' fv_drawE ?s0 ?_); (case s0 => assumption); intro _ _) | with_reducible refine fv_signs ?_ | (walk_at "fn"))) | with_reducible refine ret_z ?_ | with_reducible refine ret_r ?_ | ((with_reducible refine' ret_b ?s0 ?_); (case s0 => (rfl))) | ((with_reducible refine' see2 ?s0 ?s1 ?_); (case s0 => (rfl)); (case s1 => (rfl))) | ((with_reducible refine' see1 ?s0 ?_); (case s0 => (rfl))) | ((with_reducible refine' sees ?s0 ?_); (case s0 => (rfl))) | with_reducible refine isI ?_ | with_reducible refine isB ?_ | with_reducible refine isBD ?_ | ((with_reducible refine' frzs' ?s0 (And.intro ?s1 ?_)); (case s0 => rfl); (case s1 => (first | decide | simp)); (try dsimp only [puts, put, agI, outsOf, slOf, List.set_cons_zero, List.set_cons_succ, List.getElem?_cons_zero, List.getElem?_cons_succ, wipeR, backR, Option.getD_some, stl])) | ((with_reducible refine' arg ?s0 ?s1 ?s2 ?_); (case s0 => (rfl)); (case s1 => (rfl)); (case s2 => (first | exact List.nodup_nil | exact nodup1 | simp [agI])); (try dsimp only [puts, put, agI, outsOf, slOf, List.set_cons_zero, List.set_cons_succ, List.getElem?_cons_zero, List.getElem?_cons_succ, wipeR, backR, Option.getD_some, stl])) | ((with_reducible refine' ex_asg ?s0 ?_); (case s0 => (first | rfl | assumption)); (try dsimp only [puts, put, agI, outsOf, slOf, List.set_cons_zero, List.set_cons_succ, List.getElem?_cons_zero, List.getElem?_cons_succ, wipeR, backR, Option.getD_some, stl])) | ((with_reducible refine' ex_asg' ?s0 ?_); (case s0 => (first | rfl | assumption)); (try dsimp only [puts, put, agI, outsOf, slOf, List.set_cons_zero, List.set_cons_succ, List.getElem?_cons_zero, List.getElem?_cons_succ, wipeR, backR, Option.getD_some, stl])) | ((with_reducible refine' ex_asg'' ?s0 ?_); (case s0 => (rfl)); (try dsimp only [puts, put, agI, outsOf, slOf, List.set_cons_zero, List.set_cons_succ, List.getElem?_cons_zero, List.getElem?_cons_succ, wipeR, backR, Option.getD_some, stl])) | ((with_reducible refine' ex_asgT ?s0 ?_); (case s0 => (rfl)); (try dsimp only [puts, put, agI, outsOf, slOf, List.set_cons_zero, List.set_cons_succ, List.getElem?_cons_zero, List.getElem?_cons_succ, wipeR, backR, Option.getD_some, stl])) | ((with_reducible refine' nbw_z ?_); (try dsimp only [puts, put, agI, outsOf, slOf, List.set_cons_zero, List.set_cons_succ, List.getElem?_cons_zero, List.getElem?_cons_succ, wipeR, backR, Option.getD_some, stl])) | ((with_reducible refine' nbw_r ?_); (try dsimp only [puts, put, agI, outsOf, slOf, List.set_cons_zero, List.set_cons_succ, List.getElem?_cons_zero, List.getElem?_cons_succ, wipeR, backR, Option.getD_some, stl])) | ((with_reducible refine' own_at ?s0 (And.intro ?s1 ?_)); (case s0 => rfl); (case s1 => exact ⟨_, by assumption⟩); intro _ _; (try dsimp only [puts, put, agI, outsOf, slOf, List.set_cons_zero, List.set_cons_succ, List.getElem?_cons_zero, List.getElem?_cons_succ, wipeR, backR, Option.getD_some, stl])) | ((with_reducible refine gSv ?_); (first | with_reducible refine sv_asg_s ?_ | with_reducible refine sv_nx_s ?_ | with_reducible refine sv_if_s ?_ | with_reducible refine sv_ret_s ?_ | with_reducible refine sv_seq_s ?_ | with_reducible refine sv_drop_s ?_ | ((with_reducible refine' sv_app_s ?s0 ?_); (case s0 => (rfl))) | ((with_reducible refine' sv_app_l ?s0 ?_); (case s0 => (rfl))) | with_reducible refine sv_asg_l ?_ | with_reducible refine sv_if_l ?_ | with_reducible refine sv_ret_l ?_ | with_reducible refine sv_nx ?_ | with_reducible refine sv_asgT_s ?_ | with_reducible refine sv_asgT_l ?_ | with_reducible refine sv_set4_s ?_))))
local macro_rules | `(tactic| walk_at "s2") => `(tactic| (first | ((with_reducible refine gEv ?_); (first | ((with_reducible refine' ev_tAnd_d ?s0 ?s1 ?_); (case s0 => (intro Q q; walk_at "g"; (first | exact q | exact toD_n q | exact toD_t q | exact toD_f q | exact toD_b q))); (case s1 => (intro hp Q q; walk_at "g"; (first | exact q | exact toD_n q | exact toD_t q | exact toD_f q | exact toD_b q)))) | ((with_reducible refine' ev_tOr_d ?s0 ?s1 ?_); (case s0 => (intro Q q; walk_at "g"; (first | exact q | exact toD_n q | exact toD_t q | exact toD_f q | exact toD_b q))); (case s1 => (intro hp Q q; walk_at "g"; (first | exact q | exact toD_n q | exact toD_t q | exact toD_f q | exact toD_b q)))) | with_reducible refine ev_c ?_ | ((with_reducible refine' ev_vd ?s0 ?_); (case s0 => (rfl))) | ((with_reducible refine' ev_vo ?s0 ?_); (case s0 => (rfl))) | ((with_reducible refine' ev_vi ?s0 ?_); (case s0 => (rfl))) | with_reducible refine ev_bin ?_ | with_reducible refine ev_un ?_ | with_reducible refine ev_anil ?_ | with_reducible refine ev_acons ?_ | with_reducible refine ev_blt ?_ | with_reducible refine ev_met ?_ | with_reducible refine ev_ono ?_ | with_reducible refine ev_osome ?_ | with_reducible refine ev_sl ?_ | with_reducible refine ev_tup ?_ | with_reducible refine ev_lst ?_ | with_reducible refine ev_tE ?_ | with_reducible refine ev_tyes ?_ | with_reducible refine ev_tAnd ?_ | with_reducible refine ev_tOr ?_ | with_reducible refine ev_tNot ?_ | with_reducible refine ev_eAnd ?_ | with_reducible refine ev_eOr ?_ | with_reducible refine ev_eNot ?_ | with_reducible refine ev_eIf ?_ | with_reducible refine ev_chain ?_ | with_reducible refine ev_call ?_)) | ((with_reducible refine gGiv ?_); (first | ((with_reducible refine' giv_mod ?s0 ?_); (case s0 => (first | assumption | decide | omega | (show _ ≤ 16777216; omega) | (show _ < 16777216; omega) | (simp only [List.length_append, List.length_cons, List.length_nil, List.length_replicate, List.length_map, List.length_take, List.length_drop, List.length_dropLast]; first | omega | (show _ ≤ 16777216; omega))))) | ((with_reducible refine' giv_div ?s0 ?_); (case s0 => (first | assumption | decide | omega | (show _ ≤ 16777216; omega) | (show _ < 16777216; omega) | (simp only [List.length_append, List.length_cons, List.length_nil, List.length_replicate, List.length_map, List.length_take, List.length_drop, List.length_dropLast]; first | omega | (show _ ≤ 16777216; omega))))) | ((with_reducible refine' giv_mul ?s0 ?_); (case s0 => (first | assumption | exact cMul_r (by decide) | exact cMul_r (by omega)))) | ((with_reducible refine' giv_muls ?s0 ?_); (case s0 => (first | assumption | decide | omega | (show _ ≤ 16777216; omega) | (show _ < 16777216; omega) | (simp only [List.length_append, List.length_cons, List.length_nil, List.length_replicate, List.length_map, List.length_take, List.length_drop, List.length_dropLast]; first | omega | (show _ ≤ 16777216; omega))))) | ((with_reducible refine' giv_adds ?s0 ?_); (case s0 => (first | assumption | decide | omega | (show _ ≤ 16777216; omega) | (show _ < 16777216; omega) | (simp only [List.length_append, List.length_cons, List.length_nil, List.length_replicate, List.length_map, List.length_take, List.length_drop, List.length_dropLast]; first | omega | (show _ ≤ 16777216; omega))))) | ((with_reducible refine' giv_addl ?s0 ?_); (case s0 => (first | assumption | decide | omega | (show _ ≤ 16777216; omega) | (show _ < 16777216; omega) | (simp only [List.length_append, List.length_cons, List.length_nil, List.length_replicate, List.length_map, List.length_take, List.length_drop, List.length_dropLast]; first | omega | (show _ ≤ 16777216; omega))))) | ((with_reducible refine' giv_ixl ?s0 ?_); (case s0 => (first | assumption | rfl | exact atI_zero))) | ((with_reducible refine' giv_ixt ?s0 ?_); (case s0 => (first | assumption | rfl | exact atI_zero))) | ((with_reducible refine' giv_ixs ?s0 ?s1 ?_); (case s0 => (first | assumption | decide | omega | (show _ ≤ 16777216; omega) | (show _ < 16777216; omega) | (simp only [List.length_append, List.length_cons, List.length_nil, List.length_replicate, List.length_map, List.length_take, List.length_drop, List.length_dropLast]; first | omega | (show _ ≤ 16777216; omega)))); (case s1 => (first | assumption | rfl))) | ((with_reducible refine' giv_dr4 ?s0 ?_); (case s0 => (assumption))) | ((with_reducible refine' giv_slm1 ?s0 ?_); (case s0 => (first | assumption | decide | omega | (show _ ≤ 16777216; omega) | (show _ < 16777216; omega) | (simp only [List.length_append, List.length_cons, List.length_nil, List.length_replicate, List.length_map, List.length_take, List.length_drop, List.length_dropLast]; first | omega | (show _ ≤ 16777216; omega))))) | ((with_reducible refine' giv_slt ?s0 ?s1 ?_); (case s0 => (first | assumption | decide | omega | (show _ ≤ 16777216; omega) | (show _ < 16777216; omega) | (simp only [List.length_append, List.length_cons, List.length_nil, List.length_replicate, List.length_map, List.length_take, List.length_drop, List.length_dropLast]; first | omega | (show _ ≤ 16777216; omega)))); (case s1 => (first | assumption | decide | omega))) | ((with_reducible refine' giv_sld ?s0 ?s1 ?_); (case s0 => (first | assumption | decide | omega | (show _ ≤ 16777216; omega) | (show _ < 16777216; omega) | (simp only [List.length_append, List.length_cons, List.length_nil, List.length_replicate, List.length_map, List.length_take, List.length_drop, List.length_dropLast]; first | omega | (show _ ≤ 16777216; omega)))); (case s1 => (first | assumption | decide | omega))) | ((with_reducible refine' giv_slm ?s0 ?s1 ?s2 ?_); (case s0 => (first | assumption | decide | omega | (show _ ≤ 16777216; omega) | (show _ < 16777216; omega) | (simp only [List.length_append, List.length_cons, List.length_nil, List.length_replicate, List.length_map, List.length_take, List.length_drop, List.length_dropLast]; first | omega | (show _ ≤ 16777216; omega)))); (case s1 => (first | assumption | decide | omega)); (case s2 => (first | assumption | decide | omega))) | ((with_reducible refine' giv_sltl ?s0 ?_); (case s0 => (first | assumption | decide | omega))) | ((with_reducible refine' giv_sldl ?s0 ?_); (case s0 => (first | assumption | decide | omega))) | ((with_reducible refine' giv_sls ?s0 ?_); (case s0 => (first | assumption | decide | omega | (show _ ≤ 16777216; omega) | (show _ < 16777216; omega) | (simp only [List.length_append, List.length_cons, List.length_nil, List.length_replicate, List.length_map, List.length_take, List.length_drop, List.length_dropLast]; first | omega | (show _ ≤ 16777216; omega))))) | with_reducible refine giv_sll ?_ | ((with_reducible refine' giv_lens ?s0 ?_); (case s0 => (first | assumption | decide | omega | (show _ ≤ 16777216; omega) | (show _ < 16777216; omega) | (simp only [List.length_append, List.length_cons, List.length_nil, List.length_replicate, List.length_map, List.length_take, List.length_drop, List.length_dropLast]; first | omega | (show _ ≤ 16777216; omega))))) | ((with_reducible refine' giv_revs ?s0 ?_); (case s0 => (first | assumption | decide | omega | (show _ ≤ 16777216; omega) | (show _ < 16777216; omega) | (simp only [List.length_append, List.length_cons, List.length_nil, List.length_replicate, List.length_map, List.length_take, List.length_drop, List.length_dropLast]; first | omega | (show _ ≤ 16777216; omega))))) | with_reducible refine giv_tup ?_ | with_reducible refine giv_tupt ?_ | ((with_reducible refine' giv_str ?s0 ?_); (case s0 => (first | assumption | decide | omega))) | with_reducible refine giv_strN ?_ | with_reducible refine giv_strS ?_ | with_reducible refine giv r_add1 ?_ | with_reducible refine giv r_sub ?_ | with_reducible refine giv r_lt ?_ | with_reducible refine giv r_lts ?_ | with_reducible refine giv r_le ?_ | with_reducible refine giv r_gt ?_ | with_reducible refine giv r_ge ?_ | with_reducible refine giv r_eqi ?_ | with_reducible refine giv r_eqs ?_ | with_reducible refine giv r_eqb ?_ | with_reducible refine giv r_nei ?_ | with_reducible refine giv r_nes ?_ | with_reducible refine giv r_neb ?_ | with_reducible refine giv r_isb ?_ | with_reducible refine giv r_ntb ?_ | with_reducible refine giv r_ins ?_ | with_reducible refine giv r_nis ?_ | with_reducible refine giv r_neg ?_ | with_reducible refine giv r_len2 ?_ | with_reducible refine giv r_len3 ?_ | with_reducible refine giv r_int1 ?_ | with_reducible refine giv r_fFind ?_ | with_reducible refine giv r_rev1 ?_ | with_reducible refine giv r_fIsi1 ?_ | with_reducible refine giv r_fIsi2 ?_ | with_reducible refine giv r_fIsi3 ?_ | with_reducible refine giv r_fIsi4 ?_ | with_reducible refine giv r_fIsi5 ?_ | with_reducible refine giv r_fIsi6 ?_ | with_reducible refine giv r_min2 ?_ | with_reducible refine giv r_max2 ?_ | with_reducible refine giv r_min3 ?_ | with_reducible refine giv r_isn1 ?_ | with_reducible refine giv r_isn2 ?_ | with_reducible refine giv r_isn3 ?_ | with_reducible refine giv r_isn4 ?_ | with_reducible refine giv r_isn5 ?_ | with_reducible refine giv r_ntn1 ?_ | with_reducible refine giv r_ntn2 ?_ | with_reducible refine giv r_ntn3 ?_ | with_reducible refine giv r_ntn4 ?_ | with_reducible refine giv r_ntn5 ?_ | with_reducible refine giv r_eqn1 ?_ | with_reducible refine giv r_eqn2 ?_ | ((with_reducible refine' giv ?s0 ?_); (case s0 => (first | exact (rfl : _ = some (D.bl true)) | exact (rfl : _ = some (D.bl false))))) | ((with_reducible refine' giv_ixs_all ?s0 ?s1 ?s2 ?_); (case s0 => (first | assumption | decide | omega | (show _ ≤ 16777216; omega) | (show _ < 16777216; omega) | (simp only [List.length_append, List.length_cons, List.length_nil, List.length_replicate, List.length_map, List.length_take, List.length_drop, List.length_dropLast]; first | omega | (show _ ≤ 16777216; omega)))); (case s1 => (first | assumption | decide | omega)); (case s2 => (first | assumption | (refine Int.lt_of_lt_of_le (by assumption) ?_; decide) | (show _ < (_ : Int); omega) | (simp only [List.length_append, List.length_cons, List.length_nil]; omega))); intro _ _))) | ((with_reducible refine gBrn ?_); (first | with_reducible refine brn_t ?_ | with_reducible refine brn_f ?_ | with_reducible refine brn_nT ?_ | with_reducible refine brn_nF ?_ | with_reducible refine brn_nn ?_ | ((with_reducible refine' brn_dt ?s0 ?_); (case s0 => decide)) | ((with_reducible refine' brn_df ?s0 ?_); (case s0 => decide)) | ((with_reducible refine' brn_nt ?s0 ?_); (case s0 => decide)) | ((with_reducible refine' brn_nf ?s0 ?_); (case s0 => decide)))) | ((with_reducible refine gFv ?_); (first | ((with_reducible refine' fv_nextE ?s0 ?s1 ?_); (case s0 => assumption); (case s1 => (first | assumption | decide | omega)); intro _ _ _ _ _; (try dsimp only [puts, put, agI, outsOf, slOf, List.set_cons_zero, List.set_cons_succ, List.getElem?_cons_zero, List.getElem?_cons_succ, wipeR, backR, Option.getD_some, stl])) | ((with_reducible refine' fv_drawE ?s0 ?_); (case s0 => assumption); intro _ _) | with_reducible refine fv_signs ?_ | (walk_at "fn"))) | with_reducible refine ret_z ?_ | with_reducible refine ret_r ?_ | ((with_reducible refine' ret_b ?s0 ?_); (case s0 => (rfl))) | ((with_reducible refine' see2 ?s0 ?s1 ?_); (case s0 => (rfl)); (case s1 => (rfl))) | ((with_reducible refine' see1 ?s0 ?_); (case s0 => (rfl))) | ((with_reducible refine' sees ?s0 ?_); (case s0 => (rfl))) | with_reducible refine isI ?_ | with_reducible refine isB ?_ | with_reducible refine isBD ?_ | ((with_reducible refine' frzs' ?s0 (And.intro ?s1 ?_)); (case s0 => rfl); (case s1 => (first | decide | simp)); (try dsimp only [puts, put, agI, outsOf, slOf, List.set_cons_zero, List.set_cons_succ, List.getElem?_cons_zero, List.getElem?_cons_succ, wipeR, backR, Option.getD_some, stl])) | ((with_reducible refine' arg ?s0 ?s1 ?s2 ?_); (case s0 => (rfl)); (case s1 => (rfl)); (case s2 => (first | exact List.nodup_nil | exact nodup1 | simp [agI])); (try dsimp only [puts, put, agI, outsOf, slOf, List.set_cons_zero, List.set_cons_succ, List.getElem?_cons_zero, List.getElem?_cons_succ, wipeR, backR, Option.getD_some, stl])) | ((with_reducible refine' ex_asg ?s0 ?_); (case s0 => (first | rfl | assumption)); (try dsimp only [puts, put, agI, outsOf, slOf, List.set_cons_zero, List.set_cons_succ, List.getElem?_cons_zero, List.getElem?_cons_succ, wipeR, backR, Option.getD_some, stl])) | ((with_reducible refine' ex_asg' ?s0 ?_); (case s0 => (first | rfl | assumption)); (try dsimp only [puts, put, agI, outsOf, slOf, List.set_cons_zero, List.set_cons_succ, List.getElem?_cons_zero, List.getElem?_cons_succ, wipeR, backR, Option.getD_some, stl])) | ((with_reducible refine' ex_asg'' ?s0 ?_); (case s0 => (rfl)); (try dsimp only [puts, put, agI, outsOf, slOf, List.set_cons_zero, List.set_cons_succ, List.getElem?_cons_zero, List.getElem?_cons_succ, wipeR, backR, Option.getD_some, stl])) | ((with_reducible refine' ex_asgT ?s0 ?_); (case s0 => (rfl)); (try dsimp only [puts, put, agI, outsOf, slOf, List.set_cons_zero, List.set_cons_succ, List.getElem?_cons_zero, List.getElem?_cons_succ, wipeR, backR, Option.getD_some, stl])) | ((with_reducible refine' nbw_z ?_); (try dsimp only [puts, put, agI, outsOf, slOf, List.set_cons_zero, List.set_cons_succ, List.getElem?_cons_zero, List.getElem?_cons_succ, wipeR, backR, Option.getD_some, stl])) | ((with_reducible refine' nbw_r ?_); (try dsimp only [puts, put, agI, outsOf, slOf, List.set_cons_zero, List.set_cons_succ, List.getElem?_cons_zero, List.getElem?_cons_succ, wipeR, backR, Option.getD_some, stl])) | ((with_reducible refine' own_at ?s0 (And.intro ?s1 ?_)); (case s0 => rfl); (case s1 => exact ⟨_, by assumption⟩); intro _ _; (try dsimp only [puts, put, agI, outsOf, slOf, List.set_cons_zero, List.set_cons_succ, List.getElem?_cons_zero, List.getElem?_cons_succ, wipeR, backR, Option.getD_some, stl])) | ((with_reducible refine gSv ?_); (first | with_reducible refine sv_asg_s ?_ | with_reducible refine sv_nx_s ?_ | with_reducible refine sv_ret_s ?_ | with_reducible refine sv_seq_s ?_ | with_reducible refine sv_drop_s ?_ | ((with_reducible refine' sv_app_s ?s0 ?_); (case s0 => (rfl))) | ((with_reducible refine' sv_app_l ?s0 ?_); (case s0 => (rfl))) | with_reducible refine sv_asg_l ?_ | with_reducible refine sv_if_l ?_ | with_reducible refine sv_ret_l ?_ | with_reducible refine sv_nx ?_ | with_reducible refine sv_asgT_s ?_ | with_reducible refine sv_asgT_l ?_ | with_reducible refine sv_set4_s ?_))))
local macro_rules | `(tactic| walk_at "b") => `(tactic| (first | ((with_reducible refine' giv_ixl_all ?s0 ?s1 ?_); (case s0 => (first | assumption | decide | omega)); (case s1 => (first | assumption | (refine Int.lt_of_lt_of_le (by assumption) ?_; decide) | (show _ < (_ : Int); omega) | (simp only [List.length_append, List.length_cons, List.length_nil]; omega))); repeat' (first | exact all_nil | refine all_cons ?_ ?_)) | ((with_reducible refine brn_d ?_ ?_) <;> intro _ <;> (first | (exfalso; omega) | skip)) | ((with_reducible refine brn_nd ?_ ?_) <;> intro _ <;> (first | (exfalso; omega) | skip)) | ((with_reducible refine brn_c ?_ ?_) <;> intro _ <;> (first | (exfalso; omega) | contradiction | (subst_vars; contradiction) | skip))))
local macro_rules | `(tactic| walk_at "n") => `(tactic| (try dsimp only [puts, put, agI, outsOf, slOf, List.map, List.set_cons_zero, List.set_cons_succ, List.getElem?_cons_zero, List.getElem?_cons_succ, wipeR, backR, Option.getD_some, List.replicate, List.cons_append, List.nil_append, List.append_eq, List.append_nil, Nat.reduceSub, FEnd, Ret, noBw, stl]))
local macro_rules | `(tactic| walk_at "g") => `(tactic| (repeat (walk_at "s1")))
local macro_rules | `(tactic| walk_at "gS") => `(tactic| (repeat (walk_at "s2")))
local macro_rules | `(tactic| walk_at "x") => `(tactic| (repeat' (first | (walk_at "s1") | (walk_at "b"))))
local macro_rules | `(tactic| walk_at "xS") => `(tactic| (repeat' (first | (walk_at "s2") | (walk_at "b"))))
--HDREND
theorem all_rep {b : T} {lo : Nat} {hi : Option Nat} {lz : Bool} (h : b.All Ok1) (h1 : lo < 1000) (h2 : ∀ h, hi = some h → h < 1000) : (T.rep b lo hi lz).All Ok1 := by simp only [T.All]; exact ⟨⟨h1, h2⟩, h⟩
theorem all_group {b : T} {n : List Nat} (h : b.All Ok1) (h1 : NmOk n) : (T.group n b).All Ok1 := by simp only [T.All]; exact ⟨h1.2, h⟩
theorem all_look {b : T} {a w : Bool} (h : b.All Ok1) : (T.look a w b).All Ok1 := by simp only [T.All]; exact ⟨trivial, h⟩
theorem ks_app {ks : List (List Nat)} {n : List Nat} : ks.map D.str ++ [.str n] = (ks ++ [n]).map D.str := by rw [List.map_append]; rfl
theorem ks_snoc {ks : List (List Nat)} {n : List Nat} (h : ∀ k ∈ ks, NmOk k) (hn : NmOk n) : ∀ k ∈ ks ++ [n], NmOk k := fun k hk => by
  rcases List.mem_append.mp hk with hk | hk
  · exact h k hk
  · rw [List.mem_singleton.mp hk]; exact hn
theorem form_ok : ∀ n, FormSpec n
  | 0 => ⟨fun _ h => by omega⟩
  | n + 1 => by
    have ih : FormSpec n := form_ok n
    refine ⟨fun {xs ks e f nd d o Q} hn hn1 hd hk hkl f0 f1 n1 d1 q => ?_⟩
    have qrep : ∀ (b : T) (lo : Nat) (hi : Option Nat) (lz : Bool) (ys : List Sw.D) (ks' : List (List Nat)) (e' : Int), b.All Ok1 → lo < 1000 → (∀ h, hi = some h → h < 1000) → (b.size : Int) + 1 ≤ max 1 nd → (b.depth : Int) + 1 ≤ max 1 d → DrE e' ys → (∀ k ∈ ks', NmOk k) → ks'.length ≤ ks.length + b.size → Q (.fz (.tup [.str tREP, b.D, .int lo, hiD hi, .bl lz])) [ys, ks'.map D.str] := fun b lo hi lz ys ks' e' h1 h2 h3 h4 h5 h6 h7 h8 => by
      have := q (.rep b lo hi lz) ys ks' e' (all_rep h1 h2 h3) (by simp only [T.size]; omega) (by simp only [T.depth]; omega) h6 h7 (by simp only [T.size]; omega)
      rwa [D_rep] at this
    have tipq : ∀ ys (ρ : Rho) c, DrE e ys → ρ = [.io ys, .d (.int f), .d (.int nd), .d (.int d), .d (.bl o), .io (ks.map D.str), .d (.int c), .no, .no, .no, .no, .no, .no, .no, .no, .no, .no] → Sv (sRet (eCall f_law_tip_v101 [true, false, true] (aCons (eVar 0) (aCons (eVar 4) (aCons (eVar 5) aNil))))) ρ (FEnd Q [.li xs, .da (.int f), .da (.int nd), .da (.int d), .da (.bl o), .li (ks.map D.str)]) := by
      rintro ys ρ c hd rfl
      walk_at "g"
      refine tip_ok hd hk fun t y2 h1 h2 h3 h4 => ?_
      walk_at "g"
      walk_at "n"
      exact q t y2 ks e h1 (by omega) (by omega) h4 hk (by omega)
    unfold fx_law_form
    refine fv_fn rfl ?_
    walk_at "n"
    unfold b_law_form
    rw [next_eq]
    walk_at "gS"
    rename_i c y1 c0 c1 hd1
    -- a tip
    refine sv_if_s ?_
    walk_at "g"
    refine brn_d (fun z => sv_rets (tipq y1 _ c hd1 rfl)) (fun z => sv_nx_s ?_)
    -- parts
    refine sv_if_s ?_
    walk_at "g"
    refine brn_d (fun z2 => ?_) (fun z2 => sv_nx_s ?_)
    · walk_at "gS"
      rename_i a y2 a0 a1 hd2 g y3 g0 g1 hd3
      generalize hm : min (min (2 + a) (nd - 1)) f = m
      refine sv_seq ?_
      refine form_loop ih (hn := by omega) (hn1 := by omega) hd3 hk (by omega) f0 f1 n1 d1 (by omega) (by omega) (by omega) g0 _ ?_
      intro ts y4 ks4 e4 x ha hsz hdp hd4 hk4 hkl4
      have c2 : c / 5 = 0 ∨ c / 5 = 1 := by omega
      have at' : ∃ w, (w = tSEQ ∨ w = tALT) ∧ atI [Sw.D.str [115, 101, 113], .str [97, 108, 116]] (c / 5) = some (.str w) := by
        rcases c2 with h | h
        · rw [h]; exact ⟨tSEQ, .inl rfl, rfl⟩
        · rw [h]; exact ⟨tALT, .inr rfl, rfl⟩
      obtain ⟨w, hw, at'⟩ := at'
      obtain ⟨t, e1, e2, e3, e4'⟩ := seqalt ts w hw
      walk_at "g"
      walk_at "n"
      rw [← e1]
      exact q t y4 ks4 e4 (e4' ha) (by rw [e2]; omega) (by rw [e3]; omega) hd4 hk4 (by rw [e2]; omega)
    -- a repeat
    refine sv_if_s ?_
    walk_at "g"
    refine brn_d (fun z3 => ?_) (fun z3 => sv_nx_s ?_)
    · walk_at "gS"
      refine numbers_ok hd1 f0 f1 (fun a y2 a0 a1 a2 hd2 => ?_) (fun a b y2 a0 a1 a2 a3 hd2 => ?_)
      · walk_at "gS"
        rename_i r y3 _ _ hd3
        refine times_N ?_
        walk_at "gS"
        have d1' : 1 ≤ f / max 1 (a + 1) := Int.le_ediv_of_mul_le (by omega) (by omega)
        have d2' : f / max 1 (a + 1) ≤ 33 := by have := Int.ediv_le_self (a := f) (max 1 (a + 1)) (by omega); omega
        refine ih.out (by omega) (by omega) hd3 hk (by omega) d1' d2' (by omega) (by omega) fun t y4 ks4 e4 h1 h2 h3 h4 h5 h6 => ?_
        walk_at "g"
        walk_at "n"
        have := qrep t a.toNat none (decide (r = 0)) y4 ks4 e4 h1 (by omega) (fun h e => by cases e) (by omega) (by omega) h4 h5 h6
        rw [show ((a.toNat : Nat) : Int) = a by omega] at this
        exact this
      · walk_at "gS"
        rename_i r y3 _ _ hd3
        refine times_S ?_
        walk_at "gS"
        have d1' : 1 ≤ f / max 1 b := Int.le_ediv_of_mul_le (by omega) (by omega)
        have d2' : f / max 1 b ≤ 33 := by have := Int.ediv_le_self (a := f) (max 1 b) (by omega); omega
        refine ih.out (by omega) (by omega) hd3 hk (by omega) d1' d2' (by omega) (by omega) fun t y4 ks4 e4 h1 h2 h3 h4 h5 h6 => ?_
        walk_at "g"
        walk_at "n"
        have := qrep t a.toNat (some b.toNat) (decide (r = 0)) y4 ks4 e4 h1 (by omega) (fun h e => by cases e; omega) (by omega) (by omega) h4 h5 h6
        rw [show ((a.toNat : Nat) : Int) = a by omega, show hiD (some b.toNat) = .int b by show Sw.D.int ((b.toNat : Nat) : Int) = _; rw [show ((b.toNat : Nat) : Int) = b by omega]] at this
        exact this
    -- a group
    refine sv_if_s ?_
    walk_at "g"
    refine brn_d (fun z4 => ?_) (fun z4 => sv_nx_s ?_)
    · walk_at "gS"
      refine group_name_ok hd1 hk fun nm y2 hnm hd2 => ?_
      walk_at "gS"
      refine app rfl rfl (by rw [List.length_map]; show _ < 16777216; omega) ?_
      walk_at "n"
      rw [ks_app]
      walk_at "gS"
      refine ih.out (by omega) (by omega) hd2 (ks_snoc hk hnm) (by rw [List.length_append]; show ((ks.length + 1 : Nat) : Int) + _ ≤ 1000; omega) f0 f1 (by omega) (by omega) fun t y4 ks4 e4 h1 h2 h3 h4 h5 h6 => ?_
      walk_at "g"
      walk_at "n"
      have h6' : ks4.length ≤ ks.length + 1 + t.size := by rw [List.length_append] at h6; exact h6
      have := q (.group nm t) y4 ks4 e4 (all_group h1 hnm) (by simp only [T.size]; omega) (by simp only [T.depth]; omega) h4 h5 (by simp only [T.size]; omega)
      rw [D_group] at this
      exact this
    -- a look
    refine sv_if_s ?_
    walk_at "g"
    refine brn_d (fun z5 => ?_) (fun z5 => sv_nx_s (tipq y1 _ c hd1 rfl))
    have qlook : ∀ (ah : Bool) (w : Bool) (t : T) (ys : List Sw.D) (ks' : List (List Nat)) (e' : Int), t.All Ok1 → (t.size : Int) ≤ max 1 (nd - 1) → (t.depth : Int) ≤ max 1 (d - 1) → DrE e' ys → (∀ k ∈ ks', NmOk k) → ks'.length ≤ ks.length + t.size → Q (.fz (.tup [.str tLOOK, .str (sideS ah), .bl w, t.D])) [ys, ks'.map D.str] := fun ah w t ys ks' e' h1 h2 h3 h4 h5 h6 => by
      have := q (.look ah w t) ys ks' e' (all_look h1) (by simp only [T.size]; omega) (by simp only [T.depth]; omega) h4 h5 (by simp only [T.size]; omega)
      rwa [D_look] at this
    walk_at "xS"
    all_goals refine ih.out (by omega) (by omega) (by assumption) hk (by omega) f0 f1 (by omega) (by omega) fun t y4 ks4 e4 h1 h2 h3 h4 h5 h6 => ?_
    all_goals walk_at "g"
    all_goals walk_at "n"
    · exact qlook true _ t y4 ks4 e4 h1 h2 h3 h4 h5 h6
    · exact qlook false _ t y4 ks4 e4 h1 h2 h3 h4 h5 h6
end K10
set_option Elab.async false
set_option linter.all false
set_option maxRecDepth 100000
set_option maxHeartbeats 4000000
namespace K10
open Sw L2 Tre Runs
--HDR
local macro_rules | `(tactic| walk_at "fn") => `(tactic| (fail))
local macro_rules | `(tactic| walk_at "s1") => `(tactic| (first | ((with_reducible refine gEv ?_); (first | ((with_reducible refine' ev_tAnd_d ?s0 ?s1 ?_); (case s0 => (intro Q q; walk_at "g"; (first | exact q | exact toD_n q | exact toD_t q | exact toD_f q | exact toD_b q))); (case s1 => (intro hp Q q; walk_at "g"; (first | exact q | exact toD_n q | exact toD_t q | exact toD_f q | exact toD_b q)))) | ((with_reducible refine' ev_tOr_d ?s0 ?s1 ?_); (case s0 => (intro Q q; walk_at "g"; (first | exact q | exact toD_n q | exact toD_t q | exact toD_f q | exact toD_b q))); (case s1 => (intro hp Q q; walk_at "g"; (first | exact q | exact toD_n q | exact toD_t q | exact toD_f q | exact toD_b q)))) | with_reducible refine ev_c ?_ | ((with_reducible refine' ev_vd ?s0 ?_); (case s0 => (rfl))) | ((with_reducible refine' ev_vo ?s0 ?_); (case s0 => (rfl))) | ((with_reducible refine' ev_vi ?s0 ?_); (case s0 => (rfl))) | with_reducible refine ev_bin ?_ | with_reducible refine ev_un ?_ | with_reducible refine ev_anil ?_ | with_reducible refine ev_acons ?_ | with_reducible refine ev_blt ?_ | with_reducible refine ev_met ?_ | with_reducible refine ev_ono ?_ | with_reducible refine ev_osome ?_ | with_reducible refine ev_sl ?_ | with_reducible refine ev_tup ?_ | with_reducible refine ev_lst ?_ | with_reducible refine ev_tE ?_ | with_reducible refine ev_tyes ?_ | with_reducible refine ev_tAnd ?_ | with_reducible refine ev_tOr ?_ | with_reducible refine ev_tNot ?_ | with_reducible refine ev_eAnd ?_ | with_reducible refine ev_eOr ?_ | with_reducible refine ev_eNot ?_ | with_reducible refine ev_eIf ?_ | with_reducible refine ev_chain ?_ | with_reducible refine ev_call ?_)) | ((with_reducible refine gGiv ?_); (first | ((with_reducible refine' giv_mod ?s0 ?_); (case s0 => (first | assumption | decide | omega | (show _ ≤ 16777216; omega) | (show _ < 16777216; omega) | (simp only [List.length_append, List.length_cons, List.length_nil, List.length_replicate, List.length_map, List.length_take, List.length_drop, List.length_dropLast]; first | omega | (show _ ≤ 16777216; omega))))) | ((with_reducible refine' giv_div ?s0 ?_); (case s0 => (first | assumption | decide | omega | (show _ ≤ 16777216; omega) | (show _ < 16777216; omega) | (simp only [List.length_append, List.length_cons, List.length_nil, List.length_replicate, List.length_map, List.length_take, List.length_drop, List.length_dropLast]; first | omega | (show _ ≤ 16777216; omega))))) | ((with_reducible refine' giv_mul ?s0 ?_); (case s0 => (first | assumption | exact cMul_r (by decide) | exact cMul_r (by omega)))) | ((with_reducible refine' giv_muls ?s0 ?_); (case s0 => (first | assumption | decide | omega | (show _ ≤ 16777216; omega) | (show _ < 16777216; omega) | (simp only [List.length_append, List.length_cons, List.length_nil, List.length_replicate, List.length_map, List.length_take, List.length_drop, List.length_dropLast]; first | omega | (show _ ≤ 16777216; omega))))) | ((with_reducible refine' giv_adds ?s0 ?_); (case s0 => (first | assumption | decide | omega | (show _ ≤ 16777216; omega) | (show _ < 16777216; omega) | (simp only [List.length_append, List.length_cons, List.length_nil, List.length_replicate, List.length_map, List.length_take, List.length_drop, List.length_dropLast]; first | omega | (show _ ≤ 16777216; omega))))) | ((with_reducible refine' giv_addl ?s0 ?_); (case s0 => (first | assumption | decide | omega | (show _ ≤ 16777216; omega) | (show _ < 16777216; omega) | (simp only [List.length_append, List.length_cons, List.length_nil, List.length_replicate, List.length_map, List.length_take, List.length_drop, List.length_dropLast]; first | omega | (show _ ≤ 16777216; omega))))) | ((with_reducible refine' giv_ixl ?s0 ?_); (case s0 => (first | assumption | rfl | exact atI_zero))) | ((with_reducible refine' giv_ixt ?s0 ?_); (case s0 => (first | assumption | rfl | exact atI_zero))) | ((with_reducible refine' giv_ixs ?s0 ?s1 ?_); (case s0 => (first | assumption | decide | omega | (show _ ≤ 16777216; omega) | (show _ < 16777216; omega) | (simp only [List.length_append, List.length_cons, List.length_nil, List.length_replicate, List.length_map, List.length_take, List.length_drop, List.length_dropLast]; first | omega | (show _ ≤ 16777216; omega)))); (case s1 => (first | assumption | rfl))) | ((with_reducible refine' giv_dr4 ?s0 ?_); (case s0 => (assumption))) | ((with_reducible refine' giv_slm1 ?s0 ?_); (case s0 => (first | assumption | decide | omega | (show _ ≤ 16777216; omega) | (show _ < 16777216; omega) | (simp only [List.length_append, List.length_cons, List.length_nil, List.length_replicate, List.length_map, List.length_take, List.length_drop, List.length_dropLast]; first | omega | (show _ ≤ 16777216; omega))))) | ((with_reducible refine' giv_slt ?s0 ?s1 ?_); (case s0 => (first | assumption | decide | omega | (show _ ≤ 16777216; omega) | (show _ < 16777216; omega) | (simp only [List.length_append, List.length_cons, List.length_nil, List.length_replicate, List.length_map, List.length_take, List.length_drop, List.length_dropLast]; first | omega | (show _ ≤ 16777216; omega)))); (case s1 => (first | assumption | decide | omega))) | ((with_reducible refine' giv_sld ?s0 ?s1 ?_); (case s0 => (first | assumption | decide | omega | (show _ ≤ 16777216; omega) | (show _ < 16777216; omega) | (simp only [List.length_append, List.length_cons, List.length_nil, List.length_replicate, List.length_map, List.length_take, List.length_drop, List.length_dropLast]; first | omega | (show _ ≤ 16777216; omega)))); (case s1 => (first | assumption | decide | omega))) | ((with_reducible refine' giv_slm ?s0 ?s1 ?s2 ?_); (case s0 => (first | assumption | decide | omega | (show _ ≤ 16777216; omega) | (show _ < 16777216; omega) | (simp only [List.length_append, List.length_cons, List.length_nil, List.length_replicate, List.length_map, List.length_take, List.length_drop, List.length_dropLast]; first | omega | (show _ ≤ 16777216; omega)))); (case s1 => (first | assumption | decide | omega)); (case s2 => (first | assumption | decide | omega))) | ((with_reducible refine' giv_sltl ?s0 ?_); (case s0 => (first | assumption | decide | omega))) | ((with_reducible refine' giv_sldl ?s0 ?_); (case s0 => (first | assumption | decide | omega))) | ((with_reducible refine' giv_sls ?s0 ?_); (case s0 => (first | assumption | decide | omega | (show _ ≤ 16777216; omega) | (show _ < 16777216; omega) | (simp only [List.length_append, List.length_cons, List.length_nil, List.length_replicate, List.length_map, List.length_take, List.length_drop, List.length_dropLast]; first | omega | (show _ ≤ 16777216; omega))))) | with_reducible refine giv_sll ?_ | ((with_reducible refine' giv_lens ?s0 ?_); (case s0 => (first | assumption | decide | omega | (show _ ≤ 16777216; omega) | (show _ < 16777216; omega) | (simp only [List.length_append, List.length_cons, List.length_nil, List.length_replicate, List.length_map, List.length_take, List.length_drop, List.length_dropLast]; first | omega | (show _ ≤ 16777216; omega))))) | ((with_reducible refine' giv_revs ?s0 ?_); (case s0 => (first | assumption | decide | omega | (show _ ≤ 16777216; omega) | (show _ < 16777216; omega) | (simp only [List.length_append, List.length_cons, List.length_nil, List.length_replicate, List.length_map, List.length_take, List.length_drop, List.length_dropLast]; first | omega | (show _ ≤ 16777216; omega))))) | with_reducible refine giv_tup ?_ | with_reducible refine giv_tupt ?_ | ((with_reducible refine' giv_str ?s0 ?_); (case s0 => (first | assumption | decide | omega))) | with_reducible refine giv_strN ?_ | with_reducible refine giv_strS ?_ | with_reducible refine giv r_add1 ?_ | with_reducible refine giv r_sub ?_ | with_reducible refine giv r_lt ?_ | with_reducible refine giv r_lts ?_ | with_reducible refine giv r_le ?_ | with_reducible refine giv r_gt ?_ | with_reducible refine giv r_ge ?_ | with_reducible refine giv r_eqi ?_ | with_reducible refine giv r_eqs ?_ | with_reducible refine giv r_eqb ?_ | with_reducible refine giv r_nei ?_ | with_reducible refine giv r_nes ?_ | with_reducible refine giv r_neb ?_ | with_reducible refine giv r_isb ?_ | with_reducible refine giv r_ntb ?_ | with_reducible refine giv r_ins ?_ | with_reducible refine giv r_nis ?_ | with_reducible refine giv r_neg ?_ | with_reducible refine giv r_len2 ?_ | with_reducible refine giv r_len3 ?_ | with_reducible refine giv r_int1 ?_ | with_reducible refine giv r_fFind ?_ | with_reducible refine giv r_rev1 ?_ | with_reducible refine giv r_fIsi1 ?_ | with_reducible refine giv r_fIsi2 ?_ | with_reducible refine giv r_fIsi3 ?_ | with_reducible refine giv r_fIsi4 ?_ | with_reducible refine giv r_fIsi5 ?_ | with_reducible refine giv r_fIsi6 ?_ | with_reducible refine giv r_min2 ?_ | with_reducible refine giv r_max2 ?_ | with_reducible refine giv r_min3 ?_ | with_reducible refine giv r_isn1 ?_ | with_reducible refine giv r_isn2 ?_ | with_reducible refine giv r_isn3 ?_ | with_reducible refine giv r_isn4 ?_ | with_reducible refine giv r_isn5 ?_ | with_reducible refine giv r_ntn1 ?_ | with_reducible refine giv r_ntn2 ?_ | with_reducible refine giv r_ntn3 ?_ | with_reducible refine giv r_ntn4 ?_ | with_reducible refine giv r_ntn5 ?_ | with_reducible refine giv r_eqn1 ?_ | with_reducible refine giv r_eqn2 ?_ | ((with_reducible refine' giv ?s0 ?_); (case s0 => (first | exact (rfl : _ = some (D.bl true)) | exact (rfl : _ = some (D.bl false))))) | ((with_reducible refine' giv_ixs_all ?s0 ?s1 ?s2 ?_); (case s0 => (first | assumption | decide | omega | (show _ ≤ 16777216; omega) | (show _ < 16777216; omega) | (simp only [List.length_append, List.length_cons, List.length_nil, List.length_replicate, List.length_map, List.length_take, List.length_drop, List.length_dropLast]; first | omega | (show _ ≤ 16777216; omega)))); (case s1 => (first | assumption | decide | omega)); (case s2 => (first | assumption | (refine Int.lt_of_lt_of_le (by assumption) ?_; decide) | (show _ < (_ : Int); omega) | (simp only [List.length_append, List.length_cons, List.length_nil]; omega))); intro _ _))) | ((with_reducible refine gBrn ?_); (first | with_reducible refine brn_t ?_ | with_reducible refine brn_f ?_ | with_reducible refine brn_nT ?_ | with_reducible refine brn_nF ?_ | with_reducible refine brn_nn ?_ | ((with_reducible refine' brn_dt ?s0 ?_); (case s0 => decide)) | ((with_reducible refine' brn_df ?s0 ?_); (case s0 => decide)) | ((with_reducible refine' brn_nt ?s0 ?_); (case s0 => decide)) | ((with_reducible refine' brn_nf ?s0 ?_); (case s0 => decide)))) | ((with_reducible refine gFv ?_); (first | ((with_reducible refine' fv_nextE ?s0 ?s1 ?_); (case s0 => assumption); (case s1 => (first | assumption | decide | omega)); intro _ _ _ _ _; (try dsimp only [puts, put, agI, outsOf, slOf, List.set_cons_zero, List.set_cons_succ, List.getElem?_cons_zero, List.getElem?_cons_succ, wipeR, backR, Option.getD_some, stl])) | ((with_reducible refine' fv_drawE ?s0 ?_); (case s0 => assumption); intro _ _) | with_reducible refine fv_signs ?_ | (walk_at "fn"))) | with_reducible refine ret_z ?_ | with_reducible refine ret_r ?_ | ((with_reducible refine' ret_b ?s0 ?_); (case s0 => (rfl))) | ((with_reducible refine' see2 ?s0 ?s1 ?_); (case s0 => (rfl)); (case s1 => (rfl))) | ((with_reducible refine' see1 ?s0 ?_); (case s0 => (rfl))) | ((with_reducible refine' sees ?s0 ?_); (case s0 => (rfl))) | with_reducible refine isI ?_ | with_reducible refine isB ?_ | with_reducible refine isBD ?_ | ((with_reducible refine' frzs' ?s0 (And.intro ?s1 ?_)); (case s0 => rfl); (case s1 => (first | decide | simp)); (try dsimp only [puts, put, agI, outsOf, slOf, List.set_cons_zero, List.set_cons_succ, List.getElem?_cons_zero, List.getElem?_cons_succ, wipeR, backR, Option.getD_some, stl])) | ((with_reducible refine' arg ?s0 ?s1 ?s2 ?_); (case s0 => (rfl)); (case s1 => (rfl)); (case s2 => (first | exact List.nodup_nil | exact nodup1 | simp [agI])); (try dsimp only [puts, put, agI, outsOf, slOf, List.set_cons_zero, List.set_cons_succ, List.getElem?_cons_zero, List.getElem?_cons_succ, wipeR, backR, Option.getD_some, stl])) | ((with_reducible refine' ex_asg ?s0 ?_); (case s0 => (first | rfl | assumption)); (try dsimp only [puts, put, agI, outsOf, slOf, List.set_cons_zero, List.set_cons_succ, List.getElem?_cons_zero, List.getElem?_cons_succ, wipeR, backR, Option.getD_some, stl])) | ((with_reducible refine' ex_asg' ?s0 ?_); (case s0 => (first | rfl | assumption)); (try dsimp only [puts, put, agI, outsOf, slOf, List.set_cons_zero, List.set_cons_succ, List.getElem?_cons_zero, List.getElem?_cons_succ, wipeR, backR, Option.getD_some, stl])) | ((with_reducible refine' ex_asg'' ?s0 ?_); (case s0 => (rfl)); (try dsimp only [puts, put, agI, outsOf, slOf, List.set_cons_zero, List.set_cons_succ, List.getElem?_cons_zero, List.getElem?_cons_succ, wipeR, backR, Option.getD_some, stl])) | ((with_reducible refine' ex_asgT ?s0 ?_); (case s0 => (rfl)); (try dsimp only [puts, put, agI, outsOf, slOf, List.set_cons_zero, List.set_cons_succ, List.getElem?_cons_zero, List.getElem?_cons_succ, wipeR, backR, Option.getD_some, stl])) | ((with_reducible refine' nbw_z ?_); (try dsimp only [puts, put, agI, outsOf, slOf, List.set_cons_zero, List.set_cons_succ, List.getElem?_cons_zero, List.getElem?_cons_succ, wipeR, backR, Option.getD_some, stl])) | ((with_reducible refine' nbw_r ?_); (try dsimp only [puts, put, agI, outsOf, slOf, List.set_cons_zero, List.set_cons_succ, List.getElem?_cons_zero, List.getElem?_cons_succ, wipeR, backR, Option.getD_some, stl])) | ((with_reducible refine' own_at ?s0 (And.intro ?s1 ?_)); (case s0 => rfl); (case s1 => exact ⟨_, by assumption⟩); intro _ _; (try dsimp only [puts, put, agI, outsOf, slOf, List.set_cons_zero, List.set_cons_succ, List.getElem?_cons_zero, List.getElem?_cons_succ, wipeR, backR, Option.getD_some, stl])) | ((with_reducible refine gSv ?_); (first | with_reducible refine sv_asg_s ?_ | with_reducible refine sv_nx_s ?_ | with_reducible refine sv_if_s ?_ | with_reducible refine sv_ret_s ?_ | with_reducible refine sv_seq_s ?_ | with_reducible refine sv_drop_s ?_ | ((with_reducible refine' sv_app_s ?s0 ?_); (case s0 => (rfl))) | ((with_reducible refine' sv_app_l ?s0 ?_); (case s0 => (rfl))) | with_reducible refine sv_asg_l ?_ | with_reducible refine sv_if_l ?_ | with_reducible refine sv_ret_l ?_ | with_reducible refine sv_nx ?_ | with_reducible refine sv_asgT_s ?_ | with_reducible refine sv_asgT_l ?_ | with_reducible refine sv_set4_s ?_))))
local macro_rules | `(tactic| walk_at "s2") => `(tactic| (first | ((with_reducible refine gEv ?_); (first | ((with_reducible refine' ev_tAnd_d ?s0 ?s1 ?_); (case s0 => (intro Q q; walk_at "g"; (first | exact q | exact toD_n q | exact toD_t q | exact toD_f q | exact toD_b q))); (case s1 => (intro hp Q q; walk_at "g"; (first | exact q | exact toD_n q | exact toD_t q | exact toD_f q | exact toD_b q)))) | ((with_reducible refine' ev_tOr_d ?s0 ?s1 ?_); (case s0 => (intro Q q; walk_at "g"; (first | exact q | exact toD_n q | exact toD_t q | exact toD_f q | exact toD_b q))); (case s1 => (intro hp Q q; walk_at "g"; (first | exact q | exact toD_n q | exact toD_t q | exact toD_f q | exact toD_b q)))) | with_reducible refine ev_c ?_ | ((with_reducible refine' ev_vd ?s0 ?_); (case s0 => (rfl))) | ((with_reducible refine' ev_vo ?s0 ?_); (case s0 => (rfl))) | ((with_reducible refine' ev_vi ?s0 ?_); (case s0 => (rfl))) | with_reducible refine ev_bin ?_ | with_reducible refine ev_un ?_ | with_reducible refine ev_anil ?_ | with_reducible refine ev_acons ?_ | with_reducible refine ev_blt ?_ | with_reducible refine ev_met ?_ | with_reducible refine ev_ono ?_ | with_reducible refine ev_osome ?_ | with_reducible refine ev_sl ?_ | with_reducible refine ev_tup ?_ | with_reducible refine ev_lst ?_ | with_reducible refine ev_tE ?_ | with_reducible refine ev_tyes ?_ | with_reducible refine ev_tAnd ?_ | with_reducible refine ev_tOr ?_ | with_reducible refine ev_tNot ?_ | with_reducible refine ev_eAnd ?_ | with_reducible refine ev_eOr ?_ | with_reducible refine ev_eNot ?_ | with_reducible refine ev_eIf ?_ | with_reducible refine ev_chain ?_ | with_reducible refine ev_call ?_)) | ((with_reducible refine gGiv ?_); (first | ((with_reducible refine' giv_mod ?s0 ?_); (case s0 => (first | assumption | decide | omega | (show _ ≤ 16777216; omega) | (show _ < 16777216; omega) | (simp only [List.length_append, List.length_cons, List.length_nil, List.length_replicate, List.length_map, List.length_take, List.length_drop, List.length_dropLast]; first | omega | (show _ ≤ 16777216; omega))))) | ((with_reducible refine' giv_div ?s0 ?_); (case s0 => (first | assumption | decide | omega | (show _ ≤ 16777216; omega) | (show _ < 16777216; omega) | (simp only [List.length_append, List.length_cons, List.length_nil, List.length_replicate, List.length_map, List.length_take, List.length_drop, List.length_dropLast]; first | omega | (show _ ≤ 16777216; omega))))) | ((with_reducible refine' giv_mul ?s0 ?_); (case s0 => (first | assumption | exact cMul_r (by decide) | exact cMul_r (by omega)))) | ((with_reducible refine' giv_muls ?s0 ?_); (case s0 => (first | assumption | decide | omega | (show _ ≤ 16777216; omega) | (show _ < 16777216; omega) | (simp only [List.length_append, List.length_cons, List.length_nil, List.length_replicate, List.length_map, List.length_take, List.length_drop, List.length_dropLast]; first | omega | (show _ ≤ 16777216; omega))))) | ((with_reducible refine' giv_adds ?s0 ?_); (case s0 => (first | assumption | decide | omega | (show _ ≤ 16777216; omega) | (show _ < 16777216; omega) | (simp only [List.length_append, List.length_cons, List.length_nil, List.length_replicate, List.length_map, List.length_take, List.length_drop, List.length_dropLast]; first | omega | (show _ ≤ 16777216; omega))))) | ((with_reducible refine' giv_addl ?s0 ?_); (case s0 => (first | assumption | decide | omega | (show _ ≤ 16777216; omega) | (show _ < 16777216; omega) | (simp only [List.length_append, List.length_cons, List.length_nil, List.length_replicate, List.length_map, List.length_take, List.length_drop, List.length_dropLast]; first | omega | (show _ ≤ 16777216; omega))))) | ((with_reducible refine' giv_ixl ?s0 ?_); (case s0 => (first | assumption | rfl | exact atI_zero))) | ((with_reducible refine' giv_ixt ?s0 ?_); (case s0 => (first | assumption | rfl | exact atI_zero))) | ((with_reducible refine' giv_ixs ?s0 ?s1 ?_); (case s0 => (first | assumption | decide | omega | (show _ ≤ 16777216; omega) | (show _ < 16777216; omega) | (simp only [List.length_append, List.length_cons, List.length_nil, List.length_replicate, List.length_map, List.length_take, List.length_drop, List.length_dropLast]; first | omega | (show _ ≤ 16777216; omega)))); (case s1 => (first | assumption | rfl))) | ((with_reducible refine' giv_dr4 ?s0 ?_); (case s0 => (assumption))) | ((with_reducible refine' giv_slm1 ?s0 ?_); (case s0 => (first | assumption | decide | omega | (show _ ≤ 16777216; omega) | (show _ < 16777216; omega) | (simp only [List.length_append, List.length_cons, List.length_nil, List.length_replicate, List.length_map, List.length_take, List.length_drop, List.length_dropLast]; first | omega | (show _ ≤ 16777216; omega))))) | ((with_reducible refine' giv_slt ?s0 ?s1 ?_); (case s0 => (first | assumption | decide | omega | (show _ ≤ 16777216; omega) | (show _ < 16777216; omega) | (simp only [List.length_append, List.length_cons, List.length_nil, List.length_replicate, List.length_map, List.length_take, List.length_drop, List.length_dropLast]; first | omega | (show _ ≤ 16777216; omega)))); (case s1 => (first | assumption | decide | omega))) | ((with_reducible refine' giv_sld ?s0 ?s1 ?_); (case s0 => (first | assumption | decide | omega | (show _ ≤ 16777216; omega) | (show _ < 16777216; omega) | (simp only [List.length_append, List.length_cons, List.length_nil, List.length_replicate, List.length_map, List.length_take, List.length_drop, List.length_dropLast]; first | omega | (show _ ≤ 16777216; omega)))); (case s1 => (first | assumption | decide | omega))) | ((with_reducible refine' giv_slm ?s0 ?s1 ?s2 ?_); (case s0 => (first | assumption | decide | omega | (show _ ≤ 16777216; omega) | (show _ < 16777216; omega) | (simp only [List.length_append, List.length_cons, List.length_nil, List.length_replicate, List.length_map, List.length_take, List.length_drop, List.length_dropLast]; first | omega | (show _ ≤ 16777216; omega)))); (case s1 => (first | assumption | decide | omega)); (case s2 => (first | assumption | decide | omega))) | ((with_reducible refine' giv_sltl ?s0 ?_); (case s0 => (first | assumption | decide | omega))) | ((with_reducible refine' giv_sldl ?s0 ?_); (case s0 => (first | assumption | decide | omega))) | ((with_reducible refine' giv_sls ?s0 ?_); (case s0 => (first | assumption | decide | omega | (show _ ≤ 16777216; omega) | (show _ < 16777216; omega) | (simp only [List.length_append, List.length_cons, List.length_nil, List.length_replicate, List.length_map, List.length_take, List.length_drop, List.length_dropLast]; first | omega | (show _ ≤ 16777216; omega))))) | with_reducible refine giv_sll ?_ | ((with_reducible refine' giv_lens ?s0 ?_); (case s0 => (first | assumption | decide | omega | (show _ ≤ 16777216; omega) | (show _ < 16777216; omega) | (simp only [List.length_append, List.length_cons, List.length_nil, List.length_replicate, List.length_map, List.length_take, List.length_drop, List.length_dropLast]; first | omega | (show _ ≤ 16777216; omega))))) | ((with_reducible refine' giv_revs ?s0 ?_); (case s0 => (first | assumption | decide | omega | (show _ ≤ 16777216; omega) | (show _ < 16777216; omega) | (simp only [List.length_append, List.length_cons, List.length_nil, List.length_replicate, List.length_map, List.length_take, List.length_drop, List.length_dropLast]; first | omega | (show _ ≤ 16777216; omega))))) | with_reducible refine giv_tup ?_ | with_reducible refine giv_tupt ?_ | ((with_reducible refine' giv_str ?s0 ?_); (case s0 => (first | assumption | decide | omega))) | with_reducible refine giv_strN ?_ | with_reducible refine giv_strS ?_ | with_reducible refine giv r_add1 ?_ | with_reducible refine giv r_sub ?_ | with_reducible refine giv r_lt ?_ | with_reducible refine giv r_lts ?_ | with_reducible refine giv r_le ?_ | with_reducible refine giv r_gt ?_ | with_reducible refine giv r_ge ?_ | with_reducible refine giv r_eqi ?_ | with_reducible refine giv r_eqs ?_ | with_reducible refine giv r_eqb ?_ | with_reducible refine giv r_nei ?_ | with_reducible refine giv r_nes ?_ | with_reducible refine giv r_neb ?_ | with_reducible refine giv r_isb ?_ | with_reducible refine giv r_ntb ?_ | with_reducible refine giv r_ins ?_ | with_reducible refine giv r_nis ?_ | with_reducible refine giv r_neg ?_ | with_reducible refine giv r_len2 ?_ | with_reducible refine giv r_len3 ?_ | with_reducible refine giv r_int1 ?_ | with_reducible refine giv r_fFind ?_ | with_reducible refine giv r_rev1 ?_ | with_reducible refine giv r_fIsi1 ?_ | with_reducible refine giv r_fIsi2 ?_ | with_reducible refine giv r_fIsi3 ?_ | with_reducible refine giv r_fIsi4 ?_ | with_reducible refine giv r_fIsi5 ?_ | with_reducible refine giv r_fIsi6 ?_ | with_reducible refine giv r_min2 ?_ | with_reducible refine giv r_max2 ?_ | with_reducible refine giv r_min3 ?_ | with_reducible refine giv r_isn1 ?_ | with_reducible refine giv r_isn2 ?_ | with_reducible refine giv r_isn3 ?_ | with_reducible refine giv r_isn4 ?_ | with_reducible refine giv r_isn5 ?_ | with_reducible refine giv r_ntn1 ?_ | with_reducible refine giv r_ntn2 ?_ | with_reducible refine giv r_ntn3 ?_ | with_reducible refine giv r_ntn4 ?_ | with_reducible refine giv r_ntn5 ?_ | with_reducible refine giv r_eqn1 ?_ | with_reducible refine giv r_eqn2 ?_ | ((with_reducible refine' giv ?s0 ?_); (case s0 => (first | exact (rfl : _ = some (D.bl true)) | exact (rfl : _ = some (D.bl false))))) | ((with_reducible refine' giv_ixs_all ?s0 ?s1 ?s2 ?_); (case s0 => (first | assumption | decide | omega | (show _ ≤ 16777216; omega) | (show _ < 16777216; omega) | (simp only [List.length_append, List.length_cons, List.length_nil, List.length_replicate, List.length_map, List.length_take, List.length_drop, List.length_dropLast]; first | omega | (show _ ≤ 16777216; omega)))); (case s1 => (first | assumption | decide | omega)); (case s2 => (first | assumption | (refine Int.lt_of_lt_of_le (by assumption) ?_; decide) | (show _ < (_ : Int); omega) | (simp only [List.length_append, List.length_cons, List.length_nil]; omega))); intro _ _))) | ((with_reducible refine gBrn ?_); (first | with_reducible refine brn_t ?_ | with_reducible refine brn_f ?_ | with_reducible refine brn_nT ?_ | with_reducible refine brn_nF ?_ | with_reducible refine brn_nn ?_ | ((with_reducible refine' brn_dt ?s0 ?_); (case s0 => decide)) | ((with_reducible refine' brn_df ?s0 ?_); (case s0 => decide)) | ((with_reducible refine' brn_nt ?s0 ?_); (case s0 => decide)) | ((with_reducible refine' brn_nf ?s0 ?_); (case s0 => decide)))) | ((with_reducible refine gFv ?_); (first | ((with_reducible refine' fv_nextE ?s0 ?s1 ?_); (case s0 => assumption); (case s1 => (first | assumption | decide | omega)); intro _ _ _ _ _; (try dsimp only [puts, put, agI, outsOf, slOf, List.set_cons_zero, List.set_cons_succ, List.getElem?_cons_zero, List.getElem?_cons_succ, wipeR, backR, Option.getD_some, stl])) | ((with_reducible refine' fv_drawE ?s0 ?_); (case s0 => assumption); intro _ _) | with_reducible refine fv_signs ?_ | (walk_at "fn"))) | with_reducible refine ret_z ?_ | with_reducible refine ret_r ?_ | ((with_reducible refine' ret_b ?s0 ?_); (case s0 => (rfl))) | ((with_reducible refine' see2 ?s0 ?s1 ?_); (case s0 => (rfl)); (case s1 => (rfl))) | ((with_reducible refine' see1 ?s0 ?_); (case s0 => (rfl))) | ((with_reducible refine' sees ?s0 ?_); (case s0 => (rfl))) | with_reducible refine isI ?_ | with_reducible refine isB ?_ | with_reducible refine isBD ?_ | ((with_reducible refine' frzs' ?s0 (And.intro ?s1 ?_)); (case s0 => rfl); (case s1 => (first | decide | simp)); (try dsimp only [puts, put, agI, outsOf, slOf, List.set_cons_zero, List.set_cons_succ, List.getElem?_cons_zero, List.getElem?_cons_succ, wipeR, backR, Option.getD_some, stl])) | ((with_reducible refine' arg ?s0 ?s1 ?s2 ?_); (case s0 => (rfl)); (case s1 => (rfl)); (case s2 => (first | exact List.nodup_nil | exact nodup1 | simp [agI])); (try dsimp only [puts, put, agI, outsOf, slOf, List.set_cons_zero, List.set_cons_succ, List.getElem?_cons_zero, List.getElem?_cons_succ, wipeR, backR, Option.getD_some, stl])) | ((with_reducible refine' ex_asg ?s0 ?_); (case s0 => (first | rfl | assumption)); (try dsimp only [puts, put, agI, outsOf, slOf, List.set_cons_zero, List.set_cons_succ, List.getElem?_cons_zero, List.getElem?_cons_succ, wipeR, backR, Option.getD_some, stl])) | ((with_reducible refine' ex_asg' ?s0 ?_); (case s0 => (first | rfl | assumption)); (try dsimp only [puts, put, agI, outsOf, slOf, List.set_cons_zero, List.set_cons_succ, List.getElem?_cons_zero, List.getElem?_cons_succ, wipeR, backR, Option.getD_some, stl])) | ((with_reducible refine' ex_asg'' ?s0 ?_); (case s0 => (rfl)); (try dsimp only [puts, put, agI, outsOf, slOf, List.set_cons_zero, List.set_cons_succ, List.getElem?_cons_zero, List.getElem?_cons_succ, wipeR, backR, Option.getD_some, stl])) | ((with_reducible refine' ex_asgT ?s0 ?_); (case s0 => (rfl)); (try dsimp only [puts, put, agI, outsOf, slOf, List.set_cons_zero, List.set_cons_succ, List.getElem?_cons_zero, List.getElem?_cons_succ, wipeR, backR, Option.getD_some, stl])) | ((with_reducible refine' nbw_z ?_); (try dsimp only [puts, put, agI, outsOf, slOf, List.set_cons_zero, List.set_cons_succ, List.getElem?_cons_zero, List.getElem?_cons_succ, wipeR, backR, Option.getD_some, stl])) | ((with_reducible refine' nbw_r ?_); (try dsimp only [puts, put, agI, outsOf, slOf, List.set_cons_zero, List.set_cons_succ, List.getElem?_cons_zero, List.getElem?_cons_succ, wipeR, backR, Option.getD_some, stl])) | ((with_reducible refine' own_at ?s0 (And.intro ?s1 ?_)); (case s0 => rfl); (case s1 => exact ⟨_, by assumption⟩); intro _ _; (try dsimp only [puts, put, agI, outsOf, slOf, List.set_cons_zero, List.set_cons_succ, List.getElem?_cons_zero, List.getElem?_cons_succ, wipeR, backR, Option.getD_some, stl])) | ((with_reducible refine gSv ?_); (first | with_reducible refine sv_asg_s ?_ | with_reducible refine sv_nx_s ?_ | with_reducible refine sv_ret_s ?_ | with_reducible refine sv_seq_s ?_ | with_reducible refine sv_drop_s ?_ | ((with_reducible refine' sv_app_s ?s0 ?_); (case s0 => (rfl))) | ((with_reducible refine' sv_app_l ?s0 ?_); (case s0 => (rfl))) | with_reducible refine sv_asg_l ?_ | with_reducible refine sv_if_l ?_ | with_reducible refine sv_ret_l ?_ | with_reducible refine sv_nx ?_ | with_reducible refine sv_asgT_s ?_ | with_reducible refine sv_asgT_l ?_ | with_reducible refine sv_set4_s ?_))))
local macro_rules | `(tactic| walk_at "b") => `(tactic| (first | ((with_reducible refine' giv_ixl_all ?s0 ?s1 ?_); (case s0 => (first | assumption | decide | omega)); (case s1 => (first | assumption | (refine Int.lt_of_lt_of_le (by assumption) ?_; decide) | (show _ < (_ : Int); omega) | (simp only [List.length_append, List.length_cons, List.length_nil]; omega))); repeat' (first | exact all_nil | refine all_cons ?_ ?_)) | ((with_reducible refine brn_d ?_ ?_) <;> intro _ <;> (first | (exfalso; omega) | skip)) | ((with_reducible refine brn_nd ?_ ?_) <;> intro _ <;> (first | (exfalso; omega) | skip)) | ((with_reducible refine brn_c ?_ ?_) <;> intro _ <;> (first | (exfalso; omega) | contradiction | (subst_vars; contradiction) | skip))))
local macro_rules | `(tactic| walk_at "n") => `(tactic| (try dsimp only [puts, put, agI, outsOf, slOf, List.map, List.set_cons_zero, List.set_cons_succ, List.getElem?_cons_zero, List.getElem?_cons_succ, wipeR, backR, Option.getD_some, List.replicate, List.cons_append, List.nil_append, List.append_eq, List.append_nil, Nat.reduceSub, FEnd, Ret, noBw, stl]))
local macro_rules | `(tactic| walk_at "g") => `(tactic| (repeat (walk_at "s1")))
local macro_rules | `(tactic| walk_at "gS") => `(tactic| (repeat (walk_at "s2")))
local macro_rules | `(tactic| walk_at "x") => `(tactic| (repeat' (first | (walk_at "s1") | (walk_at "b"))))
local macro_rules | `(tactic| walk_at "xS") => `(tactic| (repeat' (first | (walk_at "s2") | (walk_at "b"))))
--HDREND
structure ChainSpec (n : Nat) : Prop where
  out : ∀ {xs : List Sw.D} {ks : List (List Nat)} {e d : Int} {o : Bool} {Q : Vl → List (List Sw.D) → Prop}, d + 1 ≤ n → 1 ≤ n → DrE e xs → (∀ k ∈ ks, NmOk k) → (ks.length : Int) + max 1 (3 * d) ≤ 1000 → d ≤ 12 →
  (∀ (t : T) (ys : List Sw.D) (ks' : List (List Nat)) (e' : Int), t.All Ok1 → (t.size : Int) ≤ max 1 (3 * d) → (t.depth : Int) ≤ max 1 d → DrE e' ys → (∀ k ∈ ks', NmOk k) → ks'.length ≤ ks.length + t.size → Q (.fz t.D) [ys, ks'.map D.str]) →
  Fv (fx_law_chain n) [.li xs, .da (.int d), .da (.bl o), .li (ks.map D.str)] Q
theorem all_empty : T.empty.All Ok1 := by simp only [T.All]; trivial
theorem chain_ok : ∀ n, ChainSpec n
  | 0 => ⟨fun _ h => by omega⟩
  | n + 1 => by
    have ih : ChainSpec n := chain_ok n
    refine ⟨fun {xs ks e d o Q} hn hn1 hd hk hkl d1 q => ?_⟩
    unfold fx_law_chain
    refine fv_fn rfl ?_
    walk_at "n"
    unfold b_law_chain
    rw [next_eq]
    walk_at "gS"
    rename_i c y1 c0 c1 hd1
    refine sv_if_s ?_
    walk_at "g"
    refine brn_d (fun z => ?_) (fun z => sv_nx_s ?_)
    · walk_at "g"
      refine tip_ok hd1 hk fun t y2 h1 h2 h3 h4 => ?_
      walk_at "g"
      walk_at "n"
      exact q t y2 ks e h1 (by omega) (by omega) h4 hk (by omega)
    -- a tip and the rest
    refine sv_if_s ?_
    walk_at "g"
    refine brn_d (fun z2 => ?_) (fun z2 => sv_nx_s ?_)
    · walk_at "gS"
      refine tip_ok hd1 hk fun t1 y2 a1 a2 a3 a4 => ?_
      walk_at "gS"
      refine ih.out (by omega) (by omega) a4 hk (by omega) (by omega) fun t2 y4 ks4 e4 h1 h2 h3 h4 h5 h6 => ?_
      have fin : ∀ (w : List Nat) (ts : List T) (ys : List Sw.D), (w = tSEQ ∨ w = tALT) → (ts = [t1, t2] ∨ ts = [t2, .empty]) → DrE e4 ys → Q (.fz (.tup [.str w, .tup (ts.map T.D)])) [ys, ks4.map D.str] := by
        intro w ts ys hw hts hd
        obtain ⟨t, e1, e2, e3, e4'⟩ := seqalt ts w hw
        rw [← e1]
        have sz : T.sizes ts = 1 + t2.size := by rcases hts with rfl | rfl <;> simp only [T.sizes, T.size, a2] <;> omega
        have dp : T.depths ts = max 1 t2.depth := by
          have := depth_pos t2
          rcases hts with rfl | rfl <;> simp only [T.depths, T.depth, a3] <;> omega
        have al : T.Alls Ok1 ts := by
          rcases hts with rfl | rfl
          · exact ⟨a1, h1, trivial⟩
          · exact ⟨h1, all_empty, trivial⟩
        exact q t ys ks4 e4 (e4' al) (by rw [e2, sz]; omega) (by rw [e3, dp]; omega) hd h5 (by rw [e2, sz]; omega)
      have em : ∀ w ys, (w = tSEQ ∨ w = tALT) → DrE e4 ys → Q (.fz (.tup [.str w, .tup [t2.D, .tup [.str tEMPTY]]])) [ys, ks4.map D.str] := fun w ys hw hd => by
        have := fin w [t2, .empty] ys hw (.inr rfl) hd
        rw [List.map_cons, List.map_cons, List.map_nil, D_empty] at this
        exact this
      walk_at "x" <;> walk_at "n"
      · exact fin tSEQ [t1, t2] _ (.inl rfl) (.inl rfl) (by assumption)
      · exact em tSEQ _ (.inl rfl) (by assumption)
      · exact fin tALT [t1, t2] _ (.inr rfl) (.inl rfl) (by assumption)
      · exact em tALT _ (.inr rfl) (by assumption)
    -- a group
    refine sv_if_s ?_
    walk_at "g"
    refine brn_d (fun z4 => ?_) (fun z4 => sv_nx_s ?_)
    · walk_at "gS"
      refine group_name_ok hd1 hk fun nm y2 hnm hd2 => ?_
      walk_at "gS"
      refine app rfl rfl (by rw [List.length_map]; show _ < 16777216; omega) ?_
      walk_at "n"
      rw [ks_app]
      walk_at "gS"
      refine ih.out (by omega) (by omega) hd2 (ks_snoc hk hnm) (by rw [List.length_append]; show ((ks.length + 1 : Nat) : Int) + _ ≤ 1000; omega) (by omega) fun t y4 ks4 e4 h1 h2 h3 h4 h5 h6 => ?_
      walk_at "g"
      walk_at "n"
      have h6' : ks4.length ≤ ks.length + 1 + t.size := by rw [List.length_append] at h6; exact h6
      have := q (.group nm t) y4 ks4 e4 (all_group h1 hnm) (by simp only [T.size]; omega) (by simp only [T.depth]; omega) h4 h5 (by simp only [T.size]; omega)
      rw [D_group] at this
      exact this
    -- a look
    refine sv_if_s ?_
    walk_at "g"
    refine brn_d (fun z5 => ?_) (fun z5 => sv_nx_s ?_)
    · walk_at "gS"
      rename_i r _ _ _ _
      refine ih.out (by omega) (by omega) (by assumption) hk (by omega) (by omega) fun t y4 ks4 e4 h1 h2 h3 h4 h5 h6 => ?_
      walk_at "g"
      walk_at "n"
      have := q (.look false (decide (r = 0)) t) y4 ks4 e4 (all_look h1) (by simp only [T.size]; omega) (by simp only [T.depth]; omega) h4 h5 (by simp only [T.size]; omega)
      rw [D_look] at this
      exact this
    -- a repeat
    have qrep : ∀ (hi : Option Nat), (∀ h, hi = some h → h < 1000) → ∀ (lz : Bool) (t : T) (ys : List Sw.D) (ks' : List (List Nat)) (e' : Int), t.All Ok1 → (t.size : Int) ≤ max 1 (3 * (d - 1)) → (t.depth : Int) ≤ max 1 (d - 1) → DrE e' ys → (∀ k ∈ ks', NmOk k) → ks'.length ≤ ks.length + t.size → Q (.fz (.tup [.str tREP, t.D, .int 0, hiD hi, .bl lz])) [ys, ks'.map D.str] := fun hi hh lz t ys ks' e' h1 h2 h3 h4 h5 h6 => by
      have := q (.rep t 0 hi lz) ys ks' e' (all_rep h1 (by omega) hh) (by simp only [T.size]; omega) (by simp only [T.depth]; omega) h4 h5 (by simp only [T.size]; omega)
      rwa [D_rep] at this
    walk_at "xS"
    all_goals refine ih.out (by omega) (by omega) (by assumption) hk (by omega) (by omega) fun t y4 ks4 e4 h1 h2 h3 h4 h5 h6 => ?_
    all_goals walk_at "g"
    all_goals walk_at "n"
    · exact qrep none (fun h e => by cases e) _ t _ ks4 e4 h1 h2 h3 (by assumption) h5 h6
    · exact qrep (some 1) (fun h e => by cases e; decide) _ t _ ks4 e4 h1 h2 h3 (by assumption) h5 h6
    · exact qrep (some 0) (fun h e => by cases e; decide) _ t _ ks4 e4 h1 h2 h3 (by assumption) h5 h6
/-- a drawn tree -/
theorem tree_ok {xs : List Sw.D} {e nd : Int} (hd : DrE e xs) (n0 : 19 ≤ nd) (n1 : nd ≤ 60) {Q : Vl → List (List Sw.D) → Prop}
    (q : ∀ (t : T) (ys : List Sw.D) (e' : Int), t.All Ok1 → t.size ≤ 62 → t.depth ≤ 12 → DrE e' ys → Q (.fz t.D) [ys]) : Fv f_law_drawn_tree [.li xs, .da (.int 33), .da (.int nd)] Q := by
  refine fv_fn rfl ?_
  walk_at "n"
  unfold b_law_drawn_tree
  rw [next_eq, signs_eq]
  walk_at "gS"
  rename_i c y1 c0 c1 hd1
  refine sv_if_s ?_
  walk_at "g"
  refine brn_d (fun z => ?_) (fun z => sv_nx_s ?_)
  · walk_at "g"
    refine (form_ok 60).out (ks := []) (by omega) (by omega) hd1 (by simp) (by simp only [List.length_nil]; omega) (by omega) (by omega) (by omega) (by omega) fun t y4 ks4 e4 h1 h2 h3 h4 h5 h6 => ?_
    walk_at "g"
    walk_at "n"
    exact q t y4 e4 h1 (by omega) (by omega) h4
  refine sv_if_s ?_
  walk_at "g"
  refine brn_d (fun z2 => ?_) (fun z2 => sv_nx_s ?_)
  · walk_at "g"
    refine (chain_ok 60).out (ks := []) (by omega) (by omega) hd1 (by simp) (by simp only [List.length_nil]; omega) (by omega) fun t y4 ks4 e4 h1 h2 h3 h4 h5 h6 => ?_
    walk_at "g"
    walk_at "n"
    exact q t y4 e4 h1 (by omega) (by omega) h4
  refine sv_if_s ?_
  walk_at "g"
  refine brn_d (fun z3 => ?_) (fun z3 => sv_nx_s ?_)
  · walk_at "gS"
    refine sv_seq ?_
    refine sv_for (fun k ρ => ∃ (ts : List T) (ys : List Sw.D) (x8 x9 : Sl), T.Alls Ok1 ts ∧ ts.length = k ∧ T.sizes ts = k ∧ T.depths ts ≤ 1 ∧ DrE 4 ys ∧ ρ = [.io ys, .d (.int 33), .d (.int nd), .ow [], .d (.int c), .no, .no, .ow (ts.map T.D), x8, x9] ∧ ioQ (some x8) = false ∧ ioQ (some x9) = false) (ev_ir1 ?_)
    walk_at "g"
    refine ⟨_, rfl, by omega, by omega, ⟨[], _, _, _, trivial, rfl, rfl, by simp only [T.depths]; omega, by assumption, rfl, rfl, rfl⟩, ?_, ?_⟩
    · rintro i y hy ρ ⟨ts, ys, x8, x9, ha, tl, hsz, hdp, hd2, rfl, h8, h9⟩
      obtain ⟨hi, rfl⟩ := rngL_get hy
      have ll : (ts.map T.D).length < lim := by rw [List.length_map, tl]; show _ < 16777216; omega
      refine ⟨_, asg_z (by exact h8), ?_⟩
      walk_at "n"
      have hS := K09.SGN_lim
      have fin : ∀ (t : T) (z : List Sw.D) (x9 : Sw.D), t.All Ok1 → t.size = 1 → t.depth = 1 → DrE 4 z →
          ∃ (ts' : List T) (ys : List Sw.D) (x8 x9' : Sl), T.Alls Ok1 ts' ∧ ts'.length = i + 1 ∧ T.sizes ts' = i + 1 ∧ T.depths ts' ≤ 1 ∧ DrE 4 ys ∧ [Sl.io z, .d (.int 33), .d (.int nd), .ow [], .d (.int c), .no, .no, .ow (ts.map T.D ++ [t.D]), .d (.int (0 + i)), .d x9] = [.io ys, .d (.int 33), .d (.int nd), .ow [], .d (.int c), .no, .no, .ow (ts'.map T.D), x8, x9'] ∧ ioQ (some x8) = false ∧ ioQ (some x9') = false := by
        intro t z x9 h1 h2 h3 h4
        exact ⟨ts ++ [t], z, _, _, alls_snoc ha h1, by rw [List.length_append, tl]; rfl, by rw [sizes_snoc, hsz, h2], by rw [depths_snoc]; omega, h4, by rw [List.map_append]; rfl, rfl, rfl⟩
      have finS := fun (k : Nat) (z : List Sw.D) (x9 : Sw.D) (hk : k ∈ SGN) (hz : DrE 4 z) => fin (.set [k]) z x9 (by simp only [T.All]; exact List.singleton_sublist.mpr hk) (by simp only [T.size]) (by simp only [T.depth]) hz
      have finE := fun (z : List Sw.D) (x9 : Sw.D) (hz : DrE 4 z) => fin .empty z x9 all_empty (by simp only [T.size]) (by simp only [T.depth]) hz
      simp only [D_set, D_empty] at finS finE
      walk_at "x"
      all_goals refine app rfl rfl ll ?_
      all_goals walk_at "n"
      all_goals first | exact finS _ _ _ (by assumption) (by assumption) | exact finE _ _ (by assumption)
    · rintro ρ ⟨ts, ys, x8, x9, ha, tl, hsz, hdp, hd2, rfl, h8, h9⟩
      rw [rngL_len] at tl hsz
      have fin : ∀ (w : List Nat) (ys : List Sw.D), (w = tSEQ ∨ w = tALT) → DrE 4 ys → Q (.fz (.tup [.str w, .tup (ts.map T.D)])) [ys] := by
        intro w ys hw hd
        obtain ⟨t, e1, e2, e3, e4'⟩ := seqalt ts w hw
        rw [← e1]
        exact q t ys 4 (e4' ha) (by rw [e2, hsz]; omega) (by rw [e3]; omega) hd
      walk_at "x" <;> walk_at "n"
      · exact fin tSEQ _ (.inl rfl) (by assumption)
      · exact fin tALT _ (.inr rfl) (by assumption)
  walk_at "g"
  refine (form_ok 60).out (ks := []) (by omega) (by omega) hd1 (by simp) (by simp only [List.length_nil]; omega) (by omega) (by omega) (by omega) (by omega) fun t1 y2 ks2 e2 a1 a2 a3 a4 a5 a6 => ?_
  walk_at "g"
  rw [List.length_nil] at a6
  refine (form_ok 60).out (by omega) (by omega) a4 a5 (by omega) (by omega) (by omega) (by omega) (by omega) fun t2 y4 ks4 e4 h1 h2 h3 h4 h5 h6 => ?_
  walk_at "g"
  have c2 : c / 7 = 0 ∨ c / 7 = 1 := by omega
  have at' : ∃ w, (w = tSEQ ∨ w = tALT) ∧ atI [Sw.D.str [115, 101, 113], .str [97, 108, 116]] (c / 7) = some (.str w) := by
    rcases c2 with h | h
    · rw [h]; exact ⟨tSEQ, .inl rfl, rfl⟩
    · rw [h]; exact ⟨tALT, .inr rfl, rfl⟩
  obtain ⟨w, hw, at'⟩ := at'
  obtain ⟨t, e1, e2', e3, e4'⟩ := seqalt [t1, t2] w hw
  refine giv_ixl at' ?_
  walk_at "g"
  walk_at "n"
  rw [List.map_cons, List.map_cons, List.map_nil] at e1
  rw [← e1]
  exact q t y4 e4 (e4' ⟨a1, h1, trivial⟩) (by rw [e2']; simp only [T.sizes]; omega) (by rw [e3]; simp only [T.depths]; omega) h4
end K10
set_option Elab.async false
set_option linter.all false
set_option maxRecDepth 100000
set_option maxHeartbeats 4000000
namespace K10
open Sw L2 Tre Runs
--HDR
local macro_rules | `(tactic| walk_at "fn") => `(tactic| (fail))
local macro_rules | `(tactic| walk_at "s1") => `(tactic| (first | ((with_reducible refine gEv ?_); (first | ((with_reducible refine' ev_tAnd_d ?s0 ?s1 ?_); (case s0 => (intro Q q; walk_at "g"; (first | exact q | exact toD_n q | exact toD_t q | exact toD_f q | exact toD_b q))); (case s1 => (intro hp Q q; walk_at "g"; (first | exact q | exact toD_n q | exact toD_t q | exact toD_f q | exact toD_b q)))) | ((with_reducible refine' ev_tOr_d ?s0 ?s1 ?_); (case s0 => (intro Q q; walk_at "g"; (first | exact q | exact toD_n q | exact toD_t q | exact toD_f q | exact toD_b q))); (case s1 => (intro hp Q q; walk_at "g"; (first | exact q | exact toD_n q | exact toD_t q | exact toD_f q | exact toD_b q)))) | with_reducible refine ev_c ?_ | ((with_reducible refine' ev_vd ?s0 ?_); (case s0 => (rfl))) | ((with_reducible refine' ev_vo ?s0 ?_); (case s0 => (rfl))) | ((with_reducible refine' ev_vi ?s0 ?_); (case s0 => (rfl))) | with_reducible refine ev_bin ?_ | with_reducible refine ev_un ?_ | with_reducible refine ev_anil ?_ | with_reducible refine ev_acons ?_ | with_reducible refine ev_blt ?_ | with_reducible refine ev_met ?_ | with_reducible refine ev_ono ?_ | with_reducible refine ev_osome ?_ | with_reducible refine ev_sl ?_ | with_reducible refine ev_tup ?_ | with_reducible refine ev_lst ?_ | with_reducible refine ev_tE ?_ | with_reducible refine ev_tyes ?_ | with_reducible refine ev_tAnd ?_ | with_reducible refine ev_tOr ?_ | with_reducible refine ev_tNot ?_ | with_reducible refine ev_eAnd ?_ | with_reducible refine ev_eOr ?_ | with_reducible refine ev_eNot ?_ | with_reducible refine ev_eIf ?_ | with_reducible refine ev_chain ?_ | with_reducible refine ev_call ?_)) | ((with_reducible refine gGiv ?_); (first | ((with_reducible refine' giv_mod ?s0 ?_); (case s0 => (first | assumption | decide | omega | (show _ ≤ 16777216; omega) | (show _ < 16777216; omega) | (simp only [List.length_append, List.length_cons, List.length_nil, List.length_replicate, List.length_map, List.length_take, List.length_drop, List.length_dropLast]; first | omega | (show _ ≤ 16777216; omega))))) | ((with_reducible refine' giv_div ?s0 ?_); (case s0 => (first | assumption | decide | omega | (show _ ≤ 16777216; omega) | (show _ < 16777216; omega) | (simp only [List.length_append, List.length_cons, List.length_nil, List.length_replicate, List.length_map, List.length_take, List.length_drop, List.length_dropLast]; first | omega | (show _ ≤ 16777216; omega))))) | ((with_reducible refine' giv_mul ?s0 ?_); (case s0 => (first | assumption | exact cMul_r (by decide) | exact cMul_r (by omega)))) | ((with_reducible refine' giv_muls ?s0 ?_); (case s0 => (first | assumption | decide | omega | (show _ ≤ 16777216; omega) | (show _ < 16777216; omega) | (simp only [List.length_append, List.length_cons, List.length_nil, List.length_replicate, List.length_map, List.length_take, List.length_drop, List.length_dropLast]; first | omega | (show _ ≤ 16777216; omega))))) | ((with_reducible refine' giv_adds ?s0 ?_); (case s0 => (first | assumption | decide | omega | (show _ ≤ 16777216; omega) | (show _ < 16777216; omega) | (simp only [List.length_append, List.length_cons, List.length_nil, List.length_replicate, List.length_map, List.length_take, List.length_drop, List.length_dropLast]; first | omega | (show _ ≤ 16777216; omega))))) | ((with_reducible refine' giv_addl ?s0 ?_); (case s0 => (first | assumption | decide | omega | (show _ ≤ 16777216; omega) | (show _ < 16777216; omega) | (simp only [List.length_append, List.length_cons, List.length_nil, List.length_replicate, List.length_map, List.length_take, List.length_drop, List.length_dropLast]; first | omega | (show _ ≤ 16777216; omega))))) | ((with_reducible refine' giv_ixl ?s0 ?_); (case s0 => (first | assumption | rfl | exact atI_zero))) | ((with_reducible refine' giv_ixt ?s0 ?_); (case s0 => (first | assumption | rfl | exact atI_zero))) | ((with_reducible refine' giv_ixs ?s0 ?s1 ?_); (case s0 => (first | assumption | decide | omega | (show _ ≤ 16777216; omega) | (show _ < 16777216; omega) | (simp only [List.length_append, List.length_cons, List.length_nil, List.length_replicate, List.length_map, List.length_take, List.length_drop, List.length_dropLast]; first | omega | (show _ ≤ 16777216; omega)))); (case s1 => (first | assumption | rfl))) | ((with_reducible refine' giv_dr4 ?s0 ?_); (case s0 => (assumption))) | ((with_reducible refine' giv_slm1 ?s0 ?_); (case s0 => (first | assumption | decide | omega | (show _ ≤ 16777216; omega) | (show _ < 16777216; omega) | (simp only [List.length_append, List.length_cons, List.length_nil, List.length_replicate, List.length_map, List.length_take, List.length_drop, List.length_dropLast]; first | omega | (show _ ≤ 16777216; omega))))) | ((with_reducible refine' giv_slt ?s0 ?s1 ?_); (case s0 => (first | assumption | decide | omega | (show _ ≤ 16777216; omega) | (show _ < 16777216; omega) | (simp only [List.length_append, List.length_cons, List.length_nil, List.length_replicate, List.length_map, List.length_take, List.length_drop, List.length_dropLast]; first | omega | (show _ ≤ 16777216; omega)))); (case s1 => (first | assumption | decide | omega))) | ((with_reducible refine' giv_sld ?s0 ?s1 ?_); (case s0 => (first | assumption | decide | omega | (show _ ≤ 16777216; omega) | (show _ < 16777216; omega) | (simp only [List.length_append, List.length_cons, List.length_nil, List.length_replicate, List.length_map, List.length_take, List.length_drop, List.length_dropLast]; first | omega | (show _ ≤ 16777216; omega)))); (case s1 => (first | assumption | decide | omega))) | ((with_reducible refine' giv_slm ?s0 ?s1 ?s2 ?_); (case s0 => (first | assumption | decide | omega | (show _ ≤ 16777216; omega) | (show _ < 16777216; omega) | (simp only [List.length_append, List.length_cons, List.length_nil, List.length_replicate, List.length_map, List.length_take, List.length_drop, List.length_dropLast]; first | omega | (show _ ≤ 16777216; omega)))); (case s1 => (first | assumption | decide | omega)); (case s2 => (first | assumption | decide | omega))) | ((with_reducible refine' giv_sltl ?s0 ?_); (case s0 => (first | assumption | decide | omega))) | ((with_reducible refine' giv_sldl ?s0 ?_); (case s0 => (first | assumption | decide | omega))) | ((with_reducible refine' giv_sls ?s0 ?_); (case s0 => (first | assumption | decide | omega | (show _ ≤ 16777216; omega) | (show _ < 16777216; omega) | (simp only [List.length_append, List.length_cons, List.length_nil, List.length_replicate, List.length_map, List.length_take, List.length_drop, List.length_dropLast]; first | omega | (show _ ≤ 16777216; omega))))) | with_reducible refine giv_sll ?_ | ((with_reducible refine' giv_lens ?s0 ?_); (case s0 => (first | assumption | decide | omega | (show _ ≤ 16777216; omega) | (show _ < 16777216; omega) | (simp only [List.length_append, List.length_cons, List.length_nil, List.length_replicate, List.length_map, List.length_take, List.length_drop, List.length_dropLast]; first | omega | (show _ ≤ 16777216; omega))))) | ((with_reducible refine' giv_revs ?s0 ?_); (case s0 => (first | assumption | decide | omega | (show _ ≤ 16777216; omega) | (show _ < 16777216; omega) | (simp only [List.length_append, List.length_cons, List.length_nil, List.length_replicate, List.length_map, List.length_take, List.length_drop, List.length_dropLast]; first | omega | (show _ ≤ 16777216; omega))))) | with_reducible refine giv_tup ?_ | with_reducible refine giv_tupt ?_ | ((with_reducible refine' giv_str ?s0 ?_); (case s0 => (first | assumption | decide | omega))) | with_reducible refine giv_strN ?_ | with_reducible refine giv_strS ?_ | with_reducible refine giv r_add1 ?_ | with_reducible refine giv r_sub ?_ | with_reducible refine giv r_lt ?_ | with_reducible refine giv r_lts ?_ | with_reducible refine giv r_le ?_ | with_reducible refine giv r_gt ?_ | with_reducible refine giv r_ge ?_ | with_reducible refine giv r_eqi ?_ | with_reducible refine giv r_eqs ?_ | with_reducible refine giv r_eqb ?_ | with_reducible refine giv r_nei ?_ | with_reducible refine giv r_nes ?_ | with_reducible refine giv r_neb ?_ | with_reducible refine giv r_isb ?_ | with_reducible refine giv r_ntb ?_ | with_reducible refine giv r_ins ?_ | with_reducible refine giv r_nis ?_ | with_reducible refine giv r_neg ?_ | with_reducible refine giv r_len2 ?_ | with_reducible refine giv r_len3 ?_ | with_reducible refine giv r_int1 ?_ | with_reducible refine giv r_fFind ?_ | with_reducible refine giv r_rev1 ?_ | with_reducible refine giv r_fIsi1 ?_ | with_reducible refine giv r_fIsi2 ?_ | with_reducible refine giv r_fIsi3 ?_ | with_reducible refine giv r_fIsi4 ?_ | with_reducible refine giv r_fIsi5 ?_ | with_reducible refine giv r_fIsi6 ?_ | with_reducible refine giv r_min2 ?_ | with_reducible refine giv r_max2 ?_ | with_reducible refine giv r_min3 ?_ | with_reducible refine giv r_isn1 ?_ | with_reducible refine giv r_isn2 ?_ | with_reducible refine giv r_isn3 ?_ | with_reducible refine giv r_isn4 ?_ | with_reducible refine giv r_isn5 ?_ | with_reducible refine giv r_ntn1 ?_ | with_reducible refine giv r_ntn2 ?_ | with_reducible refine giv r_ntn3 ?_ | with_reducible refine giv r_ntn4 ?_ | with_reducible refine giv r_ntn5 ?_ | with_reducible refine giv r_eqn1 ?_ | with_reducible refine giv r_eqn2 ?_ | ((with_reducible refine' giv ?s0 ?_); (case s0 => (first | exact (rfl : _ = some (D.bl true)) | exact (rfl : _ = some (D.bl false))))) | ((with_reducible refine' giv_ixs_all ?s0 ?s1 ?s2 ?_); (case s0 => (first | assumption | decide | omega | (show _ ≤ 16777216; omega) | (show _ < 16777216; omega) | (simp only [List.length_append, List.length_cons, List.length_nil, List.length_replicate, List.length_map, List.length_take, List.length_drop, List.length_dropLast]; first | omega | (show _ ≤ 16777216; omega)))); (case s1 => (first | assumption | decide | omega)); (case s2 => (first | assumption | (refine Int.lt_of_lt_of_le (by assumption) ?_; decide) | (show _ < (_ : Int); omega) | (simp only [List.length_append, List.length_cons, List.length_nil]; omega))); intro _ _))) | ((with_reducible refine gBrn ?_); (first | with_reducible refine brn_t ?_ | with_reducible refine brn_f ?_ | with_reducible refine brn_nT ?_ | with_reducible refine brn_nF ?_ | with_reducible refine brn_nn ?_ | ((with_reducible refine' brn_dt ?s0 ?_); (case s0 => decide)) | ((with_reducible refine' brn_df ?s0 ?_); (case s0 => decide)) | ((with_reducible refine' brn_nt ?s0 ?_); (case s0 => decide)) | ((with_reducible refine' brn_nf ?s0 ?_); (case s0 => decide)))) | ((with_reducible refine gFv ?_); (first | ((with_reducible refine' fv_nextE ?s0 ?s1 ?_); (case s0 => assumption); (case s1 => (first | assumption | decide | omega)); intro _ _ _ _ _; (try dsimp only [puts, put, agI, outsOf, slOf, List.set_cons_zero, List.set_cons_succ, List.getElem?_cons_zero, List.getElem?_cons_succ, wipeR, backR, Option.getD_some, stl])) | ((with_reducible refine' fv_drawE ?s0 ?_); (case s0 => assumption); intro _ _) | with_reducible refine fv_signs ?_ | (walk_at "fn"))) | with_reducible refine ret_z ?_ | with_reducible refine ret_r ?_ | ((with_reducible refine' ret_b ?s0 ?_); (case s0 => (rfl))) | ((with_reducible refine' see2 ?s0 ?s1 ?_); (case s0 => (rfl)); (case s1 => (rfl))) | ((with_reducible refine' see1 ?s0 ?_); (case s0 => (rfl))) | ((with_reducible refine' sees ?s0 ?_); (case s0 => (rfl))) | with_reducible refine isI ?_ | with_reducible refine isB ?_ | with_reducible refine isBD ?_ | ((with_reducible refine' frzs' ?s0 (And.intro ?s1 ?_)); (case s0 => rfl); (case s1 => (first | decide | simp)); (try dsimp only [puts, put, agI, outsOf, slOf, List.set_cons_zero, List.set_cons_succ, List.getElem?_cons_zero, List.getElem?_cons_succ, wipeR, backR, Option.getD_some, stl])) | ((with_reducible refine' arg ?s0 ?s1 ?s2 ?_); (case s0 => (rfl)); (case s1 => (rfl)); (case s2 => (first | exact List.nodup_nil | exact nodup1 | simp [agI])); (try dsimp only [puts, put, agI, outsOf, slOf, List.set_cons_zero, List.set_cons_succ, List.getElem?_cons_zero, List.getElem?_cons_succ, wipeR, backR, Option.getD_some, stl])) | ((with_reducible refine' ex_asg ?s0 ?_); (case s0 => (first | rfl | assumption)); (try dsimp only [puts, put, agI, outsOf, slOf, List.set_cons_zero, List.set_cons_succ, List.getElem?_cons_zero, List.getElem?_cons_succ, wipeR, backR, Option.getD_some, stl])) | ((with_reducible refine' ex_asg' ?s0 ?_); (case s0 => (first | rfl | assumption)); (try dsimp only [puts, put, agI, outsOf, slOf, List.set_cons_zero, List.set_cons_succ, List.getElem?_cons_zero, List.getElem?_cons_succ, wipeR, backR, Option.getD_some, stl])) | ((with_reducible refine' ex_asg'' ?s0 ?_); (case s0 => (rfl)); (try dsimp only [puts, put, agI, outsOf, slOf, List.set_cons_zero, List.set_cons_succ, List.getElem?_cons_zero, List.getElem?_cons_succ, wipeR, backR, Option.getD_some, stl])) | ((with_reducible refine' ex_asgT ?s0 ?_); (case s0 => (rfl)); (try dsimp only [puts, put, agI, outsOf, slOf, List.set_cons_zero, List.set_cons_succ, List.getElem?_cons_zero, List.getElem?_cons_succ, wipeR, backR, Option.getD_some, stl])) | ((with_reducible refine' nbw_z ?_); (try dsimp only [puts, put, agI, outsOf, slOf, List.set_cons_zero, List.set_cons_succ, List.getElem?_cons_zero, List.getElem?_cons_succ, wipeR, backR, Option.getD_some, stl])) | ((with_reducible refine' nbw_r ?_); (try dsimp only [puts, put, agI, outsOf, slOf, List.set_cons_zero, List.set_cons_succ, List.getElem?_cons_zero, List.getElem?_cons_succ, wipeR, backR, Option.getD_some, stl])) | ((with_reducible refine' own_at ?s0 (And.intro ?s1 ?_)); (case s0 => rfl); (case s1 => exact ⟨_, by assumption⟩); intro _ _; (try dsimp only [puts, put, agI, outsOf, slOf, List.set_cons_zero, List.set_cons_succ, List.getElem?_cons_zero, List.getElem?_cons_succ, wipeR, backR, Option.getD_some, stl])) | ((with_reducible refine gSv ?_); (first | with_reducible refine sv_asg_s ?_ | with_reducible refine sv_nx_s ?_ | with_reducible refine sv_if_s ?_ | with_reducible refine sv_ret_s ?_ | with_reducible refine sv_seq_s ?_ | with_reducible refine sv_drop_s ?_ | ((with_reducible refine' sv_app_s ?s0 ?_); (case s0 => (rfl))) | ((with_reducible refine' sv_app_l ?s0 ?_); (case s0 => (rfl))) | with_reducible refine sv_asg_l ?_ | with_reducible refine sv_if_l ?_ | with_reducible refine sv_ret_l ?_ | with_reducible refine sv_nx ?_ | with_reducible refine sv_asgT_s ?_ | with_reducible refine sv_asgT_l ?_ | with_reducible refine sv_set4_s ?_))))
local macro_rules | `(tactic| walk_at "s2") => `(tactic| (first | ((with_reducible refine gEv ?_); (first | ((with_reducible refine' ev_tAnd_d ?s0 ?s1 ?_); (case s0 => (intro Q q; walk_at "g"; (first | exact q | exact toD_n q | exact toD_t q | exact toD_f q | exact toD_b q))); (case s1 => (intro hp Q q; walk_at "g"; (first | exact q | exact toD_n q | exact toD_t q | exact toD_f q | exact toD_b q)))) | ((with_reducible refine' ev_tOr_d ?s0 ?s1 ?_); (case s0 => (intro Q q; walk_at "g"; (first | exact q | exact toD_n q | exact toD_t q | exact toD_f q | exact toD_b q))); (case s1 => (intro hp Q q; walk_at "g"; (first | exact q | exact toD_n q | exact toD_t q | exact toD_f q | exact toD_b q)))) | with_reducible refine ev_c ?_ | ((with_reducible refine' ev_vd ?s0 ?_); (case s0 => (rfl))) | ((with_reducible refine' ev_vo ?s0 ?_); (case s0 => (rfl))) | ((with_reducible refine' ev_vi ?s0 ?_); (case s0 => (rfl))) | with_reducible refine ev_bin ?_ | with_reducible refine ev_un ?_ | with_reducible refine ev_anil ?_ | with_reducible refine ev_acons ?_ | with_reducible refine ev_blt ?_ | with_reducible refine ev_met ?_ | with_reducible refine ev_ono ?_ | with_reducible refine ev_osome ?_ | with_reducible refine ev_sl ?_ | with_reducible refine ev_tup ?_ | with_reducible refine ev_lst ?_ | with_reducible refine ev_tE ?_ | with_reducible refine ev_tyes ?_ | with_reducible refine ev_tAnd ?_ | with_reducible refine ev_tOr ?_ | with_reducible refine ev_tNot ?_ | with_reducible refine ev_eAnd ?_ | with_reducible refine ev_eOr ?_ | with_reducible refine ev_eNot ?_ | with_reducible refine ev_eIf ?_ | with_reducible refine ev_chain ?_ | with_reducible refine ev_call ?_)) | ((with_reducible refine gGiv ?_); (first | ((with_reducible refine' giv_mod ?s0 ?_); (case s0 => (first | assumption | decide | omega | (show _ ≤ 16777216; omega) | (show _ < 16777216; omega) | (simp only [List.length_append, List.length_cons, List.length_nil, List.length_replicate, List.length_map, List.length_take, List.length_drop, List.length_dropLast]; first | omega | (show _ ≤ 16777216; omega))))) | ((with_reducible refine' giv_div ?s0 ?_); (case s0 => (first | assumption | decide | omega | (show _ ≤ 16777216; omega) | (show _ < 16777216; omega) | (simp only [List.length_append, List.length_cons, List.length_nil, List.length_replicate, List.length_map, List.length_take, List.length_drop, List.length_dropLast]; first | omega | (show _ ≤ 16777216; omega))))) | ((with_reducible refine' giv_mul ?s0 ?_); (case s0 => (first | assumption | exact cMul_r (by decide) | exact cMul_r (by omega)))) | ((with_reducible refine' giv_muls ?s0 ?_); (case s0 => (first | assumption | decide | omega | (show _ ≤ 16777216; omega) | (show _ < 16777216; omega) | (simp only [List.length_append, List.length_cons, List.length_nil, List.length_replicate, List.length_map, List.length_take, List.length_drop, List.length_dropLast]; first | omega | (show _ ≤ 16777216; omega))))) | ((with_reducible refine' giv_adds ?s0 ?_); (case s0 => (first | assumption | decide | omega | (show _ ≤ 16777216; omega) | (show _ < 16777216; omega) | (simp only [List.length_append, List.length_cons, List.length_nil, List.length_replicate, List.length_map, List.length_take, List.length_drop, List.length_dropLast]; first | omega | (show _ ≤ 16777216; omega))))) | ((with_reducible refine' giv_addl ?s0 ?_); (case s0 => (first | assumption | decide | omega | (show _ ≤ 16777216; omega) | (show _ < 16777216; omega) | (simp only [List.length_append, List.length_cons, List.length_nil, List.length_replicate, List.length_map, List.length_take, List.length_drop, List.length_dropLast]; first | omega | (show _ ≤ 16777216; omega))))) | ((with_reducible refine' giv_ixl ?s0 ?_); (case s0 => (first | assumption | rfl | exact atI_zero))) | ((with_reducible refine' giv_ixt ?s0 ?_); (case s0 => (first | assumption | rfl | exact atI_zero))) | ((with_reducible refine' giv_ixs ?s0 ?s1 ?_); (case s0 => (first | assumption | decide | omega | (show _ ≤ 16777216; omega) | (show _ < 16777216; omega) | (simp only [List.length_append, List.length_cons, List.length_nil, List.length_replicate, List.length_map, List.length_take, List.length_drop, List.length_dropLast]; first | omega | (show _ ≤ 16777216; omega)))); (case s1 => (first | assumption | rfl))) | ((with_reducible refine' giv_dr4 ?s0 ?_); (case s0 => (assumption))) | ((with_reducible refine' giv_slm1 ?s0 ?_); (case s0 => (first | assumption | decide | omega | (show _ ≤ 16777216; omega) | (show _ < 16777216; omega) | (simp only [List.length_append, List.length_cons, List.length_nil, List.length_replicate, List.length_map, List.length_take, List.length_drop, List.length_dropLast]; first | omega | (show _ ≤ 16777216; omega))))) | ((with_reducible refine' giv_slt ?s0 ?s1 ?_); (case s0 => (first | assumption | decide | omega | (show _ ≤ 16777216; omega) | (show _ < 16777216; omega) | (simp only [List.length_append, List.length_cons, List.length_nil, List.length_replicate, List.length_map, List.length_take, List.length_drop, List.length_dropLast]; first | omega | (show _ ≤ 16777216; omega)))); (case s1 => (first | assumption | decide | omega))) | ((with_reducible refine' giv_sld ?s0 ?s1 ?_); (case s0 => (first | assumption | decide | omega | (show _ ≤ 16777216; omega) | (show _ < 16777216; omega) | (simp only [List.length_append, List.length_cons, List.length_nil, List.length_replicate, List.length_map, List.length_take, List.length_drop, List.length_dropLast]; first | omega | (show _ ≤ 16777216; omega)))); (case s1 => (first | assumption | decide | omega))) | ((with_reducible refine' giv_slm ?s0 ?s1 ?s2 ?_); (case s0 => (first | assumption | decide | omega | (show _ ≤ 16777216; omega) | (show _ < 16777216; omega) | (simp only [List.length_append, List.length_cons, List.length_nil, List.length_replicate, List.length_map, List.length_take, List.length_drop, List.length_dropLast]; first | omega | (show _ ≤ 16777216; omega)))); (case s1 => (first | assumption | decide | omega)); (case s2 => (first | assumption | decide | omega))) | ((with_reducible refine' giv_sltl ?s0 ?_); (case s0 => (first | assumption | decide | omega))) | ((with_reducible refine' giv_sldl ?s0 ?_); (case s0 => (first | assumption | decide | omega))) | ((with_reducible refine' giv_sls ?s0 ?_); (case s0 => (first | assumption | decide | omega | (show _ ≤ 16777216; omega) | (show _ < 16777216; omega) | (simp only [List.length_append, List.length_cons, List.length_nil, List.length_replicate, List.length_map, List.length_take, List.length_drop, List.length_dropLast]; first | omega | (show _ ≤ 16777216; omega))))) | with_reducible refine giv_sll ?_ | ((with_reducible refine' giv_lens ?s0 ?_); (case s0 => (first | assumption | decide | omega | (show _ ≤ 16777216; omega) | (show _ < 16777216; omega) | (simp only [List.length_append, List.length_cons, List.length_nil, List.length_replicate, List.length_map, List.length_take, List.length_drop, List.length_dropLast]; first | omega | (show _ ≤ 16777216; omega))))) | ((with_reducible refine' giv_revs ?s0 ?_); (case s0 => (first | assumption | decide | omega | (show _ ≤ 16777216; omega) | (show _ < 16777216; omega) | (simp only [List.length_append, List.length_cons, List.length_nil, List.length_replicate, List.length_map, List.length_take, List.length_drop, List.length_dropLast]; first | omega | (show _ ≤ 16777216; omega))))) | with_reducible refine giv_tup ?_ | with_reducible refine giv_tupt ?_ | ((with_reducible refine' giv_str ?s0 ?_); (case s0 => (first | assumption | decide | omega))) | with_reducible refine giv_strN ?_ | with_reducible refine giv_strS ?_ | with_reducible refine giv r_add1 ?_ | with_reducible refine giv r_sub ?_ | with_reducible refine giv r_lt ?_ | with_reducible refine giv r_lts ?_ | with_reducible refine giv r_le ?_ | with_reducible refine giv r_gt ?_ | with_reducible refine giv r_ge ?_ | with_reducible refine giv r_eqi ?_ | with_reducible refine giv r_eqs ?_ | with_reducible refine giv r_eqb ?_ | with_reducible refine giv r_nei ?_ | with_reducible refine giv r_nes ?_ | with_reducible refine giv r_neb ?_ | with_reducible refine giv r_isb ?_ | with_reducible refine giv r_ntb ?_ | with_reducible refine giv r_ins ?_ | with_reducible refine giv r_nis ?_ | with_reducible refine giv r_neg ?_ | with_reducible refine giv r_len2 ?_ | with_reducible refine giv r_len3 ?_ | with_reducible refine giv r_int1 ?_ | with_reducible refine giv r_fFind ?_ | with_reducible refine giv r_rev1 ?_ | with_reducible refine giv r_fIsi1 ?_ | with_reducible refine giv r_fIsi2 ?_ | with_reducible refine giv r_fIsi3 ?_ | with_reducible refine giv r_fIsi4 ?_ | with_reducible refine giv r_fIsi5 ?_ | with_reducible refine giv r_fIsi6 ?_ | with_reducible refine giv r_min2 ?_ | with_reducible refine giv r_max2 ?_ | with_reducible refine giv r_min3 ?_ | with_reducible refine giv r_isn1 ?_ | with_reducible refine giv r_isn2 ?_ | with_reducible refine giv r_isn3 ?_ | with_reducible refine giv r_isn4 ?_ | with_reducible refine giv r_isn5 ?_ | with_reducible refine giv r_ntn1 ?_ | with_reducible refine giv r_ntn2 ?_ | with_reducible refine giv r_ntn3 ?_ | with_reducible refine giv r_ntn4 ?_ | with_reducible refine giv r_ntn5 ?_ | with_reducible refine giv r_eqn1 ?_ | with_reducible refine giv r_eqn2 ?_ | ((with_reducible refine' giv ?s0 ?_); (case s0 => (first | exact (rfl : _ = some (D.bl true)) | exact (rfl : _ = some (D.bl false))))) | ((with_reducible refine' giv_ixs_all ?s0 ?s1 ?s2 ?_); (case s0 => (first | assumption | decide | omega | (show _ ≤ 16777216; omega) | (show _ < 16777216; omega) | (simp only [List.length_append, List.length_cons, List.length_nil, List.length_replicate, List.length_map, List.length_take, List.length_drop, List.length_dropLast]; first | omega | (show _ ≤ 16777216; omega)))); (case s1 => (first | assumption | decide | omega)); (case s2 => (first | assumption | (refine Int.lt_of_lt_of_le (by assumption) ?_; decide) | (show _ < (_ : Int); omega) | (simp only [List.length_append, List.length_cons, List.length_nil]; omega))); intro _ _))) | ((with_reducible refine gBrn ?_); (first | with_reducible refine brn_t ?_ | with_reducible refine brn_f ?_ | with_reducible refine brn_nT ?_ | with_reducible refine brn_nF ?_ | with_reducible refine brn_nn ?_ | ((with_reducible refine' brn_dt ?s0 ?_); (case s0 => decide)) | ((with_reducible refine' brn_df ?s0 ?_); (case s0 => decide)) | ((with_reducible refine' brn_nt ?s0 ?_); (case s0 => decide)) | ((with_reducible refine' brn_nf ?s0 ?_); (case s0 => decide)))) | ((with_reducible refine gFv ?_); (first | ((with_reducible refine' fv_nextE ?s0 ?s1 ?_); (case s0 => assumption); (case s1 => (first | assumption | decide | omega)); intro _ _ _ _ _; (try dsimp only [puts, put, agI, outsOf, slOf, List.set_cons_zero, List.set_cons_succ, List.getElem?_cons_zero, List.getElem?_cons_succ, wipeR, backR, Option.getD_some, stl])) | ((with_reducible refine' fv_drawE ?s0 ?_); (case s0 => assumption); intro _ _) | with_reducible refine fv_signs ?_ | (walk_at "fn"))) | with_reducible refine ret_z ?_ | with_reducible refine ret_r ?_ | ((with_reducible refine' ret_b ?s0 ?_); (case s0 => (rfl))) | ((with_reducible refine' see2 ?s0 ?s1 ?_); (case s0 => (rfl)); (case s1 => (rfl))) | ((with_reducible refine' see1 ?s0 ?_); (case s0 => (rfl))) | ((with_reducible refine' sees ?s0 ?_); (case s0 => (rfl))) | with_reducible refine isI ?_ | with_reducible refine isB ?_ | with_reducible refine isBD ?_ | ((with_reducible refine' frzs' ?s0 (And.intro ?s1 ?_)); (case s0 => rfl); (case s1 => (first | decide | simp)); (try dsimp only [puts, put, agI, outsOf, slOf, List.set_cons_zero, List.set_cons_succ, List.getElem?_cons_zero, List.getElem?_cons_succ, wipeR, backR, Option.getD_some, stl])) | ((with_reducible refine' arg ?s0 ?s1 ?s2 ?_); (case s0 => (rfl)); (case s1 => (rfl)); (case s2 => (first | exact List.nodup_nil | exact nodup1 | simp [agI])); (try dsimp only [puts, put, agI, outsOf, slOf, List.set_cons_zero, List.set_cons_succ, List.getElem?_cons_zero, List.getElem?_cons_succ, wipeR, backR, Option.getD_some, stl])) | ((with_reducible refine' ex_asg ?s0 ?_); (case s0 => (first | rfl | assumption)); (try dsimp only [puts, put, agI, outsOf, slOf, List.set_cons_zero, List.set_cons_succ, List.getElem?_cons_zero, List.getElem?_cons_succ, wipeR, backR, Option.getD_some, stl])) | ((with_reducible refine' ex_asg' ?s0 ?_); (case s0 => (first | rfl | assumption)); (try dsimp only [puts, put, agI, outsOf, slOf, List.set_cons_zero, List.set_cons_succ, List.getElem?_cons_zero, List.getElem?_cons_succ, wipeR, backR, Option.getD_some, stl])) | ((with_reducible refine' ex_asg'' ?s0 ?_); (case s0 => (rfl)); (try dsimp only [puts, put, agI, outsOf, slOf, List.set_cons_zero, List.set_cons_succ, List.getElem?_cons_zero, List.getElem?_cons_succ, wipeR, backR, Option.getD_some, stl])) | ((with_reducible refine' ex_asgT ?s0 ?_); (case s0 => (rfl)); (try dsimp only [puts, put, agI, outsOf, slOf, List.set_cons_zero, List.set_cons_succ, List.getElem?_cons_zero, List.getElem?_cons_succ, wipeR, backR, Option.getD_some, stl])) | ((with_reducible refine' nbw_z ?_); (try dsimp only [puts, put, agI, outsOf, slOf, List.set_cons_zero, List.set_cons_succ, List.getElem?_cons_zero, List.getElem?_cons_succ, wipeR, backR, Option.getD_some, stl])) | ((with_reducible refine' nbw_r ?_); (try dsimp only [puts, put, agI, outsOf, slOf, List.set_cons_zero, List.set_cons_succ, List.getElem?_cons_zero, List.getElem?_cons_succ, wipeR, backR, Option.getD_some, stl])) | ((with_reducible refine' own_at ?s0 (And.intro ?s1 ?_)); (case s0 => rfl); (case s1 => exact ⟨_, by assumption⟩); intro _ _; (try dsimp only [puts, put, agI, outsOf, slOf, List.set_cons_zero, List.set_cons_succ, List.getElem?_cons_zero, List.getElem?_cons_succ, wipeR, backR, Option.getD_some, stl])) | ((with_reducible refine gSv ?_); (first | with_reducible refine sv_asg_s ?_ | with_reducible refine sv_nx_s ?_ | with_reducible refine sv_ret_s ?_ | with_reducible refine sv_seq_s ?_ | with_reducible refine sv_drop_s ?_ | ((with_reducible refine' sv_app_s ?s0 ?_); (case s0 => (rfl))) | ((with_reducible refine' sv_app_l ?s0 ?_); (case s0 => (rfl))) | with_reducible refine sv_asg_l ?_ | with_reducible refine sv_if_l ?_ | with_reducible refine sv_ret_l ?_ | with_reducible refine sv_nx ?_ | with_reducible refine sv_asgT_s ?_ | with_reducible refine sv_asgT_l ?_ | with_reducible refine sv_set4_s ?_))))
local macro_rules | `(tactic| walk_at "b") => `(tactic| (first | ((with_reducible refine' giv_ixl_all ?s0 ?s1 ?_); (case s0 => (first | assumption | decide | omega)); (case s1 => (first | assumption | (refine Int.lt_of_lt_of_le (by assumption) ?_; decide) | (show _ < (_ : Int); omega) | (simp only [List.length_append, List.length_cons, List.length_nil]; omega))); repeat' (first | exact all_nil | refine all_cons ?_ ?_)) | ((with_reducible refine brn_d ?_ ?_) <;> intro _ <;> (first | (exfalso; omega) | skip)) | ((with_reducible refine brn_nd ?_ ?_) <;> intro _ <;> (first | (exfalso; omega) | skip)) | ((with_reducible refine brn_c ?_ ?_) <;> intro _ <;> (first | (exfalso; omega) | contradiction | (subst_vars; contradiction) | skip))))
local macro_rules | `(tactic| walk_at "n") => `(tactic| (try dsimp only [puts, put, agI, outsOf, slOf, List.map, List.set_cons_zero, List.set_cons_succ, List.getElem?_cons_zero, List.getElem?_cons_succ, wipeR, backR, Option.getD_some, List.replicate, List.cons_append, List.nil_append, List.append_eq, List.append_nil, Nat.reduceSub, FEnd, Ret, noBw, stl]))
local macro_rules | `(tactic| walk_at "g") => `(tactic| (repeat (walk_at "s1")))
local macro_rules | `(tactic| walk_at "gS") => `(tactic| (repeat (walk_at "s2")))
local macro_rules | `(tactic| walk_at "x") => `(tactic| (repeat' (first | (walk_at "s1") | (walk_at "b"))))
local macro_rules | `(tactic| walk_at "xS") => `(tactic| (repeat' (first | (walk_at "s2") | (walk_at "b"))))
--HDREND
def kids : T → List T
  | .seq ts => ts
  | .alt ts => ts
  | .rep b _ _ _ => [b]
  | .group _ b => [b]
  | .look _ _ b => [b]
  | _ => []
theorem kids_ok {t : T} (h : t.All Ok1) : ∀ x ∈ kids t, x.All Ok1 ∧ x.size ≤ t.size ∧ x.depth ≤ t.depth := by
  intro x hx
  cases t <;> simp only [kids, List.mem_singleton, List.not_mem_nil] at hx <;> simp only [T.All] at h
  · have h1 := size_mem hx; have h2 := depth_mem hx
    exact ⟨alls_mem.mp h.2 x hx, by simp only [T.size]; omega, by simp only [T.depth]; omega⟩
  · have h1 := size_mem hx; have h2 := depth_mem hx
    exact ⟨alls_mem.mp h.2 x hx, by simp only [T.size]; omega, by simp only [T.depth]; omega⟩
  · subst hx; exact ⟨h.2, by simp only [T.size]; omega, by simp only [T.depth]; omega⟩
  · subst hx; exact ⟨h.2, by simp only [T.size]; omega, by simp only [T.depth]; omega⟩
  · subst hx; exact ⟨h.2, by simp only [T.size]; omega, by simp only [T.depth]; omega⟩
theorem kids_len {t : T} : (kids t).length ≤ t.size := by
  have sl : ∀ ts : List T, ts.length ≤ T.sizes ts := fun ts => by
    induction ts with
    | nil => simp
    | cons a ts ih => rw [T.sizes, List.length_cons]; have := size_pos a; omega
  cases t <;> simp only [kids, T.size, List.length_cons, List.length_nil] <;> first | omega | (rename_i ts; have := sl ts; omega)
theorem below_ok {t : T} {Q : Vl → List (List D) → Prop} (q : Q (.fr ((kids t).map T.D)) []) : Fv f_law_below [.da t.D] Q := by
  refine fv_fn rfl ?_
  walk_at "n"
  unfold b_law_below
  have nw : ∀ (ts : List T) {ρ : Rho} {a : M Vl} {Q : Vl → Rho → Prop}, Ev a ρ (fun r ρ1 => r = .fz (.tup (ts.map T.D)) ∧ Q (.fr (ts.map T.D)) ρ1) → Ev (eNew a) ρ Q := by
    rintro ts ρ a Q ⟨r, ρ1, e1, rfl, q⟩
    exact ⟨_, ρ1, by show (a ρ).bind _ = _; rw [e1]; rfl, q⟩
  cases t with
  | empty => rw [D_empty]; walk_at "g"; walk_at "n"; exact q
  | set s => rw [D_set]; walk_at "g"; walk_at "n"; exact q
  | edge s => rw [D_edge]; walk_at "g"; walk_at "n"; exact q
  | same s => rw [D_same]; walk_at "g"; walk_at "n"; exact q
  | rep b lo hi lz => rw [D_rep]; walk_at "g"; walk_at "n"; exact q
  | group n b => rw [D_group]; walk_at "g"; walk_at "n"; exact q
  | look a w b => rw [D_look]; walk_at "g"; walk_at "n"; exact q
  | seq ts =>
    rw [D_seq]; walk_at "g"
    refine nw ts ?_
    walk_at "g"
    refine ⟨rfl, ?_⟩
    walk_at "g"; walk_at "n"; exact q
  | alt ts =>
    rw [D_alt]; walk_at "g"
    refine nw ts ?_
    walk_at "g"
    refine ⟨rfl, ?_⟩
    walk_at "g"; walk_at "n"; exact q
theorem law_fv (ns : List Int) (hn : ns.length ≤ 63) : Fv f_law [.da (.scr ns)] fun r os => r = .fz (.bl true) ∧ os = [] := by
  refine fv_fn rfl ?_
  walk_at "n"
  unfold b_law
  rw [draw_eq, next_eq]
  walk_at "gS"
  rename_i xs hd0 r ys r0 r1 hd
  refine giv_ixl_all r0 r1 fun x hx => ?_
  obtain ⟨nd, rfl, n0, n1⟩ : ∃ nd, x = .int nd ∧ 19 ≤ nd ∧ nd ≤ 60 := by
    simp only [List.mem_cons, List.not_mem_nil, or_false] at hx
    rcases hx with rfl | rfl | rfl | rfl <;> exact ⟨_, rfl, by decide, by decide⟩
  walk_at "gS"
  refine tree_ok hd n0 n1 fun t1 y1 e1 a1 a2 a3 a4 => ?_
  walk_at "gS"
  refine tree_ok a4 (by decide) (by decide) fun t2 y2 e2 b1 b2 b3 b4 => ?_
  walk_at "gS"
  have kl := kids_len (t := t1)
  have all : ∀ x ∈ [t1, t2, t1] ++ kids t1, x.All Ok1 ∧ x.size ≤ 62 ∧ x.depth ≤ 12 := by
    intro x hx
    rcases List.mem_append.mp hx with hx | hx
    · simp only [List.mem_cons, List.not_mem_nil, or_false] at hx
      rcases hx with rfl | rfl | rfl
      · exact ⟨a1, a2, a3⟩
      · exact ⟨b1, b2, b3⟩
      · exact ⟨a1, a2, a3⟩
    · obtain ⟨h1, h2, h3⟩ := kids_ok a1 x hx
      exact ⟨h1, by omega, by omega⟩
  refine sv_then (fun ρ => True) (sv_for (fun k ρ => ∃ x5 x6, ρ = [.d (.scr ns), .ow y2, .d (.int nd), .d t1.D, .d t2.D, x5, x6] ∧ ioQ (some x5) = false ∧ ioQ (some x6) = false) (ev_isqd (xs := ([t1, t2, t1] ++ kids t1).map T.D) ?_)) ?_
  · walk_at "g"
    refine below_ok ?_
    walk_at "g"
    refine ⟨_, rfl, by rw [List.map_append]; rfl, ⟨_, _, rfl, rfl, rfl⟩, ?_, fun _ _ => trivial⟩
    rintro i y hy ρ ⟨x5, x6, rfl, h5, h6⟩
    rw [List.getElem?_map] at hy
    cases hi : ([t1, t2, t1] ++ kids t1)[i]? with
    | none => rw [hi] at hy; cases hy
    | some t =>
      rw [hi] at hy
      cases hy
      obtain ⟨h1, h2, h3⟩ := all t (List.mem_of_getElem? hi)
      refine ⟨_, asg_z (by exact h5), ?_⟩
      walk_at "n"
      walk_at "g"
      refine write_ok t h1 (by omega) 60 (by omega) ?_
      walk_at "g"
      refine written_ok t h1 (by omega) 60 (by omega) 0 (by omega) ?_
      rw [paren_out (by omega)]
      walk_at "g"
      refine brn_nf rfl ?_
      walk_at "g"
      exact ⟨_, _, rfl, rfl, rfl⟩
  · intro ρ _
    walk_at "g"
    walk_at "n"
    exact ⟨rfl, outs_d1⟩
theorem law_true (ns : List Int) (hn : ns.length ≤ 63) : f_law [.da (.scr ns)] = some (.fz (.bl true), []) := by
  obtain ⟨r, os, e, rfl, rfl⟩ := law_fv ns hn
  exact e
end K10
set_option Elab.async false
set_option linter.all false
set_option maxRecDepth 100000
set_option maxHeartbeats 4000000
namespace K10
open PySem PySem.Spec PyProof.Rows L2 Sw

def topS (i : Nat) : Stmt := PySem.Challenge.pw_surespan_k10_written_pattern.main.body.getD i (.Pass ⟨0, 0, 0, 0⟩)
abbrev st_law_below : Stmt := topS 30
abbrev N_law_below : List Str := ["_law_tree"]
abbrev P_law_below : List Str := ["_law_tree"]
theorem sc_law_below : FnScope N_law_below P_law_below (defScope st_law_below) := ⟨rfl, rfl, rfl, by decide +kernel, rfl, by decide +kernel, by decide +kernel⟩
abbrev st_law_draw : Stmt := topS 16
abbrev N_law_draw : List Str := ["_law_script", "_law_digits", "_law_one", "_law_two", "_law_cell", "_law_rest", "_law_k"]
abbrev P_law_draw : List Str := ["_law_script"]
theorem sc_law_draw : FnScope N_law_draw P_law_draw (defScope st_law_draw) := ⟨rfl, rfl, rfl, by decide +kernel, rfl, by decide +kernel, by decide +kernel⟩
abbrev st_law_next : Stmt := topS 17
abbrev N_law_next : List Str := ["_law_draw_here", "_law_many", "_law_at"]
abbrev P_law_next : List Str := ["_law_draw_here", "_law_many"]
theorem sc_law_next : FnScope N_law_next P_law_next (defScope st_law_next) := ⟨rfl, rfl, rfl, by decide +kernel, rfl, by decide +kernel, by decide +kernel⟩
abbrev st_law_any_name : Stmt := topS 19
abbrev N_law_any_name : List Str := ["_law_draw_here", "_law_small", "_law_words_here", "_law_name", "_law_k"]
abbrev P_law_any_name : List Str := ["_law_draw_here"]
theorem sc_law_any_name : FnScope N_law_any_name P_law_any_name (defScope st_law_any_name) := ⟨rfl, rfl, rfl, by decide +kernel, rfl, by decide +kernel, by decide +kernel⟩
abbrev st_law_near_name : Stmt := topS 20
abbrev N_law_near_name : List Str := ["_law_draw_here", "_law_name", "_law_more", "_law_choice", "_law_at"]
abbrev P_law_near_name : List Str := ["_law_draw_here", "_law_name"]
theorem sc_law_near_name : FnScope N_law_near_name P_law_near_name (defScope st_law_near_name) := ⟨rfl, rfl, rfl, by decide +kernel, rfl, by decide +kernel, by decide +kernel⟩
abbrev st_law_group_name_v11 : Stmt := topS 21
abbrev N_law_group_name_v11 : List Str := ["_law_draw_here", "_law_known", "_law_choice", "_law_name"]
abbrev P_law_group_name_v11 : List Str := ["_law_draw_here", "_law_known"]
theorem sc_law_group_name_v11 : FnScope N_law_group_name_v11 P_law_group_name_v11 (defScope st_law_group_name_v11) := ⟨rfl, rfl, rfl, by decide +kernel, rfl, by decide +kernel, by decide +kernel⟩
abbrev st_law_signs : Stmt := topS 18
abbrev N_law_signs : List Str := ["_law_signs_here"]
abbrev P_law_signs : List Str := []
theorem sc_law_signs : FnScope N_law_signs P_law_signs (defScope st_law_signs) := ⟨rfl, rfl, rfl, by decide +kernel, rfl, by decide +kernel, by decide +kernel⟩
abbrev st_law_words : Stmt := topS 23
abbrev N_law_words : List Str := []
abbrev P_law_words : List Str := []
theorem sc_law_words : FnScope N_law_words P_law_words (defScope st_law_words) := ⟨rfl, rfl, rfl, by decide +kernel, rfl, by decide +kernel, by decide +kernel⟩
abbrev st_law_some_set : Stmt := topS 22
abbrev N_law_some_set : List Str := ["_law_draw_here", "_law_signs_here", "_law_choice", "_law_chosen", "_law_k", "_law_flip", "_law_low", "_law_sign"]
abbrev P_law_some_set : List Str := ["_law_draw_here"]
theorem sc_law_some_set : FnScope N_law_some_set P_law_some_set (defScope st_law_some_set) := ⟨rfl, rfl, rfl, by decide +kernel, rfl, by decide +kernel, by decide +kernel⟩
abbrev st_law_tip_v101 : Stmt := topS 26
abbrev N_law_tip_v101 : List Str := ["_law_draw_here", "_law_outside", "_law_known", "_law_choice"]
abbrev P_law_tip_v101 : List Str := ["_law_draw_here", "_law_outside", "_law_known"]
theorem sc_law_tip_v101 : FnScope N_law_tip_v101 P_law_tip_v101 (defScope st_law_tip_v101) := ⟨rfl, rfl, rfl, by decide +kernel, rfl, by decide +kernel, by decide +kernel⟩
abbrev st_law_chain : Stmt := topS 28
abbrev N_law_chain : List Str := ["_law_draw_here", "_law_depth", "_law_outside", "_law_known", "_law_choice", "_law_most", "_law_tip_here", "_law_rest", "_law_name"]
abbrev P_law_chain : List Str := ["_law_draw_here", "_law_depth", "_law_outside", "_law_known"]
theorem sc_law_chain : FnScope N_law_chain P_law_chain (defScope st_law_chain) := ⟨rfl, rfl, rfl, by decide +kernel, rfl, by decide +kernel, by decide +kernel⟩
abbrev st_law_numbers : Stmt := topS 24
abbrev N_law_numbers : List Str := ["_law_draw_here", "_law_fuel", "_law_least", "_law_choice"]
abbrev P_law_numbers : List Str := ["_law_draw_here", "_law_fuel"]
theorem sc_law_numbers : FnScope N_law_numbers P_law_numbers (defScope st_law_numbers) := ⟨rfl, rfl, rfl, by decide +kernel, rfl, by decide +kernel, by decide +kernel⟩
abbrev st_law_times : Stmt := topS 25
abbrev N_law_times : List Str := ["_law_numbers_here"]
abbrev P_law_times : List Str := ["_law_numbers_here"]
theorem sc_law_times : FnScope N_law_times P_law_times (defScope st_law_times) := ⟨rfl, rfl, rfl, by decide +kernel, rfl, by decide +kernel, by decide +kernel⟩
abbrev st_law_form : Stmt := topS 27
abbrev N_law_form : List Str := ["_law_draw_here", "_law_fuel", "_law_nodes", "_law_depth", "_law_outside", "_law_known", "_law_choice", "_law_many", "_law_great", "_law_parts", "_law_k", "_law_numbers_here", "_law_lazy", "_law_body", "_law_name", "_law_side", "_law_wanted"]
abbrev P_law_form : List Str := ["_law_draw_here", "_law_fuel", "_law_nodes", "_law_depth", "_law_outside", "_law_known"]
theorem sc_law_form : FnScope N_law_form P_law_form (defScope st_law_form) := ⟨rfl, rfl, rfl, by decide +kernel, rfl, by decide +kernel, by decide +kernel⟩
abbrev st_law_drawn_tree : Stmt := topS 29
abbrev N_law_drawn_tree : List Str := ["_law_draw_here", "_law_fuel", "_law_nodes", "_law_known", "_law_choice", "_law_first", "_law_second", "_law_parts", "_law_k", "_law_sign"]
abbrev P_law_drawn_tree : List Str := ["_law_draw_here", "_law_fuel", "_law_nodes"]
theorem sc_law_drawn_tree : FnScope N_law_drawn_tree P_law_drawn_tree (defScope st_law_drawn_tree) := ⟨rfl, rfl, rfl, by decide +kernel, rfl, by decide +kernel, by decide +kernel⟩
abbrev st_law_mark : Stmt := topS 34
abbrev N_law_mark : List Str := ["_law_least", "_law_most", "_law_lazy", "_law_mark_here"]
abbrev P_law_mark : List Str := ["_law_least", "_law_most", "_law_lazy"]
theorem sc_law_mark : FnScope N_law_mark P_law_mark (defScope st_law_mark) := ⟨rfl, rfl, rfl, by decide +kernel, rfl, by decide +kernel, by decide +kernel⟩
abbrev st_law_escaped : Stmt := topS 31
abbrev N_law_escaped : List Str := ["_law_sign", "_law_marked"]
abbrev P_law_escaped : List Str := ["_law_sign", "_law_marked"]
theorem sc_law_escaped : FnScope N_law_escaped P_law_escaped (defScope st_law_escaped) := ⟨rfl, rfl, rfl, by decide +kernel, rfl, by decide +kernel, by decide +kernel⟩
abbrev st_law_inside : Stmt := topS 32
abbrev N_law_inside : List Str := ["_law_text", "_law_signs_here", "_law_marked", "_law_written_here", "_law_run", "_law_k", "_law_sign"]
abbrev P_law_inside : List Str := ["_law_text"]
theorem sc_law_inside : FnScope N_law_inside P_law_inside (defScope st_law_inside) := ⟨rfl, rfl, rfl, by decide +kernel, rfl, by decide +kernel, by decide +kernel⟩
abbrev st_law_written_set : Stmt := topS 33
abbrev N_law_written_set : List Str := ["_law_text", "_law_rest", "_law_direct", "_law_other", "_law_sign"]
abbrev P_law_written_set : List Str := ["_law_text"]
theorem sc_law_written_set : FnScope N_law_written_set P_law_written_set (defScope st_law_written_set) := ⟨rfl, rfl, rfl, by decide +kernel, rfl, by decide +kernel, by decide +kernel⟩
abbrev st_law_written : Stmt := topS 35
abbrev N_law_written : List Str := ["_law_tree", "_law_place", "_law_kind", "_law_text", "_law_bare", "_law_head", "_law_branch", "_law_part"]
abbrev P_law_written : List Str := ["_law_tree", "_law_place"]
theorem sc_law_written : FnScope N_law_written P_law_written (defScope st_law_written) := ⟨rfl, rfl, rfl, by decide +kernel, rfl, by decide +kernel, by decide +kernel⟩
abbrev st_write_repeat : Stmt := topS 12
abbrev N_write_repeat : List Str := ["least", "most", "lazy", "mark"]
abbrev P_write_repeat : List Str := ["least", "most", "lazy"]
theorem sc_write_repeat : FnScope N_write_repeat P_write_repeat (defScope st_write_repeat) := ⟨rfl, rfl, rfl, by decide +kernel, rfl, by decide +kernel, by decide +kernel⟩
abbrev st_rank : Stmt := topS 2
abbrev N_rank : List Str := ["sign"]
abbrev P_rank : List Str := ["sign"]
theorem sc_rank : FnScope N_rank P_rank (defScope st_rank) := ⟨rfl, rfl, rfl, by decide +kernel, rfl, by decide +kernel, by decide +kernel⟩
abbrev st_runs_of : Stmt := topS 7
abbrev N_runs_of : List Str := ["signs", "runs", "sign"]
abbrev P_runs_of : List Str := ["signs"]
theorem sc_runs_of : FnScope N_runs_of P_runs_of (defScope st_runs_of) := ⟨rfl, rfl, rfl, by decide +kernel, rfl, by decide +kernel, by decide +kernel⟩
abbrev st_write_sign : Stmt := topS 6
abbrev N_write_sign : List Str := ["sign", "escaped"]
abbrev P_write_sign : List Str := ["sign", "escaped"]
theorem sc_write_sign : FnScope N_write_sign P_write_sign (defScope st_write_sign) := ⟨rfl, rfl, rfl, by decide +kernel, rfl, by decide +kernel, by decide +kernel⟩
abbrev st_write_run : Stmt := topS 8
abbrev N_write_run : List Str := ["run", "sign"]
abbrev P_write_run : List Str := ["run"]
theorem sc_write_run : FnScope N_write_run P_write_run (defScope st_write_run) := ⟨rfl, rfl, rfl, by decide +kernel, rfl, by decide +kernel, by decide +kernel⟩
abbrev st_write_entries : Stmt := topS 9
abbrev N_write_entries : List Str := ["signs", "run"]
abbrev P_write_entries : List Str := ["signs"]
theorem sc_write_entries : FnScope N_write_entries P_write_entries (defScope st_write_entries) := ⟨rfl, rfl, rfl, by decide +kernel, rfl, by decide +kernel, by decide +kernel⟩
abbrev st_write_set : Stmt := topS 11
abbrev N_write_set : List Str := ["signs", "others", "direct", "negated", "sign"]
abbrev P_write_set : List Str := ["signs"]
theorem sc_write_set : FnScope N_write_set P_write_set (defScope st_write_set) := ⟨rfl, rfl, rfl, by decide +kernel, rfl, by decide +kernel, by decide +kernel⟩
abbrev st_write_child : Stmt := topS 13
abbrev N_write_child : List Str := ["child", "wrapped"]
abbrev P_write_child : List Str := ["child", "wrapped"]
theorem sc_write_child : FnScope N_write_child P_write_child (defScope st_write_child) := ⟨rfl, rfl, rfl, by decide +kernel, rfl, by decide +kernel, by decide +kernel⟩
abbrev st_write_pattern : Stmt := topS 14
abbrev N_write_pattern : List Str := ["tree", "kind", "body", "head", "part", "branch"]
abbrev P_write_pattern : List Str := ["tree"]
theorem sc_write_pattern : FnScope N_write_pattern P_write_pattern (defScope st_write_pattern) := ⟨rfl, rfl, rfl, by decide +kernel, rfl, by decide +kernel, by decide +kernel⟩
abbrev st_law : Stmt := topS 36
abbrev N_law : List Str := ["_law_script", "_law_draw_here", "_law_nodes", "_law_first", "_law_second", "_law_tree", "_law_found"]
abbrev P_law : List Str := ["_law_script"]
theorem sc_law : FnScope N_law P_law (defScope st_law) := ⟨rfl, rfl, rfl, by decide +kernel, rfl, by decide +kernel, by decide +kernel⟩
section
variable {P : Program} {w : World} {K : PySem.W.Frag} {mg : Str → Option Value} {base : Heap}



theorem ok_law_below {f : Addr} {fd : FuncData} (F : Fun K "_law_below" "_law_below" st_law_below f fd) (b_list : mg "list" = none) :
    FnOk P w K mg base CX0 1 f fd P_law_below (spF K 1 f_law_below) := by
  have nd := sc_law_below.nd
  refine fn_ok F sc_law_below rfl rfl (by decide) fun cdv A outer s H E hr => ?_
  have hu := hr.units
  exact (sb_cons (ss_if (st_c oIn (se_ix (se_var (pv 0)) se_int (fun _ _ => rfl)) (se_tup (sa_cons (se_str (cs := [115, 101, 113]) (by decide +kernel)) (sa_cons (se_str (cs := [97, 108, 116]) (by decide +kernel)) sa_nil))) rfl) (sb_one (ss_ret (se_tolist b_list rfl (se_ix (se_var (pv 0)) se_int (fun _ _ => rfl))))) sb_nil)
    (sb_cons (ss_if (st_c (oEq hu) (se_ix (se_var (pv 0)) se_int (fun _ _ => rfl)) (se_str (cs := tx_repeat) (by decide +kernel)) (nomark _)) (sb_one (ss_ret (se_lst (sa_cons (se_ix (se_var (pv 0)) se_int (fun _ _ => rfl)) sa_nil)))) sb_nil)
    (sb_cons (ss_if (st_c (oEq hu) (se_ix (se_var (pv 0)) se_int (fun _ _ => rfl)) (se_str (cs := tx_group) (by decide +kernel)) (nomark _)) (sb_one (ss_ret (se_lst (sa_cons (se_ix (se_var (pv 0)) se_int (fun _ _ => rfl)) sa_nil)))) sb_nil)
    (sb_cons (ss_if (st_c (oEq hu) (se_ix (se_var (pv 0)) se_int (fun _ _ => rfl)) (se_str (cs := tx_look) (by decide +kernel)) (nomark _)) (sb_one (ss_ret (se_lst (sa_cons (se_ix (se_var (pv 0)) se_int (fun _ _ => rfl)) sa_nil)))) sb_nil)
    (sb_one (ss_ret (se_lst sa_nil)))))))
theorem ok_law_draw {f : Addr} {fd : FuncData} (F : Fun K "_law_draw" "_law_draw" st_law_draw f fd) (b_int : mg "int" = none) (b_range : mg "range" = none) :
    FnOk P w K mg base CX0 1 f fd P_law_draw (spF K 1 f_law_draw) := by
  have nd := sc_law_draw.nd
  refine fn_ok F sc_law_draw rfl rfl (by decide) fun cdv A outer s H E hr => ?_
  have hu := hr.units
  exact (sb_cons (ss_set (i := 1) nd rfl (Or.inl rfl) (se_lst sa_nil))
    (sb_cons (ss_set (i := 2) nd rfl (Or.inl rfl) se_int)
    (sb_cons (ss_set (i := 3) nd rfl (Or.inl rfl) se_int)
    (sb_cons (ss_for PassesOwn.never rfl (si_seq (se_var (pv 0))) (sg_name (i := 4) nd rfl (Or.inl rfl)) (sb_cons (ss_set (i := 2) nd rfl (Or.inl rfl) (se_b oMod (se_toint b_int rfl (sa_cons (se_b oAdd (se_b oMul (se_var (pv 2)) se_int) (se_var (pv 4))) sa_nil)) se_int))
    (sb_cons (ss_set (i := 3) nd rfl (Or.inl rfl) (se_b oMod (se_toint b_int rfl (sa_cons (se_b oAdd (se_b oMul (se_var (pv 3)) se_int) (se_b oDiv (se_var (pv 4)) se_int)) sa_nil)) se_int))
    (sb_cons (ss_set (i := 5) nd rfl (Or.inl rfl) (se_var (pv 4)))
    (sb_cons (ss_if (st_c oLt (se_var (pv 4)) (se_b oPow se_int se_int) (nomark _)) (sb_one (ss_set (i := 5) nd rfl (Or.inl rfl) se_int)) sb_nil)
    (sb_one (ss_for PassesOwn.never rfl (si_range1 b_range rfl (sa_cons se_int sa_nil)) (sg_name (i := 6) nd rfl (Or.inl rfl)) (sb_one (ss_if (st_c oGt (se_var (pv 5)) se_int (nomark _)) (sb_cons (ss_app (i := 1) (pv 1) (se_b oMod (se_toint b_int rfl (sa_cons (se_var (pv 5)) sa_nil)) se_int))
    (sb_one (ss_set (i := 5) nd rfl (Or.inl rfl) (se_b oDiv (se_var (pv 5)) se_int)))) sb_nil)))))))))
    (sb_one (ss_ret (se_lst (sa_cons se_int (sa_cons (se_var (pv 2)) (sa_cons (se_var (pv 3)) (sa_cons (se_var (pv 1)) (sa_cons se_int sa_nil))))))))))))
theorem ok_law_next {f : Addr} {fd : FuncData} (F : Fun K "_law_next" "_law_next" st_law_next f fd) (b_int : mg "int" = none) (b_len : mg "len" = none) :
    FnOk P w K mg base CX0 1 f fd P_law_next (spF K 2 f_law_next) := by
  have nd := sc_law_next.nd
  refine fn_ok F sc_law_next rfl rfl (by decide) fun cdv A outer s H E hr => ?_
  have hu := hr.units
  exact (sb_cons (ss_set (i := 2) nd rfl (Or.inl rfl) (se_ix (se_var (pv 0)) se_int (fun _ _ => rfl)))
    (sb_cons (ss_if (st_c oLt (se_var (pv 2)) (se_len b_len rfl (sa_cons (se_ix (se_var (pv 0)) se_int (fun _ _ => rfl)) sa_nil)) (nomark _)) (sb_cons (ss_seti (i := 0) (pv 0) se_int (se_b oAdd (se_var (pv 2)) se_int))
    (sb_one (ss_ret (se_b oMod (se_toint b_int rfl (sa_cons (se_ix (se_ix (se_var (pv 0)) se_int (fun _ _ => rfl)) (se_var (pv 2)) (fun _ _ => rfl)) sa_nil)) (se_var (pv 1)))))) sb_nil)
    (sb_cons (ss_seti (i := 0) (pv 0) se_int (se_b oMod (se_toint b_int rfl (sa_cons (se_b oAdd (se_b oMul (se_ix (se_var (pv 0)) se_int (fun _ _ => rfl)) se_int) se_int) sa_nil)) se_int))
    (sb_cons (ss_seti (i := 0) (pv 0) se_int (se_b oMod (se_toint b_int rfl (sa_cons (se_b oAdd (se_b oMul (se_ix (se_var (pv 0)) se_int (fun _ _ => rfl)) se_int) se_int) sa_nil)) se_int))
    (sb_one (ss_ret (se_b oMod (se_toint b_int rfl (sa_cons (se_b oAdd (se_b oDiv (se_ix (se_var (pv 0)) se_int (fun _ _ => rfl)) se_int) (se_b oDiv (se_ix (se_var (pv 0)) se_int (fun _ _ => rfl)) se_int)) sa_nil)) (se_var (pv 1)))))))))
theorem ok_law_any_name {f : Addr} {fd : FuncData} (F : Fun K "_law_any_name" "_law_any_name" st_law_any_name f fd) (b_range : mg "range" = none) {a_law_next : Addr} {d_law_next : FuncData} (ok_law_next : FnOk P w K mg base CX0 1 a_law_next d_law_next P_law_next (spF K 2 f_law_next)) (mg_law_next : mg "_law_next" = some (.ref a_law_next)) (kp_law_next : PySem.W.keepIn K (.ref a_law_next) = true) (bi_law_next : Binds K d_law_next P_law_next []) :
    FnOk P w K mg base CX0 2 f fd P_law_any_name (spF K 1 f_law_any_name) := by
  have nd := sc_law_any_name.nd
  refine fn_ok F sc_law_any_name rfl rfl (by decide) fun cdv A outer s H E hr => ?_
  have hu := hr.units
  exact (sb_cons (ss_set (i := 1) nd rfl (Or.inl rfl) (se_str (cs := tx_abcdefghijklmn3) (by decide +kernel)))
    (sb_cons (ss_set (i := 2) nd rfl (Or.inl rfl) (se_lst (sa_cons (se_str (cs := tx_start) (by decide +kernel)) (sa_cons (se_str (cs := [101, 110, 100]) (by decide +kernel)) (sa_cons (se_str (cs := tx_line) (by decide +kernel)) (sa_cons (se_str (cs := tx_word) (by decide +kernel)) (sa_cons (se_str (cs := tx_edge) (by decide +kernel)) (sa_cons (se_str (cs := [110, 111]) (by decide +kernel)) (sa_cons (se_str (cs := [110, 111, 116]) (by decide +kernel)) (sa_cons (se_str (cs := tx_ahead) (by decide +kernel)) (sa_cons (se_str (cs := tx_behind) (by decide +kernel)) (sa_cons (se_str (cs := tx_digit) (by decide +kernel)) (sa_cons (se_str (cs := tx_letter) (by decide +kernel)) (sa_cons (se_str (cs := tx_blank) (by decide +kernel)) (sa_cons (se_str (cs := tx_same) (by decide +kernel)) sa_nil)))))))))))))))
    (sb_cons (ss_if (st_c (oEq hu) (se_call (fs := [true, false]) ok_law_next fnS_len (hr.mono (by decide)) mg_law_next kp_law_next bi_law_next rfl (sa_cons (se_var (pv 0)) (sa_cons se_int sa_nil))) se_int (nomark _)) (sb_one (ss_ret (se_ix (se_b oAdd (se_var (pv 2)) (se_lst (sa_cons (se_str (cs := [97, 115]) (by decide +kernel)) (sa_cons (se_str (cs := tx_empty) (by decide +kernel)) (sa_cons (se_str (cs := [115, 101, 116]) (by decide +kernel)) (sa_cons (se_str (cs := [115, 101, 113]) (by decide +kernel)) (sa_cons (se_str (cs := [97, 108, 116]) (by decide +kernel)) (sa_cons (se_str (cs := tx_repeat) (by decide +kernel)) (sa_cons (se_str (cs := tx_group) (by decide +kernel)) (sa_cons (se_str (cs := tx_look) (by decide +kernel)) (sa_cons (se_str (cs := [110]) (by decide +kernel)) (sa_cons (se_str (cs := [116]) (by decide +kernel)) sa_nil)))))))))))) (se_call (fs := [true, false]) ok_law_next fnS_len (hr.mono (by decide)) mg_law_next kp_law_next bi_law_next rfl (sa_cons (se_var (pv 0)) (sa_cons se_int sa_nil))) (fun _ _ => rfl)))) sb_nil)
    (sb_cons (ss_set (i := 3) nd rfl (Or.inl rfl) (se_ix (se_var (pv 1)) (se_call (fs := [true, false]) ok_law_next fnS_len (hr.mono (by decide)) mg_law_next kp_law_next bi_law_next rfl (sa_cons (se_var (pv 0)) (sa_cons se_int sa_nil))) (fun _ _ => rfl)))
    (sb_cons (ss_for PassesOwn.never rfl (si_range1 b_range rfl (sa_cons (se_call (fs := [true, false]) ok_law_next fnS_len (hr.mono (by decide)) mg_law_next kp_law_next bi_law_next rfl (sa_cons (se_var (pv 0)) (sa_cons se_int sa_nil))) sa_nil)) (sg_name (i := 4) nd rfl (Or.inl rfl)) (sb_one (ss_set (i := 3) nd rfl (Or.inl rfl) (se_b oAdd (se_var (pv 3)) (se_ix (se_b oAdd (se_var (pv 1)) (se_str (cs := tx_0123456789) (by decide +kernel))) (se_call (fs := [true, false]) ok_law_next fnS_len (hr.mono (by decide)) mg_law_next kp_law_next bi_law_next rfl (sa_cons (se_var (pv 0)) (sa_cons se_int sa_nil))) (fun _ _ => rfl))))))
    (sb_one (ss_ret (se_var (pv 3)))))))))
theorem ok_law_near_name {f : Addr} {fd : FuncData} (F : Fun K "_law_near_name" "_law_near_name" st_law_near_name f fd) (b_len : mg "len" = none) {a_law_next : Addr} {d_law_next : FuncData} (ok_law_next : FnOk P w K mg base CX0 1 a_law_next d_law_next P_law_next (spF K 2 f_law_next)) (mg_law_next : mg "_law_next" = some (.ref a_law_next)) (kp_law_next : PySem.W.keepIn K (.ref a_law_next) = true) (bi_law_next : Binds K d_law_next P_law_next []) :
    FnOk P w K mg base CX0 2 f fd P_law_near_name (spF K 2 f_law_near_name) := by
  have nd := sc_law_near_name.nd
  refine fn_ok F sc_law_near_name rfl rfl (by decide) fun cdv A outer s H E hr => ?_
  have hu := hr.units
  exact (sb_cons (ss_set (i := 2) nd rfl (Or.inl rfl) (se_str (cs := tx_abcdefghijklmn2) (by decide +kernel)))
    (sb_cons (ss_set (i := 3) nd rfl (Or.inl rfl) (se_call (fs := [true, false]) ok_law_next fnS_len (hr.mono (by decide)) mg_law_next kp_law_next bi_law_next rfl (sa_cons (se_var (pv 0)) (sa_cons se_int sa_nil))))
    (sb_cons (ss_if (st_bool (sw_and (st_c (oEq hu) (se_var (pv 3)) se_int (nomark _)) (sw_and1 (st_c oLt (se_len b_len rfl (sa_cons (se_var (pv 1)) sa_nil)) se_int (nomark _))))) (sb_one (ss_ret (se_b oAdd (se_var (pv 1)) (se_ix (se_var (pv 2)) (se_call (fs := [true, false]) ok_law_next fnS_len (hr.mono (by decide)) mg_law_next kp_law_next bi_law_next rfl (sa_cons (se_var (pv 0)) (sa_cons se_int sa_nil))) (fun _ _ => rfl))))) sb_nil)
    (sb_cons (ss_if (st_bool (sw_and (st_c (oEq hu) (se_var (pv 3)) se_int (nomark _)) (sw_and1 (st_c oGt (se_len b_len rfl (sa_cons (se_var (pv 1)) sa_nil)) se_int (nomark _))))) (sb_one (ss_ret (se_slc (se_var (pv 1)) so_none (so_some (se_neg se_int))))) sb_nil)
    (sb_cons (ss_set (i := 4) nd rfl (Or.inl rfl) (se_call (fs := [true, false]) ok_law_next fnS_len (hr.mono (by decide)) mg_law_next kp_law_next bi_law_next rfl (sa_cons (se_var (pv 0)) (sa_cons (se_len b_len rfl (sa_cons (se_var (pv 1)) sa_nil)) sa_nil))))
    (sb_cons (ss_if (st_c (oEq hu) (se_var (pv 4)) se_int (nomark _)) (sb_one (ss_ret (se_b oAdd (se_ix (se_var (pv 2)) (se_call (fs := [true, false]) ok_law_next fnS_len (hr.mono (by decide)) mg_law_next kp_law_next bi_law_next rfl (sa_cons (se_var (pv 0)) (sa_cons se_int sa_nil))) (fun _ _ => rfl)) (se_slc (se_var (pv 1)) (so_some se_int) so_none)))) sb_nil)
    (sb_one (ss_ret (se_b oAdd (se_b oAdd (se_slc (se_var (pv 1)) so_none (so_some (se_var (pv 4)))) (se_ix (se_var (pv 2)) (se_call (fs := [true, false]) ok_law_next fnS_len (hr.mono (by decide)) mg_law_next kp_law_next bi_law_next rfl (sa_cons (se_var (pv 0)) (sa_cons se_int sa_nil))) (fun _ _ => rfl))) (se_slc (se_var (pv 1)) (so_some (se_b oAdd (se_var (pv 4)) se_int)) so_none))))))))))
theorem ok_law_group_name_v11 {f : Addr} {fd : FuncData} (F : Fun K "_law_group_name" "_law_group_name" st_law_group_name_v11 f fd) (b_len : mg "len" = none) {a_law_any_name : Addr} {d_law_any_name : FuncData} (ok_law_any_name : FnOk P w K mg base CX0 2 a_law_any_name d_law_any_name P_law_any_name (spF K 1 f_law_any_name)) (mg_law_any_name : mg "_law_any_name" = some (.ref a_law_any_name)) (kp_law_any_name : PySem.W.keepIn K (.ref a_law_any_name) = true) (bi_law_any_name : Binds K d_law_any_name P_law_any_name []) {a_law_near_name : Addr} {d_law_near_name : FuncData} (ok_law_near_name : FnOk P w K mg base CX0 2 a_law_near_name d_law_near_name P_law_near_name (spF K 2 f_law_near_name)) (mg_law_near_name : mg "_law_near_name" = some (.ref a_law_near_name)) (kp_law_near_name : PySem.W.keepIn K (.ref a_law_near_name) = true) (bi_law_near_name : Binds K d_law_near_name P_law_near_name []) {a_law_next : Addr} {d_law_next : FuncData} (ok_law_next : FnOk P w K mg base CX0 1 a_law_next d_law_next P_law_next (spF K 2 f_law_next)) (mg_law_next : mg "_law_next" = some (.ref a_law_next)) (kp_law_next : PySem.W.keepIn K (.ref a_law_next) = true) (bi_law_next : Binds K d_law_next P_law_next []) :
    FnOk P w K mg base CX0 3 f fd P_law_group_name_v11 (spF K 2 f_law_group_name_v11) := by
  have nd := sc_law_group_name_v11.nd
  refine fn_ok F sc_law_group_name_v11 rfl rfl (by decide) fun cdv A outer s H E hr => ?_
  have hu := hr.units
  exact (sb_cons (ss_set (i := 2) nd rfl (Or.inl rfl) (se_call (fs := [true, false]) ok_law_next fnS_len (hr.mono (by decide)) mg_law_next kp_law_next bi_law_next rfl (sa_cons (se_var (pv 0)) (sa_cons se_int sa_nil))))
    (sb_cons (ss_if (st_bool (sw_and (st_c oGt (se_len b_len rfl (sa_cons (se_var (pv 1)) sa_nil)) se_int (nomark _)) (sw_and1 (st_c oLt (se_var (pv 2)) se_int (nomark _))))) (sb_cons (ss_set (i := 3) nd rfl (Or.inl rfl) (se_ix (se_var (pv 1)) (se_call (fs := [true, false]) ok_law_next fnS_len (hr.mono (by decide)) mg_law_next kp_law_next bi_law_next rfl (sa_cons (se_var (pv 0)) (sa_cons (se_len b_len rfl (sa_cons (se_var (pv 1)) sa_nil)) sa_nil))) (fun _ _ => rfl)))
    (sb_cons (ss_if (st_c (oEq hu) (se_var (pv 2)) se_int (nomark _)) (sb_one (ss_ret (se_var (pv 3)))) sb_nil)
    (sb_one (ss_ret (se_call (fs := [true, false]) ok_law_near_name fnS_len (hr.mono (by decide)) mg_law_near_name kp_law_near_name bi_law_near_name rfl (sa_cons (se_var (pv 0)) (sa_cons (se_var (pv 3)) sa_nil))))))) sb_nil)
    (sb_one (ss_ret (se_call (fs := [true]) ok_law_any_name fnS_len (hr.mono (by decide)) mg_law_any_name kp_law_any_name bi_law_any_name rfl (sa_cons (se_var (pv 0)) sa_nil))))))
theorem ok_law_signs {f : Addr} {fd : FuncData} (F : Fun K "_law_signs" "_law_signs" st_law_signs f fd)  :
    FnOk P w K mg base CX0 1 f fd P_law_signs (spF K 0 f_law_signs) := by
  have nd := sc_law_signs.nd
  refine fn_ok F sc_law_signs rfl rfl (by decide) fun cdv A outer s H E hr => ?_
  have hu := hr.units
  exact (sb_cons (ss_set (i := 0) nd rfl (Or.inl rfl) (se_str (cs := tx_0123456789abcd) (by decide +kernel)))
    (sb_one (ss_ret (se_b oAdd (se_var (pv 0)) (se_str (cs := tx_abcdefghijklmn) (by decide +kernel))))))
theorem ok_law_words {f : Addr} {fd : FuncData} (F : Fun K "_law_words" "_law_words" st_law_words f fd)  :
    FnOk P w K mg base CX0 1 f fd P_law_words (spF K 0 f_law_words) := by
  have nd := sc_law_words.nd
  refine fn_ok F sc_law_words rfl rfl (by decide) fun cdv A outer s H E hr => ?_
  have hu := hr.units
  exact (sb_one (ss_ret (se_str (cs := tx_0123456789abcd2) (by decide +kernel))))
theorem ok_law_some_set {f : Addr} {fd : FuncData} (F : Fun K "_law_some_set" "_law_some_set" st_law_some_set f fd) (b_range : mg "range" = none) {a_law_next : Addr} {d_law_next : FuncData} (ok_law_next : FnOk P w K mg base CX0 1 a_law_next d_law_next P_law_next (spF K 2 f_law_next)) (mg_law_next : mg "_law_next" = some (.ref a_law_next)) (kp_law_next : PySem.W.keepIn K (.ref a_law_next) = true) (bi_law_next : Binds K d_law_next P_law_next []) {a_law_signs : Addr} {d_law_signs : FuncData} (ok_law_signs : FnOk P w K mg base CX0 1 a_law_signs d_law_signs P_law_signs (spF K 0 f_law_signs)) (mg_law_signs : mg "_law_signs" = some (.ref a_law_signs)) (kp_law_signs : PySem.W.keepIn K (.ref a_law_signs) = true) (bi_law_signs : Binds K d_law_signs P_law_signs []) {a_law_words : Addr} {d_law_words : FuncData} (ok_law_words : FnOk P w K mg base CX0 1 a_law_words d_law_words P_law_words (spF K 0 f_law_words)) (mg_law_words : mg "_law_words" = some (.ref a_law_words)) (kp_law_words : PySem.W.keepIn K (.ref a_law_words) = true) (bi_law_words : Binds K d_law_words P_law_words []) :
    FnOk P w K mg base CX0 2 f fd P_law_some_set (spF K 1 f_law_some_set) := by
  have nd := sc_law_some_set.nd
  refine fn_ok F sc_law_some_set rfl rfl (by decide) fun cdv A outer s H E hr => ?_
  have hu := hr.units
  exact (sb_cons (ss_set (i := 1) nd rfl (Or.inl rfl) (se_call0 (fs := []) ok_law_signs fnS_len (hr.mono (by decide)) mg_law_signs kp_law_signs bi_law_signs rfl))
    (sb_cons (ss_set (i := 2) nd rfl (Or.inl rfl) (se_call (fs := [true, false]) ok_law_next fnS_len (hr.mono (by decide)) mg_law_next kp_law_next bi_law_next rfl (sa_cons (se_var (pv 0)) (sa_cons se_int sa_nil))))
    (sb_cons (ss_if (st_c oLt (se_var (pv 2)) se_int (nomark _)) (sb_one (ss_ret (se_ix (se_var (pv 1)) (se_call (fs := [true, false]) ok_law_next fnS_len (hr.mono (by decide)) mg_law_next kp_law_next bi_law_next rfl (sa_cons (se_var (pv 0)) (sa_cons se_int sa_nil))) (fun _ _ => rfl)))) sb_nil)
    (sb_cons (ss_if (st_c oLt (se_var (pv 2)) se_int (nomark _)) (sb_one (ss_ret (se_ix (se_str (cs := tx_3) (by decide +kernel)) (se_call (fs := [true, false]) ok_law_next fnS_len (hr.mono (by decide)) mg_law_next kp_law_next bi_law_next rfl (sa_cons (se_var (pv 0)) (sa_cons se_int sa_nil))) (fun _ _ => rfl)))) sb_nil)
    (sb_cons (ss_if (st_c (oEq hu) (se_var (pv 2)) se_int (nomark _)) (sb_one (ss_ret (se_ix (se_lst (sa_cons (se_str (cs := []) (by decide +kernel)) (sa_cons (se_var (pv 1)) (sa_cons (se_b oAdd (se_slc (se_var (pv 1)) so_none (so_some se_int)) (se_slc (se_var (pv 1)) (so_some se_int) so_none)) sa_nil)))) (se_call (fs := [true, false]) ok_law_next fnS_len (hr.mono (by decide)) mg_law_next kp_law_next bi_law_next rfl (sa_cons (se_var (pv 0)) (sa_cons se_int sa_nil))) (fun _ _ => rfl)))) sb_nil)
    (sb_cons (ss_if (st_c (oEq hu) (se_var (pv 2)) se_int (nomark _)) (sb_one (ss_ret (se_ix (se_lst (sa_cons (se_slc (se_var (pv 1)) (so_some se_int) (so_some se_int)) (sa_cons (se_b oAdd (se_slc (se_var (pv 1)) (so_some se_int) (so_some se_int)) (se_slc (se_var (pv 1)) (so_some se_int) (so_some se_int))) (sa_cons (se_slc (se_var (pv 1)) so_none (so_some se_int)) (sa_cons (se_call0 (fs := []) ok_law_words fnS_len (hr.mono (by decide)) mg_law_words kp_law_words bi_law_words rfl) sa_nil))))) (se_call (fs := [true, false]) ok_law_next fnS_len (hr.mono (by decide)) mg_law_next kp_law_next bi_law_next rfl (sa_cons (se_var (pv 0)) (sa_cons se_int sa_nil))) (fun _ _ => rfl)))) sb_nil)
    (sb_cons (ss_set (i := 3) nd rfl (Or.inr rfl) (se_str (cs := []) (by decide +kernel)))
    (sb_cons (ss_for PassesOwn.never rfl (si_range1 b_range rfl (sa_cons (se_b oAdd se_int (se_call (fs := [true, false]) ok_law_next fnS_len (hr.mono (by decide)) mg_law_next kp_law_next bi_law_next rfl (sa_cons (se_var (pv 0)) (sa_cons se_int sa_nil)))) sa_nil)) (sg_name (i := 4) nd rfl (Or.inl rfl)) (sb_cons (ss_set (i := 6) nd rfl (Or.inl rfl) (se_call (fs := [true, false]) ok_law_next fnS_len (hr.mono (by decide)) mg_law_next kp_law_next bi_law_next rfl (sa_cons (se_var (pv 0)) (sa_cons se_int sa_nil))))
    (sb_one (ss_set (i := 3) nd rfl (Or.inr rfl) (se_b oAdd (se_var (pv 3)) (se_slc (se_var (pv 1)) (so_some (se_var (pv 6))) (so_some (se_b oAdd (se_b oAdd (se_var (pv 6)) se_int) (se_call (fs := [true, false]) ok_law_next fnS_len (hr.mono (by decide)) mg_law_next kp_law_next bi_law_next rfl (sa_cons (se_var (pv 0)) (sa_cons se_int sa_nil)))))))))))
    (sb_cons (ss_set (i := 5) nd rfl (Or.inr rfl) (se_c (oEq hu) (se_call (fs := [true, false]) ok_law_next fnS_len (hr.mono (by decide)) mg_law_next kp_law_next bi_law_next rfl (sa_cons (se_var (pv 0)) (sa_cons se_int sa_nil))) se_int (nomark _)))
    (sb_one (ss_ret (se_join (se_str (cs := []) (by decide +kernel)) (sa_cons (se_lc (own := [("_law_sign", 7)]) rfl nd (si_seq (se_var (pv 1))) (blkOk_by (own := [("_law_sign", 7)]) (N := N_law_some_set) (sc := defScope st_law_some_set) (by decide +kernel)) (by decide) (gok_name 7) (fun _ _ _ _ _ => (sg_name (i := 7) nd rfl (Or.inl rfl))) (fun _ _ _ _ _ => (sts_one (st_c (oNe hu) (se_c oIn (se_var (pv 7)) (se_var (pv 3)) rfl) (se_var (pv 5)) (nomark _)))) (fun _ _ _ _ _ => (se_var (pv 7)))) sa_nil)))))))))))))
theorem ok_law_tip_v101 {f : Addr} {fd : FuncData} (F : Fun K "_law_tip" "_law_tip" st_law_tip_v101 f fd) (b_len : mg "len" = none) {a_law_next : Addr} {d_law_next : FuncData} (ok_law_next : FnOk P w K mg base CX0 1 a_law_next d_law_next P_law_next (spF K 2 f_law_next)) (mg_law_next : mg "_law_next" = some (.ref a_law_next)) (kp_law_next : PySem.W.keepIn K (.ref a_law_next) = true) (bi_law_next : Binds K d_law_next P_law_next []) {a_law_some_set : Addr} {d_law_some_set : FuncData} (ok_law_some_set : FnOk P w K mg base CX0 2 a_law_some_set d_law_some_set P_law_some_set (spF K 1 f_law_some_set)) (mg_law_some_set : mg "_law_some_set" = some (.ref a_law_some_set)) (kp_law_some_set : PySem.W.keepIn K (.ref a_law_some_set) = true) (bi_law_some_set : Binds K d_law_some_set P_law_some_set []) :
    FnOk P w K mg base CX0 3 f fd P_law_tip_v101 (spF K 3 f_law_tip_v101) := by
  have nd := sc_law_tip_v101.nd
  refine fn_ok F sc_law_tip_v101 rfl rfl (by decide) fun cdv A outer s H E hr => ?_
  have hu := hr.units
  exact (sb_cons (ss_set (i := 3) nd rfl (Or.inl rfl) (se_call (fs := [true, false]) ok_law_next fnS_len (hr.mono (by decide)) mg_law_next kp_law_next bi_law_next rfl (sa_cons (se_var (pv 0)) (sa_cons se_int sa_nil))))
    (sb_cons (ss_if (st_c (oEq hu) (se_var (pv 3)) se_int (nomark _)) (sb_one (ss_ret (se_tup (sa_cons (se_str (cs := tx_empty) (by decide +kernel)) sa_nil)))) sb_nil)
    (sb_cons (ss_if (st_c oLt (se_var (pv 3)) se_int (nomark _)) (sb_one (ss_ret (se_tup (sa_cons (se_str (cs := tx_edge) (by decide +kernel)) (sa_cons (se_ix (se_lst (sa_cons (se_str (cs := tx_start) (by decide +kernel)) (sa_cons (se_str (cs := [101, 110, 100]) (by decide +kernel)) (sa_cons (se_str (cs := tx_linestart) (by decide +kernel)) (sa_cons (se_str (cs := tx_lineend) (by decide +kernel)) (sa_cons (se_str (cs := tx_wordedge) (by decide +kernel)) (sa_cons (se_str (cs := tx_nowordedge) (by decide +kernel)) sa_nil))))))) (se_call (fs := [true, false]) ok_law_next fnS_len (hr.mono (by decide)) mg_law_next kp_law_next bi_law_next rfl (sa_cons (se_var (pv 0)) (sa_cons se_int sa_nil))) (fun _ _ => rfl)) sa_nil))))) sb_nil)
    (sb_cons (ss_if (st_bool (sw_and (st_c oLt (se_var (pv 3)) se_int (nomark _)) (sw_and (st_val (se_var (pv 1)) (by intro _; rfl)) (sw_and1 (st_c oGt (se_len b_len rfl (sa_cons (se_var (pv 2)) sa_nil)) se_int (nomark _)))))) (sb_one (ss_ret (se_tup (sa_cons (se_str (cs := tx_same) (by decide +kernel)) (sa_cons (se_ix (se_var (pv 2)) (se_call (fs := [true, false]) ok_law_next fnS_len (hr.mono (by decide)) mg_law_next kp_law_next bi_law_next rfl (sa_cons (se_var (pv 0)) (sa_cons (se_len b_len rfl (sa_cons (se_var (pv 2)) sa_nil)) sa_nil))) (fun _ _ => rfl)) sa_nil))))) sb_nil)
    (sb_one (ss_ret (se_tup (sa_cons (se_str (cs := [115, 101, 116]) (by decide +kernel)) (sa_cons (se_call (fs := [true]) ok_law_some_set fnS_len (hr.mono (by decide)) mg_law_some_set kp_law_some_set bi_law_some_set rfl (sa_cons (se_var (pv 0)) sa_nil)) sa_nil)))))))))
theorem ok_law_chain {a_law_chain : Addr} {d_law_chain : FuncData} (F_law_chain : Fun K "_law_chain" "_law_chain" st_law_chain a_law_chain d_law_chain) (mg_law_chain : mg "_law_chain" = some (.ref a_law_chain)) (kp_law_chain : PySem.W.keepIn K (.ref a_law_chain) = true) (bi_law_chain : Binds K d_law_chain P_law_chain []) {a_law_group_name_v11 : Addr} {d_law_group_name_v11 : FuncData} (ok_law_group_name_v11 : FnOk P w K mg base CX0 3 a_law_group_name_v11 d_law_group_name_v11 P_law_group_name_v11 (spF K 2 f_law_group_name_v11)) (mg_law_group_name_v11 : mg "_law_group_name" = some (.ref a_law_group_name_v11)) (kp_law_group_name_v11 : PySem.W.keepIn K (.ref a_law_group_name_v11) = true) (bi_law_group_name_v11 : Binds K d_law_group_name_v11 P_law_group_name_v11 []) {a_law_next : Addr} {d_law_next : FuncData} (ok_law_next : FnOk P w K mg base CX0 1 a_law_next d_law_next P_law_next (spF K 2 f_law_next)) (mg_law_next : mg "_law_next" = some (.ref a_law_next)) (kp_law_next : PySem.W.keepIn K (.ref a_law_next) = true) (bi_law_next : Binds K d_law_next P_law_next []) {a_law_tip_v101 : Addr} {d_law_tip_v101 : FuncData} (ok_law_tip_v101 : FnOk P w K mg base CX0 3 a_law_tip_v101 d_law_tip_v101 P_law_tip_v101 (spF K 3 f_law_tip_v101)) (mg_law_tip_v101 : mg "_law_tip" = some (.ref a_law_tip_v101)) (kp_law_tip_v101 : PySem.W.keepIn K (.ref a_law_tip_v101) = true) (bi_law_tip_v101 : Binds K d_law_tip_v101 P_law_tip_v101 []) :
    ∀ n : Nat, FnOk P w K mg base CX0 (3 + n + 1) a_law_chain d_law_chain P_law_chain (spF K 4 (fx_law_chain n)) := by
  intro n
  induction n with
  | zero =>
    skip
    · unfold fx_law_chain; exact fn_ok0 F_law_chain sc_law_chain rfl
  | succ n ih =>
    have ih_law_chain := ih
    · have nd := sc_law_chain.nd
      unfold fx_law_chain
      refine fn_ok F_law_chain sc_law_chain rfl rfl (by decide) fun cdv A outer s H E hr => ?_
      have hu := hr.units
      exact (sb_cons (ss_set (i := 4) nd rfl (Or.inl rfl) (se_call (fs := [true, false]) ok_law_next fnS_len (hr.mono (by omega)) mg_law_next kp_law_next bi_law_next rfl (sa_cons (se_var (pv 0)) (sa_cons se_int sa_nil))))
    (sb_cons (ss_if (st_c oLt (se_var (pv 1)) se_int (nomark _)) (sb_one (ss_ret (se_call (fs := [true, false, true]) ok_law_tip_v101 fnS_len (hr.mono (by omega)) mg_law_tip_v101 kp_law_tip_v101 bi_law_tip_v101 rfl (sa_cons (se_var (pv 0)) (sa_cons (se_var (pv 2)) (sa_cons (se_var (pv 3)) sa_nil)))))) sb_nil)
    (sb_cons (ss_if (st_c oLt (se_var (pv 4)) se_int (nomark _)) (sb_cons (ss_set (i := 6) nd rfl (Or.inl rfl) (se_call (fs := [true, false, true]) ok_law_tip_v101 fnS_len (hr.mono (by omega)) mg_law_tip_v101 kp_law_tip_v101 bi_law_tip_v101 rfl (sa_cons (se_var (pv 0)) (sa_cons (se_var (pv 2)) (sa_cons (se_var (pv 3)) sa_nil)))))
    (sb_cons (ss_set (i := 7) nd rfl (Or.inl rfl) (se_call (fs := [true, false, false, true]) ih_law_chain (fx_law_chain_len n) (hr.mono (by omega)) mg_law_chain kp_law_chain bi_law_chain rfl (sa_cons (se_var (pv 0)) (sa_cons (se_b oSub (se_var (pv 1)) se_int) (sa_cons (se_var (pv 2)) (sa_cons (se_var (pv 3)) sa_nil))))))
    (sb_one (ss_ret (se_tup (sa_cons (se_ix (se_lst (sa_cons (se_str (cs := [115, 101, 113]) (by decide +kernel)) (sa_cons (se_str (cs := [97, 108, 116]) (by decide +kernel)) sa_nil))) (se_call (fs := [true, false]) ok_law_next fnS_len (hr.mono (by omega)) mg_law_next kp_law_next bi_law_next rfl (sa_cons (se_var (pv 0)) (sa_cons se_int sa_nil))) (fun _ _ => rfl)) (sa_cons (se_ix (se_lst (sa_cons (se_tup (sa_cons (se_var (pv 6)) (sa_cons (se_var (pv 7)) sa_nil))) (sa_cons (se_tup (sa_cons (se_var (pv 7)) (sa_cons (se_tup (sa_cons (se_str (cs := tx_empty) (by decide +kernel)) sa_nil)) sa_nil))) sa_nil))) (se_call (fs := [true, false]) ok_law_next fnS_len (hr.mono (by omega)) mg_law_next kp_law_next bi_law_next rfl (sa_cons (se_var (pv 0)) (sa_cons se_int sa_nil))) (fun _ _ => rfl)) sa_nil))))))) sb_nil)
    (sb_cons (ss_if (st_bool (sw_and (st_c oLt (se_var (pv 4)) se_int (nomark _)) (sw_and1 (st_val (se_var (pv 2)) (by intro _; rfl))))) (sb_cons (ss_set (i := 8) nd rfl (Or.inl rfl) (se_call (fs := [true, true]) ok_law_group_name_v11 fnS_len (hr.mono (by omega)) mg_law_group_name_v11 kp_law_group_name_v11 bi_law_group_name_v11 rfl (sa_cons (se_var (pv 0)) (sa_cons (se_var (pv 3)) sa_nil))))
    (sb_cons (ss_app (i := 3) (pv 3) (se_var (pv 8)))
    (sb_one (ss_ret (se_tup (sa_cons (se_str (cs := tx_group) (by decide +kernel)) (sa_cons (se_var (pv 8)) (sa_cons (se_call (fs := [true, false, false, true]) ih_law_chain (fx_law_chain_len n) (hr.mono (by omega)) mg_law_chain kp_law_chain bi_law_chain rfl (sa_cons (se_var (pv 0)) (sa_cons (se_b oSub (se_var (pv 1)) se_int) (sa_cons se_bl (sa_cons (se_var (pv 3)) sa_nil))))) sa_nil)))))))) sb_nil)
    (sb_cons (ss_if (st_bool (sw_and (st_c (oEq hu) (se_var (pv 4)) se_int (nomark _)) (sw_and (st_val (se_var (pv 2)) (by intro _; rfl)) (sw_and1 (st_c oGt (se_ix (se_var (pv 0)) se_int (fun _ _ => rfl)) se_int (nomark _)))))) (sb_cons (ss_seti (i := 0) (pv 0) se_int (se_b oSub (se_ix (se_var (pv 0)) se_int (fun _ _ => rfl)) se_int))
    (sb_one (ss_ret (se_tup (sa_cons (se_str (cs := tx_look) (by decide +kernel)) (sa_cons (se_str (cs := tx_behind) (by decide +kernel)) (sa_cons (se_c (oEq hu) (se_call (fs := [true, false]) ok_law_next fnS_len (hr.mono (by omega)) mg_law_next kp_law_next bi_law_next rfl (sa_cons (se_var (pv 0)) (sa_cons se_int sa_nil))) se_int (nomark _)) (sa_cons (se_call (fs := [true, false, false, true]) ih_law_chain (fx_law_chain_len n) (hr.mono (by omega)) mg_law_chain kp_law_chain bi_law_chain rfl (sa_cons (se_var (pv 0)) (sa_cons (se_b oSub (se_var (pv 1)) se_int) (sa_cons se_bl (sa_cons (se_var (pv 3)) sa_nil))))) sa_nil)))))))) sb_nil)
    (sb_cons (ss_set (i := 5) nd rfl (Or.inl rfl) (se_ix (se_lst (sa_cons se_non (sa_cons se_int (sa_cons se_int sa_nil)))) (se_call (fs := [true, false]) ok_law_next fnS_len (hr.mono (by omega)) mg_law_next kp_law_next bi_law_next rfl (sa_cons (se_var (pv 0)) (sa_cons se_int sa_nil))) (fun _ _ => rfl)))
    (sb_one (ss_ret (se_tup (sa_cons (se_str (cs := tx_repeat) (by decide +kernel)) (sa_cons (se_call (fs := [true, false, false, true]) ih_law_chain (fx_law_chain_len n) (hr.mono (by omega)) mg_law_chain kp_law_chain bi_law_chain rfl (sa_cons (se_var (pv 0)) (sa_cons (se_b oSub (se_var (pv 1)) se_int) (sa_cons (se_var (pv 2)) (sa_cons (se_var (pv 3)) sa_nil))))) (sa_cons se_int (sa_cons (se_var (pv 5)) (sa_cons (se_c (oEq hu) (se_call (fs := [true, false]) ok_law_next fnS_len (hr.mono (by omega)) mg_law_next kp_law_next bi_law_next rfl (sa_cons (se_var (pv 0)) (sa_cons se_int sa_nil))) se_int (nomark _)) sa_nil))))))))))))))
theorem ok_law_numbers {f : Addr} {fd : FuncData} (F : Fun K "_law_numbers" "_law_numbers" st_law_numbers f fd) (b_min : mg "min" = none) {a_law_next : Addr} {d_law_next : FuncData} (ok_law_next : FnOk P w K mg base CX0 1 a_law_next d_law_next P_law_next (spF K 2 f_law_next)) (mg_law_next : mg "_law_next" = some (.ref a_law_next)) (kp_law_next : PySem.W.keepIn K (.ref a_law_next) = true) (bi_law_next : Binds K d_law_next P_law_next []) :
    FnOk P w K mg base CX0 2 f fd P_law_numbers (spF K 2 f_law_numbers) := by
  have nd := sc_law_numbers.nd
  refine fn_ok F sc_law_numbers rfl rfl (by decide) fun cdv A outer s H E hr => ?_
  have hu := hr.units
  exact (sb_cons (ss_set (i := 2) nd rfl (Or.inl rfl) (se_call (fs := [true, false]) ok_law_next fnS_len (hr.mono (by decide)) mg_law_next kp_law_next bi_law_next rfl (sa_cons (se_var (pv 0)) (sa_cons (se_b oAdd (se_min2 b_min rfl rfl (sa_cons se_int (sa_cons (se_var (pv 1)) sa_nil))) se_int) sa_nil))))
    (sb_cons (ss_set (i := 3) nd rfl (Or.inl rfl) (se_call (fs := [true, false]) ok_law_next fnS_len (hr.mono (by decide)) mg_law_next kp_law_next bi_law_next rfl (sa_cons (se_var (pv 0)) (sa_cons se_int sa_nil))))
    (sb_cons (ss_if (st_c (oEq hu) (se_var (pv 3)) se_int (nomark _)) (sb_one (ss_ret (se_tup (sa_cons (se_var (pv 2)) (sa_cons (se_var (pv 2)) sa_nil))))) sb_nil)
    (sb_cons (ss_if (st_c (oEq hu) (se_var (pv 3)) se_int (nomark _)) (sb_one (ss_ret (se_tup (sa_cons se_int (sa_cons se_int sa_nil))))) sb_nil)
    (sb_cons (ss_if (st_c oLt (se_var (pv 3)) se_int (nomark _)) (sb_one (ss_ret (se_tup (sa_cons (se_min2 b_min rfl rfl (sa_cons (se_call (fs := [true, false]) ok_law_next fnS_len (hr.mono (by decide)) mg_law_next kp_law_next bi_law_next rfl (sa_cons (se_var (pv 0)) (sa_cons se_int sa_nil))) (sa_cons (se_b oSub (se_var (pv 1)) se_int) sa_nil))) (sa_cons se_non sa_nil))))) sb_nil)
    (sb_cons (ss_if (st_c (oEq hu) (se_var (pv 3)) se_int (nomark _)) (sb_one (ss_ret (se_tup (sa_cons (se_min2 b_min rfl rfl (sa_cons (se_var (pv 2)) (sa_cons (se_b oSub (se_var (pv 1)) se_int) sa_nil))) (sa_cons se_non sa_nil))))) sb_nil)
    (sb_one (ss_ret (se_tup (sa_cons (se_var (pv 2)) (sa_cons (se_b oAdd (se_var (pv 2)) (se_call (fs := [true, false]) ok_law_next fnS_len (hr.mono (by decide)) mg_law_next kp_law_next bi_law_next rfl (sa_cons (se_var (pv 0)) (sa_cons (se_b oAdd (se_b oSub (se_min2 b_min rfl rfl (sa_cons se_int (sa_cons (se_var (pv 1)) sa_nil))) (se_var (pv 2))) se_int) sa_nil)))) sa_nil)))))))))))
theorem ok_law_times {f : Addr} {fd : FuncData} (F : Fun K "_law_times" "_law_times" st_law_times f fd)  :
    FnOk P w K mg base CX0 1 f fd P_law_times (spF K 1 f_law_times) := by
  have nd := sc_law_times.nd
  refine fn_ok F sc_law_times rfl rfl (by decide) fun cdv A outer s H E hr => ?_
  have hu := hr.units
  exact (sb_cons (ss_if (st_c oIs (se_ix (se_var (pv 0)) se_int (fun _ _ => rfl)) se_non (nomark _)) (sb_one (ss_ret (se_b oAdd (se_ix (se_var (pv 0)) se_int (fun _ _ => rfl)) se_int))) sb_nil)
    (sb_one (ss_ret (se_ix (se_var (pv 0)) se_int (fun _ _ => rfl)))))
theorem ok_law_form {a_law_form : Addr} {d_law_form : FuncData} (F_law_form : Fun K "_law_form" "_law_form" st_law_form a_law_form d_law_form) (b_max : mg "max" = none) (b_min : mg "min" = none) (b_range : mg "range" = none) (b_tuple : mg "tuple" = none) (mg_law_form : mg "_law_form" = some (.ref a_law_form)) (kp_law_form : PySem.W.keepIn K (.ref a_law_form) = true) (bi_law_form : Binds K d_law_form P_law_form []) {a_law_group_name_v11 : Addr} {d_law_group_name_v11 : FuncData} (ok_law_group_name_v11 : FnOk P w K mg base CX0 3 a_law_group_name_v11 d_law_group_name_v11 P_law_group_name_v11 (spF K 2 f_law_group_name_v11)) (mg_law_group_name_v11 : mg "_law_group_name" = some (.ref a_law_group_name_v11)) (kp_law_group_name_v11 : PySem.W.keepIn K (.ref a_law_group_name_v11) = true) (bi_law_group_name_v11 : Binds K d_law_group_name_v11 P_law_group_name_v11 []) {a_law_next : Addr} {d_law_next : FuncData} (ok_law_next : FnOk P w K mg base CX0 1 a_law_next d_law_next P_law_next (spF K 2 f_law_next)) (mg_law_next : mg "_law_next" = some (.ref a_law_next)) (kp_law_next : PySem.W.keepIn K (.ref a_law_next) = true) (bi_law_next : Binds K d_law_next P_law_next []) {a_law_numbers : Addr} {d_law_numbers : FuncData} (ok_law_numbers : FnOk P w K mg base CX0 2 a_law_numbers d_law_numbers P_law_numbers (spF K 2 f_law_numbers)) (mg_law_numbers : mg "_law_numbers" = some (.ref a_law_numbers)) (kp_law_numbers : PySem.W.keepIn K (.ref a_law_numbers) = true) (bi_law_numbers : Binds K d_law_numbers P_law_numbers []) {a_law_times : Addr} {d_law_times : FuncData} (ok_law_times : FnOk P w K mg base CX0 1 a_law_times d_law_times P_law_times (spF K 1 f_law_times)) (mg_law_times : mg "_law_times" = some (.ref a_law_times)) (kp_law_times : PySem.W.keepIn K (.ref a_law_times) = true) (bi_law_times : Binds K d_law_times P_law_times []) {a_law_tip_v101 : Addr} {d_law_tip_v101 : FuncData} (ok_law_tip_v101 : FnOk P w K mg base CX0 3 a_law_tip_v101 d_law_tip_v101 P_law_tip_v101 (spF K 3 f_law_tip_v101)) (mg_law_tip_v101 : mg "_law_tip" = some (.ref a_law_tip_v101)) (kp_law_tip_v101 : PySem.W.keepIn K (.ref a_law_tip_v101) = true) (bi_law_tip_v101 : Binds K d_law_tip_v101 P_law_tip_v101 []) :
    ∀ n : Nat, FnOk P w K mg base CX0 (3 + n + 1) a_law_form d_law_form P_law_form (spF K 6 (fx_law_form n)) := by
  intro n
  induction n with
  | zero =>
    skip
    · unfold fx_law_form; exact fn_ok0 F_law_form sc_law_form rfl
  | succ n ih =>
    have ih_law_form := ih
    · have nd := sc_law_form.nd
      unfold fx_law_form
      refine fn_ok F_law_form sc_law_form rfl rfl (by decide) fun cdv A outer s H E hr => ?_
      have hu := hr.units
      exact (sb_cons (ss_set (i := 6) nd rfl (Or.inl rfl) (se_call (fs := [true, false]) ok_law_next fnS_len (hr.mono (by omega)) mg_law_next kp_law_next bi_law_next rfl (sa_cons (se_var (pv 0)) (sa_cons se_int sa_nil))))
    (sb_cons (ss_if (st_bool (sw_or (st_c oLt (se_var (pv 2)) se_int (nomark _)) (sw_or (st_c oLt (se_var (pv 3)) se_int (nomark _)) (sw_or1 (st_c oGt (se_var (pv 6)) se_int (nomark _)))))) (sb_one (ss_ret (se_call (fs := [true, false, true]) ok_law_tip_v101 fnS_len (hr.mono (by omega)) mg_law_tip_v101 kp_law_tip_v101 bi_law_tip_v101 rfl (sa_cons (se_var (pv 0)) (sa_cons (se_var (pv 4)) (sa_cons (se_var (pv 5)) sa_nil)))))) sb_nil)
    (sb_cons (ss_if (st_bool (sw_and (st_c oLt (se_var (pv 6)) se_int (nomark _)) (sw_and (st_c oGt (se_var (pv 2)) se_int (nomark _)) (sw_and1 (st_c oGt (se_var (pv 1)) se_int (nomark _)))))) (sb_cons (ss_set (i := 7) nd rfl (Or.inl rfl) (se_min3 b_min rfl rfl (sa_cons (se_b oAdd se_int (se_call (fs := [true, false]) ok_law_next fnS_len (hr.mono (by omega)) mg_law_next kp_law_next bi_law_next rfl (sa_cons (se_var (pv 0)) (sa_cons se_int sa_nil)))) (sa_cons (se_b oSub (se_var (pv 2)) se_int) (sa_cons (se_var (pv 1)) sa_nil)))))
    (sb_cons (ss_set (i := 8) nd rfl (Or.inl rfl) (se_call (fs := [true, false]) ok_law_next fnS_len (hr.mono (by omega)) mg_law_next kp_law_next bi_law_next rfl (sa_cons (se_var (pv 0)) (sa_cons (se_b oMul se_int (se_var (pv 7))) sa_nil))))
    (sb_cons (ss_set (i := 9) nd rfl (Or.inl rfl) (se_lst sa_nil))
    (sb_cons (ss_for PassesOwn.never rfl (si_range1 b_range rfl (sa_cons (se_var (pv 7)) sa_nil)) (sg_name (i := 10) nd rfl (Or.inl rfl)) (sb_one (ss_if (st_c (oEq hu) (se_var (pv 8)) (se_var (pv 10)) (nomark _)) (sb_one (ss_app (i := 9) (pv 9) (se_call (fs := [true, false, false, false, false, true]) ih_law_form (fx_law_form_len n) (hr.mono (by omega)) mg_law_form kp_law_form bi_law_form rfl (sa_cons (se_var (pv 0)) (sa_cons (se_b oAdd (se_b oSub (se_var (pv 1)) (se_var (pv 7))) se_int) (sa_cons (se_b oSub (se_var (pv 2)) (se_var (pv 7))) (sa_cons (se_b oSub (se_var (pv 3)) se_int) (sa_cons (se_var (pv 4)) (sa_cons (se_var (pv 5)) sa_nil))))))))) (sb_one (ss_if (st_c oLt (se_var (pv 8)) (se_var (pv 7)) (nomark _)) (sb_one (ss_app (i := 9) (pv 9) (se_call (fs := [true, false, true]) ok_law_tip_v101 fnS_len (hr.mono (by omega)) mg_law_tip_v101 kp_law_tip_v101 bi_law_tip_v101 rfl (sa_cons (se_var (pv 0)) (sa_cons (se_var (pv 4)) (sa_cons (se_var (pv 5)) sa_nil)))))) (sb_one (ss_app (i := 9) (pv 9) (se_call (fs := [true, false, false, false, false, true]) ih_law_form (fx_law_form_len n) (hr.mono (by omega)) mg_law_form kp_law_form bi_law_form rfl (sa_cons (se_var (pv 0)) (sa_cons (se_b oDiv (se_var (pv 1)) (se_var (pv 7))) (sa_cons (se_b oDiv (se_b oSub (se_var (pv 2)) se_int) (se_var (pv 7))) (sa_cons (se_b oSub (se_var (pv 3)) se_int) (sa_cons (se_var (pv 4)) (sa_cons (se_var (pv 5)) sa_nil))))))))))))))
    (sb_one (ss_ret (se_tup (sa_cons (se_ix (se_lst (sa_cons (se_str (cs := [115, 101, 113]) (by decide +kernel)) (sa_cons (se_str (cs := [97, 108, 116]) (by decide +kernel)) sa_nil))) (se_b oDiv (se_var (pv 6)) se_int) (fun _ _ => rfl)) (sa_cons (se_totup b_tuple rfl (sa_cons (se_var (pv 9)) sa_nil)) sa_nil))))))))) sb_nil)
    (sb_cons (ss_if (st_c oLt (se_var (pv 6)) se_int (nomark _)) (sb_cons (ss_set (i := 11) nd rfl (Or.inl rfl) (se_call (fs := [true, false]) ok_law_numbers fnS_len (hr.mono (by omega)) mg_law_numbers kp_law_numbers bi_law_numbers rfl (sa_cons (se_var (pv 0)) (sa_cons (se_var (pv 1)) sa_nil))))
    (sb_cons (ss_set (i := 12) nd rfl (Or.inl rfl) (se_c (oEq hu) (se_call (fs := [true, false]) ok_law_next fnS_len (hr.mono (by omega)) mg_law_next kp_law_next bi_law_next rfl (sa_cons (se_var (pv 0)) (sa_cons se_int sa_nil))) se_int (nomark _)))
    (sb_cons (ss_set (i := 13) nd rfl (Or.inl rfl) (se_call (fs := [true, false, false, false, false, true]) ih_law_form (fx_law_form_len n) (hr.mono (by omega)) mg_law_form kp_law_form bi_law_form rfl (sa_cons (se_var (pv 0)) (sa_cons (se_b oDiv (se_var (pv 1)) (se_max2 b_max rfl rfl (sa_cons se_int (sa_cons (se_call (fs := []) ok_law_times fnS_len (hr.mono (by omega)) mg_law_times kp_law_times bi_law_times rfl (sa_cons (se_var (pv 11)) sa_nil)) sa_nil)))) (sa_cons (se_b oSub (se_var (pv 2)) se_int) (sa_cons (se_b oSub (se_var (pv 3)) se_int) (sa_cons (se_var (pv 4)) (sa_cons (se_var (pv 5)) sa_nil))))))))
    (sb_one (ss_ret (se_tup (sa_cons (se_str (cs := tx_repeat) (by decide +kernel)) (sa_cons (se_var (pv 13)) (sa_cons (se_ix (se_var (pv 11)) se_int (fun _ _ => rfl)) (sa_cons (se_ix (se_var (pv 11)) se_int (fun _ _ => rfl)) (sa_cons (se_var (pv 12)) sa_nil))))))))))) sb_nil)
    (sb_cons (ss_if (st_bool (sw_and (st_val (se_var (pv 4)) (by intro _; rfl)) (sw_and1 (st_c oLt (se_var (pv 6)) se_int (nomark _))))) (sb_cons (ss_set (i := 14) nd rfl (Or.inl rfl) (se_call (fs := [true, true]) ok_law_group_name_v11 fnS_len (hr.mono (by omega)) mg_law_group_name_v11 kp_law_group_name_v11 bi_law_group_name_v11 rfl (sa_cons (se_var (pv 0)) (sa_cons (se_var (pv 5)) sa_nil))))
    (sb_cons (ss_app (i := 5) (pv 5) (se_var (pv 14)))
    (sb_one (ss_ret (se_tup (sa_cons (se_str (cs := tx_group) (by decide +kernel)) (sa_cons (se_var (pv 14)) (sa_cons (se_call (fs := [true, false, false, false, false, true]) ih_law_form (fx_law_form_len n) (hr.mono (by omega)) mg_law_form kp_law_form bi_law_form rfl (sa_cons (se_var (pv 0)) (sa_cons (se_var (pv 1)) (sa_cons (se_b oSub (se_var (pv 2)) se_int) (sa_cons (se_b oSub (se_var (pv 3)) se_int) (sa_cons se_bl (sa_cons (se_var (pv 5)) sa_nil))))))) sa_nil)))))))) sb_nil)
    (sb_cons (ss_if (st_bool (sw_and (st_val (se_var (pv 4)) (by intro _; rfl)) (sw_and1 (st_c oGt (se_ix (se_var (pv 0)) se_int (fun _ _ => rfl)) se_int (nomark _))))) (sb_cons (ss_seti (i := 0) (pv 0) se_int (se_b oSub (se_ix (se_var (pv 0)) se_int (fun _ _ => rfl)) se_int))
    (sb_cons (ss_set (i := 15) nd rfl (Or.inl rfl) (se_ix (se_lst (sa_cons (se_str (cs := tx_ahead) (by decide +kernel)) (sa_cons (se_str (cs := tx_behind) (by decide +kernel)) sa_nil))) (se_call (fs := [true, false]) ok_law_next fnS_len (hr.mono (by omega)) mg_law_next kp_law_next bi_law_next rfl (sa_cons (se_var (pv 0)) (sa_cons se_int sa_nil))) (fun _ _ => rfl)))
    (sb_cons (ss_set (i := 16) nd rfl (Or.inl rfl) (se_c (oEq hu) (se_call (fs := [true, false]) ok_law_next fnS_len (hr.mono (by omega)) mg_law_next kp_law_next bi_law_next rfl (sa_cons (se_var (pv 0)) (sa_cons se_int sa_nil))) se_int (nomark _)))
    (sb_one (ss_ret (se_tup (sa_cons (se_str (cs := tx_look) (by decide +kernel)) (sa_cons (se_var (pv 15)) (sa_cons (se_var (pv 16)) (sa_cons (se_call (fs := [true, false, false, false, false, true]) ih_law_form (fx_law_form_len n) (hr.mono (by omega)) mg_law_form kp_law_form bi_law_form rfl (sa_cons (se_var (pv 0)) (sa_cons (se_var (pv 1)) (sa_cons (se_b oSub (se_var (pv 2)) se_int) (sa_cons (se_b oSub (se_var (pv 3)) se_int) (sa_cons se_bl (sa_cons (se_var (pv 5)) sa_nil))))))) sa_nil)))))))))) sb_nil)
    (sb_one (ss_ret (se_call (fs := [true, false, true]) ok_law_tip_v101 fnS_len (hr.mono (by omega)) mg_law_tip_v101 kp_law_tip_v101 bi_law_tip_v101 rfl (sa_cons (se_var (pv 0)) (sa_cons (se_var (pv 4)) (sa_cons (se_var (pv 5)) sa_nil))))))))))))
theorem ok_law_drawn_tree {f : Addr} {fd : FuncData} (F : Fun K "_law_drawn_tree" "_law_drawn_tree" st_law_drawn_tree f fd) (b_range : mg "range" = none) (b_tuple : mg "tuple" = none) {a_law_chain : Addr} {d_law_chain : FuncData} (ok_law_chain : FnOk P w K mg base CX0 64 a_law_chain d_law_chain P_law_chain (spF K 4 f_law_chain)) (mg_law_chain : mg "_law_chain" = some (.ref a_law_chain)) (kp_law_chain : PySem.W.keepIn K (.ref a_law_chain) = true) (bi_law_chain : Binds K d_law_chain P_law_chain []) {a_law_form : Addr} {d_law_form : FuncData} (ok_law_form : FnOk P w K mg base CX0 64 a_law_form d_law_form P_law_form (spF K 6 f_law_form)) (mg_law_form : mg "_law_form" = some (.ref a_law_form)) (kp_law_form : PySem.W.keepIn K (.ref a_law_form) = true) (bi_law_form : Binds K d_law_form P_law_form []) {a_law_next : Addr} {d_law_next : FuncData} (ok_law_next : FnOk P w K mg base CX0 1 a_law_next d_law_next P_law_next (spF K 2 f_law_next)) (mg_law_next : mg "_law_next" = some (.ref a_law_next)) (kp_law_next : PySem.W.keepIn K (.ref a_law_next) = true) (bi_law_next : Binds K d_law_next P_law_next []) {a_law_signs : Addr} {d_law_signs : FuncData} (ok_law_signs : FnOk P w K mg base CX0 1 a_law_signs d_law_signs P_law_signs (spF K 0 f_law_signs)) (mg_law_signs : mg "_law_signs" = some (.ref a_law_signs)) (kp_law_signs : PySem.W.keepIn K (.ref a_law_signs) = true) (bi_law_signs : Binds K d_law_signs P_law_signs []) :
    FnOk P w K mg base CX0 65 f fd P_law_drawn_tree (spF K 3 f_law_drawn_tree) := by
  have nd := sc_law_drawn_tree.nd
  refine fn_ok F sc_law_drawn_tree rfl rfl (by decide) fun cdv A outer s H E hr => ?_
  have hu := hr.units
  exact (sb_cons (ss_seti (i := 0) (pv 0) se_int se_int)
    (sb_cons (ss_set (i := 3) nd rfl (Or.inl rfl) (se_lst sa_nil))
    (sb_cons (ss_set (i := 4) nd rfl (Or.inl rfl) (se_call (fs := [true, false]) ok_law_next fnS_len (hr.mono (by decide)) mg_law_next kp_law_next bi_law_next rfl (sa_cons (se_var (pv 0)) (sa_cons se_int sa_nil))))
    (sb_cons (ss_if (st_c (oEq hu) (se_var (pv 4)) se_int (nomark _)) (sb_one (ss_ret (se_call (fs := [true, false, false, false, false, true]) ok_law_form (fx_law_form_len _) (hr.mono (by decide)) mg_law_form kp_law_form bi_law_form rfl (sa_cons (se_var (pv 0)) (sa_cons (se_var (pv 1)) (sa_cons (se_var (pv 2)) (sa_cons se_int (sa_cons se_bl (sa_cons (se_var (pv 3)) sa_nil))))))))) sb_nil)
    (sb_cons (ss_if (st_c (oEq hu) (se_var (pv 4)) se_int (nomark _)) (sb_one (ss_ret (se_call (fs := [true, false, false, true]) ok_law_chain (fx_law_chain_len _) (hr.mono (by decide)) mg_law_chain kp_law_chain bi_law_chain rfl (sa_cons (se_var (pv 0)) (sa_cons se_int (sa_cons se_bl (sa_cons (se_var (pv 3)) sa_nil))))))) sb_nil)
    (sb_cons (ss_if (st_c (oEq hu) (se_var (pv 4)) se_int (nomark _)) (sb_cons (ss_set (i := 7) nd rfl (Or.inl rfl) (se_lst sa_nil))
    (sb_cons (ss_for PassesOwn.never rfl (si_range1 b_range rfl (sa_cons (se_b oAdd se_int (se_call (fs := [true, false]) ok_law_next fnS_len (hr.mono (by decide)) mg_law_next kp_law_next bi_law_next rfl (sa_cons (se_var (pv 0)) (sa_cons se_int sa_nil)))) sa_nil)) (sg_name (i := 8) nd rfl (Or.inl rfl)) (sb_cons (ss_set (i := 9) nd rfl (Or.inl rfl) (se_ix (se_call0 (fs := []) ok_law_signs fnS_len (hr.mono (by decide)) mg_law_signs kp_law_signs bi_law_signs rfl) (se_call (fs := [true, false]) ok_law_next fnS_len (hr.mono (by decide)) mg_law_next kp_law_next bi_law_next rfl (sa_cons (se_var (pv 0)) (sa_cons se_int sa_nil))) (fun _ _ => rfl)))
    (sb_one (ss_app (i := 7) (pv 7) (se_ix (se_lst (sa_cons (se_tup (sa_cons (se_str (cs := [115, 101, 116]) (by decide +kernel)) (sa_cons (se_var (pv 9)) sa_nil))) (sa_cons (se_tup (sa_cons (se_str (cs := [115, 101, 116]) (by decide +kernel)) (sa_cons (se_var (pv 9)) sa_nil))) (sa_cons (se_tup (sa_cons (se_str (cs := [115, 101, 116]) (by decide +kernel)) (sa_cons (se_var (pv 9)) sa_nil))) (sa_cons (se_tup (sa_cons (se_str (cs := tx_empty) (by decide +kernel)) sa_nil)) sa_nil))))) (se_call (fs := [true, false]) ok_law_next fnS_len (hr.mono (by decide)) mg_law_next kp_law_next bi_law_next rfl (sa_cons (se_var (pv 0)) (sa_cons se_int sa_nil))) (fun _ _ => rfl))))))
    (sb_one (ss_ret (se_tup (sa_cons (se_ix (se_lst (sa_cons (se_str (cs := [115, 101, 113]) (by decide +kernel)) (sa_cons (se_str (cs := [97, 108, 116]) (by decide +kernel)) sa_nil))) (se_call (fs := [true, false]) ok_law_next fnS_len (hr.mono (by decide)) mg_law_next kp_law_next bi_law_next rfl (sa_cons (se_var (pv 0)) (sa_cons se_int sa_nil))) (fun _ _ => rfl)) (sa_cons (se_totup b_tuple rfl (sa_cons (se_var (pv 7)) sa_nil)) sa_nil))))))) sb_nil)
    (sb_cons (ss_set (i := 5) nd rfl (Or.inl rfl) (se_call (fs := [true, false, false, false, false, true]) ok_law_form (fx_law_form_len _) (hr.mono (by decide)) mg_law_form kp_law_form bi_law_form rfl (sa_cons (se_var (pv 0)) (sa_cons (se_b oDiv (se_var (pv 1)) se_int) (sa_cons (se_b oDiv (se_b oSub (se_var (pv 2)) se_int) se_int) (sa_cons se_int (sa_cons se_bl (sa_cons (se_var (pv 3)) sa_nil))))))))
    (sb_cons (ss_set (i := 6) nd rfl (Or.inl rfl) (se_call (fs := [true, false, false, false, false, true]) ok_law_form (fx_law_form_len _) (hr.mono (by decide)) mg_law_form kp_law_form bi_law_form rfl (sa_cons (se_var (pv 0)) (sa_cons (se_b oDiv (se_var (pv 1)) se_int) (sa_cons (se_b oDiv (se_b oSub (se_var (pv 2)) se_int) se_int) (sa_cons se_int (sa_cons se_bl (sa_cons (se_var (pv 3)) sa_nil))))))))
    (sb_one (ss_ret (se_tup (sa_cons (se_ix (se_lst (sa_cons (se_str (cs := [115, 101, 113]) (by decide +kernel)) (sa_cons (se_str (cs := [97, 108, 116]) (by decide +kernel)) sa_nil))) (se_b oDiv (se_var (pv 4)) se_int) (fun _ _ => rfl)) (sa_cons (se_tup (sa_cons (se_var (pv 5)) (sa_cons (se_var (pv 6)) sa_nil))) sa_nil)))))))))))))
theorem ok_law_mark {f : Addr} {fd : FuncData} (F : Fun K "_law_mark" "_law_mark" st_law_mark f fd) (b_str : mg "str" = none) :
    FnOk P w K mg base CX0 1 f fd P_law_mark (spF K 3 f_law_mark) := by
  have nd := sc_law_mark.nd
  refine fn_ok F sc_law_mark rfl rfl (by decide) fun cdv A outer s H E hr => ?_
  have hu := hr.units
  exact (sb_cons (ss_set (i := 3) nd rfl (Or.inl rfl) (se_b oAdd (se_b oAdd (se_b oAdd (se_b oAdd (se_str (cs := [60]) (by decide +kernel)) (se_tostrA b_str rfl (sa_cons (se_var (pv 0)) sa_nil))) (se_str (cs := [44]) (by decide +kernel))) (se_tostrA b_str rfl (sa_cons (se_var (pv 1)) sa_nil))) (se_str (cs := [62]) (by decide +kernel))))
    (sb_cons (ss_if (st_c oIs (se_var (pv 1)) se_non (nomark _)) (sb_one (ss_set (i := 3) nd rfl (Or.inl rfl) (se_b oAdd (se_b oAdd (se_str (cs := [60]) (by decide +kernel)) (se_tostrA b_str rfl (sa_cons (se_var (pv 0)) sa_nil))) (se_str (cs := [44, 62]) (by decide +kernel))))) sb_nil)
    (sb_cons (ss_if (st_c (oEq hu) (se_var (pv 0)) (se_var (pv 1)) (nomark _)) (sb_one (ss_set (i := 3) nd rfl (Or.inl rfl) (se_b oAdd (se_b oAdd (se_str (cs := [60]) (by decide +kernel)) (se_tostrA b_str rfl (sa_cons (se_var (pv 0)) sa_nil))) (se_str (cs := [62]) (by decide +kernel))))) sb_nil)
    (sb_cons (ss_if (st_bool (sw_and (st_c (oEq hu) (se_var (pv 0)) se_int (nomark _)) (sw_and1 (st_c oIs (se_var (pv 1)) se_non (nomark _))))) (sb_one (ss_set (i := 3) nd rfl (Or.inl rfl) (se_str (cs := [42]) (by decide +kernel)))) sb_nil)
    (sb_cons (ss_if (st_bool (sw_and (st_c (oEq hu) (se_var (pv 0)) se_int (nomark _)) (sw_and1 (st_c oIs (se_var (pv 1)) se_non (nomark _))))) (sb_one (ss_set (i := 3) nd rfl (Or.inl rfl) (se_str (cs := [43]) (by decide +kernel)))) sb_nil)
    (sb_cons (ss_if (st_bool (sw_and (st_c (oEq hu) (se_var (pv 0)) se_int (nomark _)) (sw_and1 (st_c (oEq hu) (se_var (pv 1)) se_int (nomark _))))) (sb_one (ss_set (i := 3) nd rfl (Or.inl rfl) (se_str (cs := [63]) (by decide +kernel)))) sb_nil)
    (sb_cons (ss_if (st_val (se_var (pv 2)) (by intro _; rfl)) (sb_one (ss_ret (se_b oAdd (se_var (pv 3)) (se_str (cs := [126]) (by decide +kernel))))) sb_nil)
    (sb_one (ss_ret (se_var (pv 3)))))))))))
theorem ok_law_escaped {f : Addr} {fd : FuncData} (F : Fun K "_law_escaped" "_law_escaped" st_law_escaped f fd)  :
    FnOk P w K mg base CX0 1 f fd P_law_escaped (spF K 2 f_law_escaped) := by
  have nd := sc_law_escaped.nd
  refine fn_ok F sc_law_escaped rfl rfl (by decide) fun cdv A outer s H E hr => ?_
  have hu := hr.units
  exact (sb_cons (ss_if (st_c (oEq hu) (se_var (pv 0)) (se_str (cs := [10]) (by decide +kernel)) (nomark _)) (sb_one (ss_ret (se_str (cs := [92, 110]) (by decide +kernel)))) sb_nil)
    (sb_cons (ss_if (st_c (oEq hu) (se_var (pv 0)) (se_str (cs := [9]) (by decide +kernel)) (nomark _)) (sb_one (ss_ret (se_str (cs := [92, 116]) (by decide +kernel)))) sb_nil)
    (sb_cons (ss_if (st_c oIn (se_var (pv 0)) (se_var (pv 1)) rfl) (sb_one (ss_ret (se_b oAdd (se_str (cs := [92]) (by decide +kernel)) (se_var (pv 0))))) sb_nil)
    (sb_one (ss_ret (se_var (pv 0)))))))
theorem ok_law_inside {f : Addr} {fd : FuncData} (F : Fun K "_law_inside" "_law_inside" st_law_inside f fd) (b_len : mg "len" = none) (b_range : mg "range" = none) {a_law_escaped : Addr} {d_law_escaped : FuncData} (ok_law_escaped : FnOk P w K mg base CX0 1 a_law_escaped d_law_escaped P_law_escaped (spF K 2 f_law_escaped)) (mg_law_escaped : mg "_law_escaped" = some (.ref a_law_escaped)) (kp_law_escaped : PySem.W.keepIn K (.ref a_law_escaped) = true) (bi_law_escaped : Binds K d_law_escaped P_law_escaped []) {a_law_signs : Addr} {d_law_signs : FuncData} (ok_law_signs : FnOk P w K mg base CX0 1 a_law_signs d_law_signs P_law_signs (spF K 0 f_law_signs)) (mg_law_signs : mg "_law_signs" = some (.ref a_law_signs)) (kp_law_signs : PySem.W.keepIn K (.ref a_law_signs) = true) (bi_law_signs : Binds K d_law_signs P_law_signs []) :
    FnOk P w K mg base CX0 2 f fd P_law_inside (spF K 1 f_law_inside) := by
  have nd := sc_law_inside.nd
  refine fn_ok F sc_law_inside rfl rfl (by decide) fun cdv A outer s H E hr => ?_
  have hu := hr.units
  exact (sb_cons (ss_set (i := 1) nd rfl (Or.inl rfl) (se_call0 (fs := []) ok_law_signs fnS_len (hr.mono (by decide)) mg_law_signs kp_law_signs bi_law_signs rfl))
    (sb_cons (ss_set (i := 2) nd rfl (Or.inr rfl) (se_str (cs := tx_2) (by decide +kernel)))
    (sb_cons (ss_set (i := 3) nd rfl (Or.inl rfl) (se_str (cs := []) (by decide +kernel)))
    (sb_cons (ss_set (i := 4) nd rfl (Or.inl rfl) (se_str (cs := []) (by decide +kernel)))
    (sb_cons (ss_for PassesOwn.never rfl (si_range1 b_range rfl (sa_cons se_int sa_nil)) (sg_name (i := 5) nd rfl (Or.inl rfl)) (sb_one (ss_if (st_bool (sw_and (st_c oLt (se_var (pv 5)) se_int (nomark _)) (sw_and1 (st_c oIn (se_ix (se_var (pv 1)) (se_var (pv 5)) (fun _ _ => rfl)) (se_var (pv 0)) rfl)))) (sb_one (ss_set (i := 4) nd rfl (Or.inl rfl) (se_b oAdd (se_var (pv 4)) (se_ix (se_var (pv 1)) (se_var (pv 5)) (fun _ _ => rfl))))) (sb_cons (ss_if (st_c oGt (se_len b_len rfl (sa_cons (se_var (pv 4)) sa_nil)) se_int (nomark _)) (sb_one (ss_set (i := 4) nd rfl (Or.inl rfl) (se_b oAdd (se_b oAdd (se_call (fs := []) ok_law_escaped fnS_len (hr.mono (by decide)) mg_law_escaped kp_law_escaped bi_law_escaped rfl (sa_cons (se_ix (se_var (pv 4)) se_int (fun _ _ => rfl)) (sa_cons (se_var (pv 2)) sa_nil))) (se_str (cs := [45]) (by decide +kernel))) (se_call (fs := []) ok_law_escaped fnS_len (hr.mono (by decide)) mg_law_escaped kp_law_escaped bi_law_escaped rfl (sa_cons (se_ix (se_var (pv 4)) (se_neg se_int) (fun _ _ => rfl)) (sa_cons (se_var (pv 2)) sa_nil)))))) (sb_one (ss_set (i := 4) nd rfl (Or.inl rfl) (se_join (se_str (cs := []) (by decide +kernel)) (sa_cons (se_lc (own := [("_law_sign", 6)]) rfl nd (si_seq (se_var (pv 4))) (blkOk_by (own := [("_law_sign", 6)]) (N := N_law_inside) (sc := defScope st_law_inside) (by decide +kernel)) (by decide) (gok_name 6) (fun _ _ _ _ _ => (sg_name (i := 6) nd rfl (Or.inl rfl))) (fun _ _ _ _ _ => sts_nil) (fun _ _ _ _ _ => (se_call (fs := []) ok_law_escaped fnS_len (hr.mono (by decide)) mg_law_escaped kp_law_escaped bi_law_escaped rfl (sa_cons (se_var (pv 6)) (sa_cons (se_var (pv 2)) sa_nil))))) sa_nil)))))
    (sb_cons (ss_set (i := 3) nd rfl (Or.inl rfl) (se_b oAdd (se_var (pv 3)) (se_var (pv 4))))
    (sb_one (ss_set (i := 4) nd rfl (Or.inl rfl) (se_str (cs := []) (by decide +kernel)))))))))
    (sb_one (ss_ret (se_var (pv 3)))))))))
theorem ok_law_written_set {f : Addr} {fd : FuncData} (F : Fun K "_law_written_set" "_law_written_set" st_law_written_set f fd) (b_len : mg "len" = none) {a_law_escaped : Addr} {d_law_escaped : FuncData} (ok_law_escaped : FnOk P w K mg base CX0 1 a_law_escaped d_law_escaped P_law_escaped (spF K 2 f_law_escaped)) (mg_law_escaped : mg "_law_escaped" = some (.ref a_law_escaped)) (kp_law_escaped : PySem.W.keepIn K (.ref a_law_escaped) = true) (bi_law_escaped : Binds K d_law_escaped P_law_escaped []) {a_law_inside : Addr} {d_law_inside : FuncData} (ok_law_inside : FnOk P w K mg base CX0 2 a_law_inside d_law_inside P_law_inside (spF K 1 f_law_inside)) (mg_law_inside : mg "_law_inside" = some (.ref a_law_inside)) (kp_law_inside : PySem.W.keepIn K (.ref a_law_inside) = true) (bi_law_inside : Binds K d_law_inside P_law_inside []) {a_law_signs : Addr} {d_law_signs : FuncData} (ok_law_signs : FnOk P w K mg base CX0 1 a_law_signs d_law_signs P_law_signs (spF K 0 f_law_signs)) (mg_law_signs : mg "_law_signs" = some (.ref a_law_signs)) (kp_law_signs : PySem.W.keepIn K (.ref a_law_signs) = true) (bi_law_signs : Binds K d_law_signs P_law_signs []) :
    FnOk P w K mg base CX0 3 f fd P_law_written_set (spF K 1 f_law_written_set) := by
  have nd := sc_law_written_set.nd
  refine fn_ok F sc_law_written_set rfl rfl (by decide) fun cdv A outer s H E hr => ?_
  have hu := hr.units
  exact (sb_cons (ss_if (st_c (oEq hu) (se_len b_len rfl (sa_cons (se_var (pv 0)) sa_nil)) se_int (nomark _)) (sb_one (ss_ret (se_call (fs := []) ok_law_escaped fnS_len (hr.mono (by decide)) mg_law_escaped kp_law_escaped bi_law_escaped rfl (sa_cons (se_var (pv 0)) (sa_cons (se_str (cs := tx_) (by decide +kernel)) sa_nil))))) sb_nil)
    (sb_cons (ss_set (i := 1) nd rfl (Or.inl rfl) (se_join (se_str (cs := []) (by decide +kernel)) (sa_cons (se_lc (own := [("_law_sign", 4)]) rfl nd (si_seq (se_call0 (fs := []) ok_law_signs fnS_len (hr.mono (by decide)) mg_law_signs kp_law_signs bi_law_signs rfl)) (blkOk_by (own := [("_law_sign", 4)]) (N := N_law_written_set) (sc := defScope st_law_written_set) (by decide +kernel)) (by decide) (gok_name 4) (fun _ _ _ _ _ => (sg_name (i := 4) nd rfl (Or.inl rfl))) (fun _ _ _ _ _ => (sts_one (st_c oNi (se_var (pv 4)) (se_var (pv 0)) rfl))) (fun _ _ _ _ _ => (se_var (pv 4)))) sa_nil)))
    (sb_cons (ss_if (st_c (oEq hu) (se_var (pv 1)) (se_str (cs := [10]) (by decide +kernel)) (nomark _)) (sb_one (ss_ret (se_str (cs := [46]) (by decide +kernel)))) sb_nil)
    (sb_cons (ss_set (i := 2) nd rfl (Or.inl rfl) (se_b oAdd (se_b oAdd (se_str (cs := [91]) (by decide +kernel)) (se_call (fs := []) ok_law_inside fnS_len (hr.mono (by decide)) mg_law_inside kp_law_inside bi_law_inside rfl (sa_cons (se_var (pv 0)) sa_nil))) (se_str (cs := [93]) (by decide +kernel))))
    (sb_cons (ss_set (i := 3) nd rfl (Or.inl rfl) (se_b oAdd (se_b oAdd (se_str (cs := [91, 94]) (by decide +kernel)) (se_call (fs := []) ok_law_inside fnS_len (hr.mono (by decide)) mg_law_inside kp_law_inside bi_law_inside rfl (sa_cons (se_var (pv 1)) sa_nil))) (se_str (cs := [93]) (by decide +kernel))))
    (sb_cons (ss_if (st_c oLt (se_len b_len rfl (sa_cons (se_var (pv 3)) sa_nil)) (se_len b_len rfl (sa_cons (se_var (pv 2)) sa_nil)) (nomark _)) (sb_one (ss_ret (se_var (pv 3)))) sb_nil)
    (sb_one (ss_ret (se_var (pv 2))))))))))
theorem ok_law_written {a_law_written : Addr} {d_law_written : FuncData} (F_law_written : Fun K "_law_written" "_law_written" st_law_written a_law_written d_law_written) {a_law_mark : Addr} {d_law_mark : FuncData} (ok_law_mark : FnOk P w K mg base CX0 1 a_law_mark d_law_mark P_law_mark (spF K 3 f_law_mark)) (mg_law_mark : mg "_law_mark" = some (.ref a_law_mark)) (kp_law_mark : PySem.W.keepIn K (.ref a_law_mark) = true) (bi_law_mark : Binds K d_law_mark P_law_mark []) (mg_law_written : mg "_law_written" = some (.ref a_law_written)) (kp_law_written : PySem.W.keepIn K (.ref a_law_written) = true) (bi_law_written : Binds K d_law_written P_law_written []) {a_law_written_set : Addr} {d_law_written_set : FuncData} (ok_law_written_set : FnOk P w K mg base CX0 3 a_law_written_set d_law_written_set P_law_written_set (spF K 1 f_law_written_set)) (mg_law_written_set : mg "_law_written_set" = some (.ref a_law_written_set)) (kp_law_written_set : PySem.W.keepIn K (.ref a_law_written_set) = true) (bi_law_written_set : Binds K d_law_written_set P_law_written_set []) :
    ∀ n : Nat, FnOk P w K mg base CX0 (3 + n + 1) a_law_written d_law_written P_law_written (spF K 2 (fx_law_written n)) := by
  intro n
  induction n with
  | zero =>
    skip
    · unfold fx_law_written; exact fn_ok0 F_law_written sc_law_written rfl
  | succ n ih =>
    have ih_law_written := ih
    · have nd := sc_law_written.nd
      unfold fx_law_written
      refine fn_ok F_law_written sc_law_written rfl rfl (by decide) fun cdv A outer s H E hr => ?_
      have hu := hr.units
      exact (sb_cons (ss_set (i := 2) nd rfl (Or.inl rfl) (se_ix (se_var (pv 0)) se_int (fun _ _ => rfl)))
    (sb_cons (ss_if (st_c (oEq hu) (se_var (pv 2)) (se_str (cs := [115, 101, 116]) (by decide +kernel)) (nomark _)) (sb_one (ss_ret (se_call (fs := []) ok_law_written_set fnS_len (hr.mono (by omega)) mg_law_written_set kp_law_written_set bi_law_written_set rfl (sa_cons (se_ix (se_var (pv 0)) se_int (fun _ _ => rfl)) sa_nil)))) sb_nil)
    (sb_cons (ss_if (st_c (oEq hu) (se_var (pv 2)) (se_str (cs := tx_edge) (by decide +kernel)) (nomark _)) (sb_one (ss_ret (se_b oAdd (se_b oAdd (se_str (cs := [123]) (by decide +kernel)) (se_ix (se_var (pv 0)) se_int (fun _ _ => rfl))) (se_str (cs := [125]) (by decide +kernel))))) sb_nil)
    (sb_cons (ss_if (st_c (oEq hu) (se_var (pv 2)) (se_str (cs := tx_same) (by decide +kernel)) (nomark _)) (sb_one (ss_ret (se_b oAdd (se_b oAdd (se_str (cs := tx_same2) (by decide +kernel)) (se_ix (se_var (pv 0)) se_int (fun _ _ => rfl))) (se_str (cs := [125]) (by decide +kernel))))) sb_nil)
    (sb_cons (ss_if (st_c (oEq hu) (se_var (pv 2)) (se_str (cs := tx_group) (by decide +kernel)) (nomark _)) (sb_one (ss_ret (se_b oAdd (se_b oAdd (se_b oAdd (se_b oAdd (se_str (cs := tx_as) (by decide +kernel)) (se_ix (se_var (pv 0)) se_int (fun _ _ => rfl))) (se_str (cs := [58]) (by decide +kernel))) (se_call (fs := []) ih_law_written (fx_law_written_len n) (hr.mono (by omega)) mg_law_written kp_law_written bi_law_written rfl (sa_cons (se_ix (se_var (pv 0)) se_int (fun _ _ => rfl)) (sa_cons se_int sa_nil)))) (se_str (cs := [125]) (by decide +kernel))))) sb_nil)
    (sb_cons (ss_if (st_c (oEq hu) (se_var (pv 2)) (se_str (cs := tx_look) (by decide +kernel)) (nomark _)) (sb_cons (ss_set (i := 5) nd rfl (Or.inl rfl) (se_str (cs := tx_not) (by decide +kernel)))
    (sb_cons (ss_if (st_val (se_ix (se_var (pv 0)) se_int (fun _ _ => rfl)) (by intro _; rfl)) (sb_one (ss_set (i := 5) nd rfl (Or.inl rfl) (se_str (cs := [123]) (by decide +kernel)))) sb_nil)
    (sb_one (ss_ret (se_b oAdd (se_b oAdd (se_b oAdd (se_b oAdd (se_var (pv 5)) (se_ix (se_var (pv 0)) se_int (fun _ _ => rfl))) (se_str (cs := [58]) (by decide +kernel))) (se_call (fs := []) ih_law_written (fx_law_written_len n) (hr.mono (by omega)) mg_law_written kp_law_written bi_law_written rfl (sa_cons (se_ix (se_var (pv 0)) se_int (fun _ _ => rfl)) (sa_cons se_int sa_nil)))) (se_str (cs := [125]) (by decide +kernel))))))) sb_nil)
    (sb_cons (ss_set (i := 3) nd rfl (Or.inl rfl) (se_str (cs := []) (by decide +kernel)))
    (sb_cons (ss_set (i := 4) nd rfl (Or.inl rfl) se_int)
    (sb_cons (ss_if (st_c (oEq hu) (se_var (pv 2)) (se_str (cs := [97, 108, 116]) (by decide +kernel)) (nomark _)) (sb_cons (ss_set (i := 3) nd rfl (Or.inl rfl) (se_join (se_str (cs := [124]) (by decide +kernel)) (sa_cons (se_lc (own := [("_law_branch", 6)]) rfl nd (si_seq (se_ix (se_var (pv 0)) se_int (fun _ _ => rfl))) (blkOk_by (own := [("_law_branch", 6)]) (N := N_law_written) (sc := defScope st_law_written) (by decide +kernel)) (by decide) (gok_name 6) (fun _ _ _ _ _ => (sg_name (i := 6) nd rfl (Or.inl rfl))) (fun _ _ _ _ _ => sts_nil) (fun _ _ _ _ _ => (se_call (fs := []) ih_law_written (fx_law_written_len n) (hr.mono (by omega)) mg_law_written kp_law_written bi_law_written rfl (sa_cons (se_var (pv 6)) (sa_cons se_int sa_nil))))) sa_nil)))
    (sb_one (ss_set (i := 4) nd rfl (Or.inl rfl) se_int))) sb_nil)
    (sb_cons (ss_if (st_c (oEq hu) (se_var (pv 2)) (se_str (cs := [115, 101, 113]) (by decide +kernel)) (nomark _)) (sb_one (ss_set (i := 3) nd rfl (Or.inl rfl) (se_join (se_str (cs := []) (by decide +kernel)) (sa_cons (se_lc (own := [("_law_part", 7)]) rfl nd (si_seq (se_ix (se_var (pv 0)) se_int (fun _ _ => rfl))) (blkOk_by (own := [("_law_part", 7)]) (N := N_law_written) (sc := defScope st_law_written) (by decide +kernel)) (by decide) (gok_name 7) (fun _ _ _ _ _ => (sg_name (i := 7) nd rfl (Or.inl rfl))) (fun _ _ _ _ _ => sts_nil) (fun _ _ _ _ _ => (se_call (fs := []) ih_law_written (fx_law_written_len n) (hr.mono (by omega)) mg_law_written kp_law_written bi_law_written rfl (sa_cons (se_var (pv 7)) (sa_cons se_int sa_nil))))) sa_nil)))) sb_nil)
    (sb_cons (ss_if (st_c (oEq hu) (se_var (pv 2)) (se_str (cs := tx_repeat) (by decide +kernel)) (nomark _)) (sb_cons (ss_set (i := 3) nd rfl (Or.inl rfl) (se_b oAdd (se_call (fs := []) ih_law_written (fx_law_written_len n) (hr.mono (by omega)) mg_law_written kp_law_written bi_law_written rfl (sa_cons (se_ix (se_var (pv 0)) se_int (fun _ _ => rfl)) (sa_cons se_int sa_nil))) (se_call (fs := []) ok_law_mark fnS_len (hr.mono (by omega)) mg_law_mark kp_law_mark bi_law_mark rfl (sa_cons (se_ix (se_var (pv 0)) se_int (fun _ _ => rfl)) (sa_cons (se_ix (se_var (pv 0)) se_int (fun _ _ => rfl)) (sa_cons (se_ix (se_var (pv 0)) se_int (fun _ _ => rfl)) sa_nil))))))
    (sb_one (ss_set (i := 4) nd rfl (Or.inl rfl) se_int))) sb_nil)
    (sb_cons (ss_if (st_c oGt (se_var (pv 1)) (se_var (pv 4)) (nomark _)) (sb_one (ss_ret (se_b oAdd (se_b oAdd (se_str (cs := [40]) (by decide +kernel)) (se_var (pv 3))) (se_str (cs := [41]) (by decide +kernel))))) sb_nil)
    (sb_one (ss_ret (se_var (pv 3))))))))))))))))
theorem ok_write_repeat {f : Addr} {fd : FuncData} (F : Fun K "write_repeat" "write_repeat" st_write_repeat f fd) (b_str : mg "str" = none) :
    FnOk P w K mg base CX0 1 f fd P_write_repeat (spF K 3 f_write_repeat) := by
  have nd := sc_write_repeat.nd
  refine fn_ok F sc_write_repeat rfl rfl (by decide) fun cdv A outer s H E hr => ?_
  have hu := hr.units
  exact (sb_cons (ss_if (st_c (oEq hu) (se_var (pv 1)) (se_var (pv 0)) (nomark _)) (sb_one (ss_set (i := 3) nd rfl (Or.inl rfl) (se_b oAdd (se_b oAdd (se_str (cs := [60]) (by decide +kernel)) (se_tostrA b_str rfl (sa_cons (se_var (pv 0)) sa_nil))) (se_str (cs := [62]) (by decide +kernel))))) (sb_one (ss_if (st_bool (sw_and (st_c (oEq hu) (se_var (pv 0)) se_int (nomark _)) (sw_and1 (st_c oIs (se_var (pv 1)) se_non (nomark _))))) (sb_one (ss_set (i := 3) nd rfl (Or.inl rfl) (se_str (cs := [42]) (by decide +kernel)))) (sb_one (ss_if (st_bool (sw_and (st_c (oEq hu) (se_var (pv 0)) se_int (nomark _)) (sw_and1 (st_c oIs (se_var (pv 1)) se_non (nomark _))))) (sb_one (ss_set (i := 3) nd rfl (Or.inl rfl) (se_str (cs := [43]) (by decide +kernel)))) (sb_one (ss_if (st_bool (sw_and (st_c (oEq hu) (se_var (pv 0)) se_int (nomark _)) (sw_and1 (st_c (oEq hu) (se_var (pv 1)) se_int (nomark _))))) (sb_one (ss_set (i := 3) nd rfl (Or.inl rfl) (se_str (cs := [63]) (by decide +kernel)))) (sb_one (ss_if (st_c oIs (se_var (pv 1)) se_non (nomark _)) (sb_one (ss_set (i := 3) nd rfl (Or.inl rfl) (se_b oAdd (se_b oAdd (se_str (cs := [60]) (by decide +kernel)) (se_tostrA b_str rfl (sa_cons (se_var (pv 0)) sa_nil))) (se_str (cs := [44, 62]) (by decide +kernel))))) (sb_one (ss_set (i := 3) nd rfl (Or.inl rfl) (se_b oAdd (se_b oAdd (se_b oAdd (se_b oAdd (se_str (cs := [60]) (by decide +kernel)) (se_tostrA b_str rfl (sa_cons (se_var (pv 0)) sa_nil))) (se_str (cs := [44]) (by decide +kernel))) (se_tostrA b_str rfl (sa_cons (se_var (pv 1)) sa_nil))) (se_str (cs := [62]) (by decide +kernel))))))))))))))
    (sb_cons (ss_if (st_val (se_var (pv 2)) (by intro _; rfl)) (sb_one (ss_ret (se_b oAdd (se_var (pv 3)) (se_str (cs := [126]) (by decide +kernel))))) sb_nil)
    (sb_one (ss_ret (se_var (pv 3))))))
theorem ok_rank {f : Addr} {fd : FuncData} (F : Fun K "rank" "rank" st_rank f fd) {u_SIGNS : Value} (hu_SIGNS : ∃ (x : Str) (t : Tok), u_SIGNS = .str x t ∧ x.cps.toList = c_SIGNS) (c_SIGNS' : mg "SIGNS" = some u_SIGNS) :
    FnOk P w K mg base CX0 1 f fd P_rank (spF K 1 f_rank) := by
  have nd := sc_rank.nd
  refine fn_ok F sc_rank rfl rfl (by decide) fun cdv A outer s H E hr => ?_
  have hu := hr.units
  exact (sb_one (ss_ret (se_find (se_gstr hu_SIGNS c_SIGNS' rfl) (sa_cons (se_var (pv 0)) sa_nil))))
theorem ok_runs_of {f : Addr} {fd : FuncData} (F : Fun K "runs_of" "runs_of" st_runs_of f fd) (b_len : mg "len" = none) {a_rank : Addr} {d_rank : FuncData} (ok_rank : FnOk P w K mg base CX0 1 a_rank d_rank P_rank (spF K 1 f_rank)) (mg_rank : mg "rank" = some (.ref a_rank)) (kp_rank : PySem.W.keepIn K (.ref a_rank) = true) (bi_rank : Binds K d_rank P_rank []) :
    FnOk P w K mg base CX0 2 f fd P_runs_of (spF K 1 f_runs_of) := by
  have nd := sc_runs_of.nd
  refine fn_ok F sc_runs_of rfl rfl (by decide) fun cdv A outer s H E hr => ?_
  have hu := hr.units
  exact (sb_cons (ss_set (i := 1) nd rfl (Or.inl rfl) (se_lst sa_nil))
    (sb_cons (ss_for PassesOwn.never rfl (si_seq (se_var (pv 0))) (sg_name (i := 2) nd rfl (Or.inl rfl)) (sb_one (ss_if (st_bool (sw_and (st_c oGt (se_len b_len rfl (sa_cons (se_var (pv 1)) sa_nil)) se_int (nomark _)) (sw_and1 (st_c (oEq hu) (se_call (fs := []) ok_rank fnS_len (hr.mono (by decide)) mg_rank kp_rank bi_rank rfl (sa_cons (se_var (pv 2)) sa_nil)) (se_b oAdd (se_call (fs := []) ok_rank fnS_len (hr.mono (by decide)) mg_rank kp_rank bi_rank rfl (sa_cons (se_ix (se_ix (se_var (pv 1)) (se_neg se_int) (fun _ _ => rfl)) (se_neg se_int) (fun _ _ => rfl)) sa_nil)) se_int) (nomark _))))) (sb_one (ss_seti (i := 1) (pv 1) (se_neg se_int) (se_b oAdd (se_ix (se_var (pv 1)) (se_neg se_int) (fun _ _ => rfl)) (se_var (pv 2))))) (sb_one (ss_app (i := 1) (pv 1) (se_var (pv 2)))))))
    (sb_one (ss_ret (se_var (pv 1))))))
theorem ok_write_sign {f : Addr} {fd : FuncData} (F : Fun K "write_sign" "write_sign" st_write_sign f fd)  :
    FnOk P w K mg base CX0 1 f fd P_write_sign (spF K 2 f_write_sign) := by
  have nd := sc_write_sign.nd
  refine fn_ok F sc_write_sign rfl rfl (by decide) fun cdv A outer s H E hr => ?_
  have hu := hr.units
  exact (sb_cons (ss_if (st_c (oEq hu) (se_var (pv 0)) (se_str (cs := [10]) (by decide +kernel)) (nomark _)) (sb_one (ss_ret (se_str (cs := [92, 110]) (by decide +kernel)))) sb_nil)
    (sb_cons (ss_if (st_c (oEq hu) (se_var (pv 0)) (se_str (cs := [9]) (by decide +kernel)) (nomark _)) (sb_one (ss_ret (se_str (cs := [92, 116]) (by decide +kernel)))) sb_nil)
    (sb_cons (ss_if (st_c oIn (se_var (pv 0)) (se_var (pv 1)) rfl) (sb_one (ss_ret (se_b oAdd (se_str (cs := [92]) (by decide +kernel)) (se_var (pv 0))))) sb_nil)
    (sb_one (ss_ret (se_var (pv 0)))))))
theorem ok_write_run {f : Addr} {fd : FuncData} (F : Fun K "write_run" "write_run" st_write_run f fd) (b_len : mg "len" = none) {u_BRACKET_SIGNS : Value} (hu_BRACKET_SIGNS : ∃ (x : Str) (t : Tok), u_BRACKET_SIGNS = .str x t ∧ x.cps.toList = c_BRACKET_SIGNS) (c_BRACKET_SIGNS' : mg "BRACKET_SIGNS" = some u_BRACKET_SIGNS) {a_write_sign : Addr} {d_write_sign : FuncData} (ok_write_sign : FnOk P w K mg base CX0 1 a_write_sign d_write_sign P_write_sign (spF K 2 f_write_sign)) (mg_write_sign : mg "write_sign" = some (.ref a_write_sign)) (kp_write_sign : PySem.W.keepIn K (.ref a_write_sign) = true) (bi_write_sign : Binds K d_write_sign P_write_sign []) :
    FnOk P w K mg base CX0 2 f fd P_write_run (spF K 1 f_write_run) := by
  have nd := sc_write_run.nd
  refine fn_ok F sc_write_run rfl rfl (by decide) fun cdv A outer s H E hr => ?_
  have hu := hr.units
  exact (sb_cons (ss_if (st_c oLt (se_len b_len rfl (sa_cons (se_var (pv 0)) sa_nil)) se_int (nomark _)) (sb_one (ss_ret (se_join (se_str (cs := []) (by decide +kernel)) (sa_cons (se_lc (own := [("sign", 1)]) rfl nd (si_seq (se_var (pv 0))) (blkOk_by (own := [("sign", 1)]) (N := N_write_run) (sc := defScope st_write_run) (by decide +kernel)) (by decide) (gok_name 1) (fun _ _ _ _ _ => (sg_name (i := 1) nd rfl (Or.inl rfl))) (fun _ _ _ _ _ => sts_nil) (fun _ _ _ _ _ => (se_call (fs := []) ok_write_sign fnS_len (hr.mono (by decide)) mg_write_sign kp_write_sign bi_write_sign rfl (sa_cons (se_var (pv 1)) (sa_cons (se_gstr hu_BRACKET_SIGNS c_BRACKET_SIGNS' rfl) sa_nil))))) sa_nil)))) sb_nil)
    (sb_one (ss_ret (se_b oAdd (se_b oAdd (se_call (fs := []) ok_write_sign fnS_len (hr.mono (by decide)) mg_write_sign kp_write_sign bi_write_sign rfl (sa_cons (se_ix (se_var (pv 0)) se_int (fun _ _ => rfl)) (sa_cons (se_gstr hu_BRACKET_SIGNS c_BRACKET_SIGNS' rfl) sa_nil))) (se_str (cs := [45]) (by decide +kernel))) (se_call (fs := []) ok_write_sign fnS_len (hr.mono (by decide)) mg_write_sign kp_write_sign bi_write_sign rfl (sa_cons (se_ix (se_var (pv 0)) (se_neg se_int) (fun _ _ => rfl)) (sa_cons (se_gstr hu_BRACKET_SIGNS c_BRACKET_SIGNS' rfl) sa_nil)))))))
theorem ok_write_entries {f : Addr} {fd : FuncData} (F : Fun K "write_entries" "write_entries" st_write_entries f fd) {a_runs_of : Addr} {d_runs_of : FuncData} (ok_runs_of : FnOk P w K mg base CX0 2 a_runs_of d_runs_of P_runs_of (spF K 1 f_runs_of)) (mg_runs_of : mg "runs_of" = some (.ref a_runs_of)) (kp_runs_of : PySem.W.keepIn K (.ref a_runs_of) = true) (bi_runs_of : Binds K d_runs_of P_runs_of []) {a_write_run : Addr} {d_write_run : FuncData} (ok_write_run : FnOk P w K mg base CX0 2 a_write_run d_write_run P_write_run (spF K 1 f_write_run)) (mg_write_run : mg "write_run" = some (.ref a_write_run)) (kp_write_run : PySem.W.keepIn K (.ref a_write_run) = true) (bi_write_run : Binds K d_write_run P_write_run []) :
    FnOk P w K mg base CX0 3 f fd P_write_entries (spF K 1 f_write_entries) := by
  have nd := sc_write_entries.nd
  refine fn_ok F sc_write_entries rfl rfl (by decide) fun cdv A outer s H E hr => ?_
  have hu := hr.units
  exact (sb_one (ss_ret (se_join (se_str (cs := []) (by decide +kernel)) (sa_cons (se_lc (own := [("run", 1)]) rfl nd (si_seq (se_call (fs := []) ok_runs_of fnS_len (hr.mono (by decide)) mg_runs_of kp_runs_of bi_runs_of rfl (sa_cons (se_var (pv 0)) sa_nil))) (blkOk_by (own := [("run", 1)]) (N := N_write_entries) (sc := defScope st_write_entries) (by decide +kernel)) (by decide) (gok_name 1) (fun _ _ _ _ _ => (sg_name (i := 1) nd rfl (Or.inl rfl))) (fun _ _ _ _ _ => sts_nil) (fun _ _ _ _ _ => (se_call (fs := []) ok_write_run fnS_len (hr.mono (by decide)) mg_write_run kp_write_run bi_write_run rfl (sa_cons (se_var (pv 1)) sa_nil)))) sa_nil))))
theorem ok_write_set {f : Addr} {fd : FuncData} (F : Fun K "write_set" "write_set" st_write_set f fd) (b_len : mg "len" = none) {u_SIGNS : Value} (hu_SIGNS : ∃ (x : Str) (t : Tok), u_SIGNS = .str x t ∧ x.cps.toList = c_SIGNS) (c_SIGNS' : mg "SIGNS" = some u_SIGNS) {u_SPECIAL_SIGNS : Value} (hu_SPECIAL_SIGNS : ∃ (x : Str) (t : Tok), u_SPECIAL_SIGNS = .str x t ∧ x.cps.toList = c_SPECIAL_SIGNS) (c_SPECIAL_SIGNS' : mg "SPECIAL_SIGNS" = some u_SPECIAL_SIGNS) {a_write_entries : Addr} {d_write_entries : FuncData} (ok_write_entries : FnOk P w K mg base CX0 3 a_write_entries d_write_entries P_write_entries (spF K 1 f_write_entries)) (mg_write_entries : mg "write_entries" = some (.ref a_write_entries)) (kp_write_entries : PySem.W.keepIn K (.ref a_write_entries) = true) (bi_write_entries : Binds K d_write_entries P_write_entries []) {a_write_sign : Addr} {d_write_sign : FuncData} (ok_write_sign : FnOk P w K mg base CX0 1 a_write_sign d_write_sign P_write_sign (spF K 2 f_write_sign)) (mg_write_sign : mg "write_sign" = some (.ref a_write_sign)) (kp_write_sign : PySem.W.keepIn K (.ref a_write_sign) = true) (bi_write_sign : Binds K d_write_sign P_write_sign []) :
    FnOk P w K mg base CX0 4 f fd P_write_set (spF K 1 f_write_set) := by
  have nd := sc_write_set.nd
  refine fn_ok F sc_write_set rfl rfl (by decide) fun cdv A outer s H E hr => ?_
  have hu := hr.units
  exact (sb_cons (ss_if (st_c (oEq hu) (se_len b_len rfl (sa_cons (se_var (pv 0)) sa_nil)) se_int (nomark _)) (sb_one (ss_ret (se_call (fs := []) ok_write_sign fnS_len (hr.mono (by decide)) mg_write_sign kp_write_sign bi_write_sign rfl (sa_cons (se_var (pv 0)) (sa_cons (se_gstr hu_SPECIAL_SIGNS c_SPECIAL_SIGNS' rfl) sa_nil))))) sb_nil)
    (sb_cons (ss_set (i := 1) nd rfl (Or.inl rfl) (se_join (se_str (cs := []) (by decide +kernel)) (sa_cons (se_lc (own := [("sign", 4)]) rfl nd (si_seq (se_gstr hu_SIGNS c_SIGNS' rfl)) (blkOk_by (own := [("sign", 4)]) (N := N_write_set) (sc := defScope st_write_set) (by decide +kernel)) (by decide) (gok_name 4) (fun _ _ _ _ _ => (sg_name (i := 4) nd rfl (Or.inl rfl))) (fun _ _ _ _ _ => (sts_one (st_c oNi (se_var (pv 4)) (se_var (pv 0)) rfl))) (fun _ _ _ _ _ => (se_var (pv 4)))) sa_nil)))
    (sb_cons (ss_if (st_c (oEq hu) (se_var (pv 1)) (se_str (cs := [10]) (by decide +kernel)) (nomark _)) (sb_one (ss_ret (se_str (cs := [46]) (by decide +kernel)))) sb_nil)
    (sb_cons (ss_set (i := 2) nd rfl (Or.inl rfl) (se_b oAdd (se_b oAdd (se_str (cs := [91]) (by decide +kernel)) (se_call (fs := []) ok_write_entries fnS_len (hr.mono (by decide)) mg_write_entries kp_write_entries bi_write_entries rfl (sa_cons (se_var (pv 0)) sa_nil))) (se_str (cs := [93]) (by decide +kernel))))
    (sb_cons (ss_set (i := 3) nd rfl (Or.inl rfl) (se_b oAdd (se_b oAdd (se_str (cs := [91, 94]) (by decide +kernel)) (se_call (fs := []) ok_write_entries fnS_len (hr.mono (by decide)) mg_write_entries kp_write_entries bi_write_entries rfl (sa_cons (se_var (pv 1)) sa_nil))) (se_str (cs := [93]) (by decide +kernel))))
    (sb_cons (ss_if (st_c oLt (se_len b_len rfl (sa_cons (se_var (pv 3)) sa_nil)) (se_len b_len rfl (sa_cons (se_var (pv 2)) sa_nil)) (nomark _)) (sb_one (ss_ret (se_var (pv 3)))) sb_nil)
    (sb_one (ss_ret (se_var (pv 2))))))))))
theorem ok_write_child_write_pattern {a_write_child : Addr} {d_write_child : FuncData} (F_write_child : Fun K "write_child" "write_child" st_write_child a_write_child d_write_child) {a_write_pattern : Addr} {d_write_pattern : FuncData} (F_write_pattern : Fun K "write_pattern" "write_pattern" st_write_pattern a_write_pattern d_write_pattern) (mg_write_pattern : mg "write_pattern" = some (.ref a_write_pattern)) (kp_write_pattern : PySem.W.keepIn K (.ref a_write_pattern) = true) (bi_write_pattern : Binds K d_write_pattern P_write_pattern []) (mg_write_child : mg "write_child" = some (.ref a_write_child)) (kp_write_child : PySem.W.keepIn K (.ref a_write_child) = true) (bi_write_child : Binds K d_write_child P_write_child []) {a_write_repeat : Addr} {d_write_repeat : FuncData} (ok_write_repeat : FnOk P w K mg base CX0 1 a_write_repeat d_write_repeat P_write_repeat (spF K 3 f_write_repeat)) (mg_write_repeat : mg "write_repeat" = some (.ref a_write_repeat)) (kp_write_repeat : PySem.W.keepIn K (.ref a_write_repeat) = true) (bi_write_repeat : Binds K d_write_repeat P_write_repeat []) {a_write_set : Addr} {d_write_set : FuncData} (ok_write_set : FnOk P w K mg base CX0 4 a_write_set d_write_set P_write_set (spF K 1 f_write_set)) (mg_write_set : mg "write_set" = some (.ref a_write_set)) (kp_write_set : PySem.W.keepIn K (.ref a_write_set) = true) (bi_write_set : Binds K d_write_set P_write_set []) :
    ∀ n : Nat, FnOk P w K mg base CX0 (4 + n + 1) a_write_child d_write_child P_write_child (spF K 2 (fx_write_child n)) ∧ FnOk P w K mg base CX0 (4 + n + 1) a_write_pattern d_write_pattern P_write_pattern (spF K 1 (fx_write_pattern n)) := by
  intro n
  induction n with
  | zero =>
    refine ⟨?_, ?_⟩
    · unfold fx_write_child; exact fn_ok0 F_write_child sc_write_child rfl
    · unfold fx_write_pattern; exact fn_ok0 F_write_pattern sc_write_pattern rfl
  | succ n ih =>
    obtain ⟨ih_write_child, ih_write_pattern⟩ := ih
    refine ⟨?_, ?_⟩
    · have nd := sc_write_child.nd
      unfold fx_write_child
      refine fn_ok F_write_child sc_write_child rfl rfl (by decide) fun cdv A outer s H E hr => ?_
      have hu := hr.units
      exact (sb_cons (ss_if (st_c oIn (se_ix (se_var (pv 0)) se_int (fun _ _ => rfl)) (se_var (pv 1)) rfl) (sb_one (ss_ret (se_b oAdd (se_b oAdd (se_str (cs := [40]) (by decide +kernel)) (se_call (fs := []) ih_write_pattern (fx_write_pattern_len n) (hr.mono (by omega)) mg_write_pattern kp_write_pattern bi_write_pattern rfl (sa_cons (se_var (pv 0)) sa_nil))) (se_str (cs := [41]) (by decide +kernel))))) sb_nil)
    (sb_one (ss_ret (se_call (fs := []) ih_write_pattern (fx_write_pattern_len n) (hr.mono (by omega)) mg_write_pattern kp_write_pattern bi_write_pattern rfl (sa_cons (se_var (pv 0)) sa_nil)))))
    · have nd := sc_write_pattern.nd
      unfold fx_write_pattern
      refine fn_ok F_write_pattern sc_write_pattern rfl rfl (by decide) fun cdv A outer s H E hr => ?_
      have hu := hr.units
      exact (sb_cons (ss_set (i := 1) nd rfl (Or.inl rfl) (se_ix (se_var (pv 0)) se_int (fun _ _ => rfl)))
    (sb_cons (ss_if (st_c (oEq hu) (se_var (pv 1)) (se_str (cs := [115, 101, 116]) (by decide +kernel)) (nomark _)) (sb_one (ss_ret (se_call (fs := []) ok_write_set fnS_len (hr.mono (by omega)) mg_write_set kp_write_set bi_write_set rfl (sa_cons (se_ix (se_var (pv 0)) se_int (fun _ _ => rfl)) sa_nil)))) sb_nil)
    (sb_cons (ss_if (st_c (oEq hu) (se_var (pv 1)) (se_str (cs := [115, 101, 113]) (by decide +kernel)) (nomark _)) (sb_one (ss_ret (se_join (se_str (cs := []) (by decide +kernel)) (sa_cons (se_lc (own := [("part", 4)]) rfl nd (si_seq (se_ix (se_var (pv 0)) se_int (fun _ _ => rfl))) (blkOk_by (own := [("part", 4)]) (N := N_write_pattern) (sc := defScope st_write_pattern) (by decide +kernel)) (by decide) (gok_name 4) (fun _ _ _ _ _ => (sg_name (i := 4) nd rfl (Or.inl rfl))) (fun _ _ _ _ _ => sts_nil) (fun _ _ _ _ _ => (se_call (fs := []) ih_write_child (fx_write_child_len n) (hr.mono (by omega)) mg_write_child kp_write_child bi_write_child rfl (sa_cons (se_var (pv 4)) (sa_cons (se_tup (sa_cons (se_str (cs := [97, 108, 116]) (by decide +kernel)) (sa_cons (se_str (cs := tx_empty) (by decide +kernel)) (sa_cons (se_str (cs := [115, 101, 113]) (by decide +kernel)) sa_nil)))) sa_nil))))) sa_nil)))) sb_nil)
    (sb_cons (ss_if (st_c (oEq hu) (se_var (pv 1)) (se_str (cs := [97, 108, 116]) (by decide +kernel)) (nomark _)) (sb_one (ss_ret (se_join (se_str (cs := [124]) (by decide +kernel)) (sa_cons (se_lc (own := [("branch", 5)]) rfl nd (si_seq (se_ix (se_var (pv 0)) se_int (fun _ _ => rfl))) (blkOk_by (own := [("branch", 5)]) (N := N_write_pattern) (sc := defScope st_write_pattern) (by decide +kernel)) (by decide) (gok_name 5) (fun _ _ _ _ _ => (sg_name (i := 5) nd rfl (Or.inl rfl))) (fun _ _ _ _ _ => sts_nil) (fun _ _ _ _ _ => (se_call (fs := []) ih_write_child (fx_write_child_len n) (hr.mono (by omega)) mg_write_child kp_write_child bi_write_child rfl (sa_cons (se_var (pv 5)) (sa_cons (se_tup (sa_cons (se_str (cs := [97, 108, 116]) (by decide +kernel)) sa_nil)) sa_nil))))) sa_nil)))) sb_nil)
    (sb_cons (ss_if (st_c (oEq hu) (se_var (pv 1)) (se_str (cs := tx_repeat) (by decide +kernel)) (nomark _)) (sb_cons (ss_set (i := 2) nd rfl (Or.inl rfl) (se_call (fs := []) ih_write_child (fx_write_child_len n) (hr.mono (by omega)) mg_write_child kp_write_child bi_write_child rfl (sa_cons (se_ix (se_var (pv 0)) se_int (fun _ _ => rfl)) (sa_cons (se_tup (sa_cons (se_str (cs := [97, 108, 116]) (by decide +kernel)) (sa_cons (se_str (cs := [115, 101, 113]) (by decide +kernel)) (sa_cons (se_str (cs := tx_empty) (by decide +kernel)) (sa_cons (se_str (cs := tx_repeat) (by decide +kernel)) sa_nil))))) sa_nil))))
    (sb_one (ss_ret (se_b oAdd (se_var (pv 2)) (se_call (fs := []) ok_write_repeat fnS_len (hr.mono (by omega)) mg_write_repeat kp_write_repeat bi_write_repeat rfl (sa_cons (se_ix (se_var (pv 0)) se_int (fun _ _ => rfl)) (sa_cons (se_ix (se_var (pv 0)) se_int (fun _ _ => rfl)) (sa_cons (se_ix (se_var (pv 0)) se_int (fun _ _ => rfl)) sa_nil)))))))) sb_nil)
    (sb_cons (ss_if (st_c (oEq hu) (se_var (pv 1)) (se_str (cs := tx_group) (by decide +kernel)) (nomark _)) (sb_one (ss_ret (se_b oAdd (se_b oAdd (se_b oAdd (se_b oAdd (se_str (cs := tx_as) (by decide +kernel)) (se_ix (se_var (pv 0)) se_int (fun _ _ => rfl))) (se_str (cs := [58]) (by decide +kernel))) (se_call (fs := []) ih_write_pattern (fx_write_pattern_len n) (hr.mono (by omega)) mg_write_pattern kp_write_pattern bi_write_pattern rfl (sa_cons (se_ix (se_var (pv 0)) se_int (fun _ _ => rfl)) sa_nil))) (se_str (cs := [125]) (by decide +kernel))))) sb_nil)
    (sb_cons (ss_if (st_c (oEq hu) (se_var (pv 1)) (se_str (cs := tx_look) (by decide +kernel)) (nomark _)) (sb_cons (ss_set (i := 3) nd rfl (Or.inl rfl) (se_if (st_val (se_ix (se_var (pv 0)) se_int (fun _ _ => rfl)) (by intro _; rfl)) (se_str (cs := [123]) (by decide +kernel)) (se_str (cs := tx_not) (by decide +kernel))))
    (sb_one (ss_ret (se_b oAdd (se_b oAdd (se_b oAdd (se_b oAdd (se_var (pv 3)) (se_ix (se_var (pv 0)) se_int (fun _ _ => rfl))) (se_str (cs := [58]) (by decide +kernel))) (se_call (fs := []) ih_write_pattern (fx_write_pattern_len n) (hr.mono (by omega)) mg_write_pattern kp_write_pattern bi_write_pattern rfl (sa_cons (se_ix (se_var (pv 0)) se_int (fun _ _ => rfl)) sa_nil))) (se_str (cs := [125]) (by decide +kernel)))))) sb_nil)
    (sb_cons (ss_if (st_c (oEq hu) (se_var (pv 1)) (se_str (cs := tx_edge) (by decide +kernel)) (nomark _)) (sb_one (ss_ret (se_b oAdd (se_b oAdd (se_str (cs := [123]) (by decide +kernel)) (se_ix (se_var (pv 0)) se_int (fun _ _ => rfl))) (se_str (cs := [125]) (by decide +kernel))))) sb_nil)
    (sb_cons (ss_if (st_c (oEq hu) (se_var (pv 1)) (se_str (cs := tx_same) (by decide +kernel)) (nomark _)) (sb_one (ss_ret (se_b oAdd (se_b oAdd (se_str (cs := tx_same2) (by decide +kernel)) (se_ix (se_var (pv 0)) se_int (fun _ _ => rfl))) (se_str (cs := [125]) (by decide +kernel))))) sb_nil)
    (sb_one (ss_ret (se_str (cs := []) (by decide +kernel)))))))))))))
theorem ok_law {f : Addr} {fd : FuncData} (F : Fun K "law" "law" st_law f fd) (b_isinstance : mg "isinstance" = none) (b_str : mg "str" = none) {a_law_below : Addr} {d_law_below : FuncData} (ok_law_below : FnOk P w K mg base CX0 1 a_law_below d_law_below P_law_below (spF K 1 f_law_below)) (mg_law_below : mg "_law_below" = some (.ref a_law_below)) (kp_law_below : PySem.W.keepIn K (.ref a_law_below) = true) (bi_law_below : Binds K d_law_below P_law_below []) {a_law_draw : Addr} {d_law_draw : FuncData} (ok_law_draw : FnOk P w K mg base CX0 1 a_law_draw d_law_draw P_law_draw (spF K 1 f_law_draw)) (mg_law_draw : mg "_law_draw" = some (.ref a_law_draw)) (kp_law_draw : PySem.W.keepIn K (.ref a_law_draw) = true) (bi_law_draw : Binds K d_law_draw P_law_draw []) {a_law_drawn_tree : Addr} {d_law_drawn_tree : FuncData} (ok_law_drawn_tree : FnOk P w K mg base CX0 65 a_law_drawn_tree d_law_drawn_tree P_law_drawn_tree (spF K 3 f_law_drawn_tree)) (mg_law_drawn_tree : mg "_law_drawn_tree" = some (.ref a_law_drawn_tree)) (kp_law_drawn_tree : PySem.W.keepIn K (.ref a_law_drawn_tree) = true) (bi_law_drawn_tree : Binds K d_law_drawn_tree P_law_drawn_tree []) {a_law_next : Addr} {d_law_next : FuncData} (ok_law_next : FnOk P w K mg base CX0 1 a_law_next d_law_next P_law_next (spF K 2 f_law_next)) (mg_law_next : mg "_law_next" = some (.ref a_law_next)) (kp_law_next : PySem.W.keepIn K (.ref a_law_next) = true) (bi_law_next : Binds K d_law_next P_law_next []) {a_law_written : Addr} {d_law_written : FuncData} (ok_law_written : FnOk P w K mg base CX0 64 a_law_written d_law_written P_law_written (spF K 2 f_law_written)) (mg_law_written : mg "_law_written" = some (.ref a_law_written)) (kp_law_written : PySem.W.keepIn K (.ref a_law_written) = true) (bi_law_written : Binds K d_law_written P_law_written []) {a_write_pattern : Addr} {d_write_pattern : FuncData} (ok_write_pattern : FnOk P w K mg base CX0 65 a_write_pattern d_write_pattern P_write_pattern (spF K 1 f_write_pattern)) (mg_write_pattern : mg "write_pattern" = some (.ref a_write_pattern)) (kp_write_pattern : PySem.W.keepIn K (.ref a_write_pattern) = true) (bi_write_pattern : Binds K d_write_pattern P_write_pattern []) :
    FnOk P w K mg base CX0 66 f fd P_law (spF K 1 f_law) := by
  have nd := sc_law.nd
  refine fn_ok F sc_law rfl rfl (by decide) fun cdv A outer s H E hr => ?_
  have hu := hr.units
  exact (sb_cons (ss_set (i := 1) nd rfl (Or.inl rfl) (se_call (fs := []) ok_law_draw fnS_len (hr.mono (by decide)) mg_law_draw kp_law_draw bi_law_draw rfl (sa_cons (se_var (pv 0)) sa_nil)))
    (sb_cons (ss_set (i := 2) nd rfl (Or.inl rfl) (se_ix (se_lst (sa_cons se_int (sa_cons se_int (sa_cons se_int (sa_cons se_int sa_nil))))) (se_call (fs := [true, false]) ok_law_next fnS_len (hr.mono (by decide)) mg_law_next kp_law_next bi_law_next rfl (sa_cons (se_var (pv 1)) (sa_cons se_int sa_nil))) (fun _ _ => rfl)))
    (sb_cons (ss_set (i := 3) nd rfl (Or.inl rfl) (se_call (fs := [true, false, false]) ok_law_drawn_tree fnS_len (hr.mono (by decide)) mg_law_drawn_tree kp_law_drawn_tree bi_law_drawn_tree rfl (sa_cons (se_var (pv 1)) (sa_cons se_int (sa_cons (se_var (pv 2)) sa_nil)))))
    (sb_cons (ss_set (i := 4) nd rfl (Or.inl rfl) (se_call (fs := [true, false, false]) ok_law_drawn_tree fnS_len (hr.mono (by decide)) mg_law_drawn_tree kp_law_drawn_tree bi_law_drawn_tree rfl (sa_cons (se_var (pv 1)) (sa_cons se_int (sa_cons se_int sa_nil)))))
    (sb_cons (ss_for PassesOwn.never rfl (si_seq (se_b oAdd (se_lst (sa_cons (se_var (pv 3)) (sa_cons (se_var (pv 4)) (sa_cons (se_var (pv 3)) sa_nil)))) (se_call (fs := []) ok_law_below fnS_len (hr.mono (by decide)) mg_law_below kp_law_below bi_law_below rfl (sa_cons (se_var (pv 3)) sa_nil)))) (sg_name (i := 5) nd rfl (Or.inl rfl)) (sb_cons (ss_set (i := 6) nd rfl (Or.inl rfl) (se_call (fs := []) ok_write_pattern (fx_write_pattern_len _) (hr.mono (by decide)) mg_write_pattern kp_write_pattern bi_write_pattern rfl (sa_cons (se_var (pv 5)) sa_nil)))
    (sb_one (ss_if (st_bool (sw_or (st_not (st_val (se_isi b_isinstance rfl b_str rfl (by decide +kernel) (se_var (pv 6))) (by intro _; rfl))) (sw_or1 (st_c (oNe hu) (se_var (pv 6)) (se_call (fs := []) ok_law_written (fx_law_written_len _) (hr.mono (by decide)) mg_law_written kp_law_written bi_law_written rfl (sa_cons (se_var (pv 5)) (sa_cons se_int sa_nil))) (nomark _))))) (sb_one (ss_ret se_bl)) sb_nil))))
    (sb_one (ss_ret se_bl)))))))
end
end K10
set_option Elab.async false
set_option linter.all false
set_option maxRecDepth 100000
set_option maxHeartbeats 4000000
namespace K10
open PySem PySem.Spec PyProof.Rows L2 Sw
/-! what the top has written -/
theorem all_mk {l : PySem.W.OpenLaw} {w : World} {K : PySem.W.Frag} {h : Heap} {mg : Str → Option Value} {fa : Addr} (X : K.In h) (G : h.Ns mainGlobals mg) (hfa : mg "law" = some (.ref fa))
    {f0 : Addr} {od0 an0 : Option Addr} {sl0 : Array (Option Value)} {oc0 kV0 dc0 pm0 cd0 ct0 : Value}
    (a0 : PySem.W.nsIn K mainGlobals "_law_below" = some (some (.ref f0))) (l0 : K.lookup f0 = some ⟨oc0, od0, .func (PySem.W.fnOf "_law_below" "_law_below" (defArgs st_law_below) (defBody st_law_below) (defScope st_law_below) .none kV0 dc0 pm0 an0 cd0 ct0), sl0⟩) (c0 : PySem.W.codeIn K cd0 "_law_below" = true) (k0 : PySem.W.keepIn K (.ref f0) = true)
    {f1 : Addr} {od1 an1 : Option Addr} {sl1 : Array (Option Value)} {oc1 kV1 dc1 pm1 cd1 ct1 : Value}
    (a1 : PySem.W.nsIn K mainGlobals "_law_draw" = some (some (.ref f1))) (l1 : K.lookup f1 = some ⟨oc1, od1, .func (PySem.W.fnOf "_law_draw" "_law_draw" (defArgs st_law_draw) (defBody st_law_draw) (defScope st_law_draw) .none kV1 dc1 pm1 an1 cd1 ct1), sl1⟩) (c1 : PySem.W.codeIn K cd1 "_law_draw" = true) (k1 : PySem.W.keepIn K (.ref f1) = true)
    {f2 : Addr} {od2 an2 : Option Addr} {sl2 : Array (Option Value)} {oc2 kV2 dc2 pm2 cd2 ct2 : Value}
    (a2 : PySem.W.nsIn K mainGlobals "_law_next" = some (some (.ref f2))) (l2 : K.lookup f2 = some ⟨oc2, od2, .func (PySem.W.fnOf "_law_next" "_law_next" (defArgs st_law_next) (defBody st_law_next) (defScope st_law_next) .none kV2 dc2 pm2 an2 cd2 ct2), sl2⟩) (c2 : PySem.W.codeIn K cd2 "_law_next" = true) (k2 : PySem.W.keepIn K (.ref f2) = true)
    {f3 : Addr} {od3 an3 : Option Addr} {sl3 : Array (Option Value)} {oc3 kV3 dc3 pm3 cd3 ct3 : Value}
    (a3 : PySem.W.nsIn K mainGlobals "_law_any_name" = some (some (.ref f3))) (l3 : K.lookup f3 = some ⟨oc3, od3, .func (PySem.W.fnOf "_law_any_name" "_law_any_name" (defArgs st_law_any_name) (defBody st_law_any_name) (defScope st_law_any_name) .none kV3 dc3 pm3 an3 cd3 ct3), sl3⟩) (c3 : PySem.W.codeIn K cd3 "_law_any_name" = true) (k3 : PySem.W.keepIn K (.ref f3) = true)
    {f4 : Addr} {od4 an4 : Option Addr} {sl4 : Array (Option Value)} {oc4 kV4 dc4 pm4 cd4 ct4 : Value}
    (a4 : PySem.W.nsIn K mainGlobals "_law_near_name" = some (some (.ref f4))) (l4 : K.lookup f4 = some ⟨oc4, od4, .func (PySem.W.fnOf "_law_near_name" "_law_near_name" (defArgs st_law_near_name) (defBody st_law_near_name) (defScope st_law_near_name) .none kV4 dc4 pm4 an4 cd4 ct4), sl4⟩) (c4 : PySem.W.codeIn K cd4 "_law_near_name" = true) (k4 : PySem.W.keepIn K (.ref f4) = true)
    {f5 : Addr} {od5 an5 : Option Addr} {sl5 : Array (Option Value)} {oc5 kV5 dc5 pm5 cd5 ct5 : Value}
    (a5 : PySem.W.nsIn K mainGlobals "_law_group_name" = some (some (.ref f5))) (l5 : K.lookup f5 = some ⟨oc5, od5, .func (PySem.W.fnOf "_law_group_name" "_law_group_name" (defArgs st_law_group_name_v11) (defBody st_law_group_name_v11) (defScope st_law_group_name_v11) .none kV5 dc5 pm5 an5 cd5 ct5), sl5⟩) (c5 : PySem.W.codeIn K cd5 "_law_group_name" = true) (k5 : PySem.W.keepIn K (.ref f5) = true)
    {f6 : Addr} {od6 an6 : Option Addr} {sl6 : Array (Option Value)} {oc6 kV6 dc6 pm6 cd6 ct6 : Value}
    (a6 : PySem.W.nsIn K mainGlobals "_law_signs" = some (some (.ref f6))) (l6 : K.lookup f6 = some ⟨oc6, od6, .func (PySem.W.fnOf "_law_signs" "_law_signs" (defArgs st_law_signs) (defBody st_law_signs) (defScope st_law_signs) .none kV6 dc6 pm6 an6 cd6 ct6), sl6⟩) (c6 : PySem.W.codeIn K cd6 "_law_signs" = true) (k6 : PySem.W.keepIn K (.ref f6) = true)
    {f7 : Addr} {od7 an7 : Option Addr} {sl7 : Array (Option Value)} {oc7 kV7 dc7 pm7 cd7 ct7 : Value}
    (a7 : PySem.W.nsIn K mainGlobals "_law_words" = some (some (.ref f7))) (l7 : K.lookup f7 = some ⟨oc7, od7, .func (PySem.W.fnOf "_law_words" "_law_words" (defArgs st_law_words) (defBody st_law_words) (defScope st_law_words) .none kV7 dc7 pm7 an7 cd7 ct7), sl7⟩) (c7 : PySem.W.codeIn K cd7 "_law_words" = true) (k7 : PySem.W.keepIn K (.ref f7) = true)
    {f8 : Addr} {od8 an8 : Option Addr} {sl8 : Array (Option Value)} {oc8 kV8 dc8 pm8 cd8 ct8 : Value}
    (a8 : PySem.W.nsIn K mainGlobals "_law_some_set" = some (some (.ref f8))) (l8 : K.lookup f8 = some ⟨oc8, od8, .func (PySem.W.fnOf "_law_some_set" "_law_some_set" (defArgs st_law_some_set) (defBody st_law_some_set) (defScope st_law_some_set) .none kV8 dc8 pm8 an8 cd8 ct8), sl8⟩) (c8 : PySem.W.codeIn K cd8 "_law_some_set" = true) (k8 : PySem.W.keepIn K (.ref f8) = true)
    {f9 : Addr} {od9 an9 : Option Addr} {sl9 : Array (Option Value)} {oc9 kV9 dc9 pm9 cd9 ct9 : Value}
    (a9 : PySem.W.nsIn K mainGlobals "_law_tip" = some (some (.ref f9))) (l9 : K.lookup f9 = some ⟨oc9, od9, .func (PySem.W.fnOf "_law_tip" "_law_tip" (defArgs st_law_tip_v101) (defBody st_law_tip_v101) (defScope st_law_tip_v101) .none kV9 dc9 pm9 an9 cd9 ct9), sl9⟩) (c9 : PySem.W.codeIn K cd9 "_law_tip" = true) (k9 : PySem.W.keepIn K (.ref f9) = true)
    {f10 : Addr} {od10 an10 : Option Addr} {sl10 : Array (Option Value)} {oc10 kV10 dc10 pm10 cd10 ct10 : Value}
    (a10 : PySem.W.nsIn K mainGlobals "_law_chain" = some (some (.ref f10))) (l10 : K.lookup f10 = some ⟨oc10, od10, .func (PySem.W.fnOf "_law_chain" "_law_chain" (defArgs st_law_chain) (defBody st_law_chain) (defScope st_law_chain) .none kV10 dc10 pm10 an10 cd10 ct10), sl10⟩) (c10 : PySem.W.codeIn K cd10 "_law_chain" = true) (k10 : PySem.W.keepIn K (.ref f10) = true)
    {f11 : Addr} {od11 an11 : Option Addr} {sl11 : Array (Option Value)} {oc11 kV11 dc11 pm11 cd11 ct11 : Value}
    (a11 : PySem.W.nsIn K mainGlobals "_law_numbers" = some (some (.ref f11))) (l11 : K.lookup f11 = some ⟨oc11, od11, .func (PySem.W.fnOf "_law_numbers" "_law_numbers" (defArgs st_law_numbers) (defBody st_law_numbers) (defScope st_law_numbers) .none kV11 dc11 pm11 an11 cd11 ct11), sl11⟩) (c11 : PySem.W.codeIn K cd11 "_law_numbers" = true) (k11 : PySem.W.keepIn K (.ref f11) = true)
    {f12 : Addr} {od12 an12 : Option Addr} {sl12 : Array (Option Value)} {oc12 kV12 dc12 pm12 cd12 ct12 : Value}
    (a12 : PySem.W.nsIn K mainGlobals "_law_times" = some (some (.ref f12))) (l12 : K.lookup f12 = some ⟨oc12, od12, .func (PySem.W.fnOf "_law_times" "_law_times" (defArgs st_law_times) (defBody st_law_times) (defScope st_law_times) .none kV12 dc12 pm12 an12 cd12 ct12), sl12⟩) (c12 : PySem.W.codeIn K cd12 "_law_times" = true) (k12 : PySem.W.keepIn K (.ref f12) = true)
    {f13 : Addr} {od13 an13 : Option Addr} {sl13 : Array (Option Value)} {oc13 kV13 dc13 pm13 cd13 ct13 : Value}
    (a13 : PySem.W.nsIn K mainGlobals "_law_form" = some (some (.ref f13))) (l13 : K.lookup f13 = some ⟨oc13, od13, .func (PySem.W.fnOf "_law_form" "_law_form" (defArgs st_law_form) (defBody st_law_form) (defScope st_law_form) .none kV13 dc13 pm13 an13 cd13 ct13), sl13⟩) (c13 : PySem.W.codeIn K cd13 "_law_form" = true) (k13 : PySem.W.keepIn K (.ref f13) = true)
    {f14 : Addr} {od14 an14 : Option Addr} {sl14 : Array (Option Value)} {oc14 kV14 dc14 pm14 cd14 ct14 : Value}
    (a14 : PySem.W.nsIn K mainGlobals "_law_drawn_tree" = some (some (.ref f14))) (l14 : K.lookup f14 = some ⟨oc14, od14, .func (PySem.W.fnOf "_law_drawn_tree" "_law_drawn_tree" (defArgs st_law_drawn_tree) (defBody st_law_drawn_tree) (defScope st_law_drawn_tree) .none kV14 dc14 pm14 an14 cd14 ct14), sl14⟩) (c14 : PySem.W.codeIn K cd14 "_law_drawn_tree" = true) (k14 : PySem.W.keepIn K (.ref f14) = true)
    {f15 : Addr} {od15 an15 : Option Addr} {sl15 : Array (Option Value)} {oc15 kV15 dc15 pm15 cd15 ct15 : Value}
    (a15 : PySem.W.nsIn K mainGlobals "_law_mark" = some (some (.ref f15))) (l15 : K.lookup f15 = some ⟨oc15, od15, .func (PySem.W.fnOf "_law_mark" "_law_mark" (defArgs st_law_mark) (defBody st_law_mark) (defScope st_law_mark) .none kV15 dc15 pm15 an15 cd15 ct15), sl15⟩) (c15 : PySem.W.codeIn K cd15 "_law_mark" = true) (k15 : PySem.W.keepIn K (.ref f15) = true)
    {f16 : Addr} {od16 an16 : Option Addr} {sl16 : Array (Option Value)} {oc16 kV16 dc16 pm16 cd16 ct16 : Value}
    (a16 : PySem.W.nsIn K mainGlobals "_law_escaped" = some (some (.ref f16))) (l16 : K.lookup f16 = some ⟨oc16, od16, .func (PySem.W.fnOf "_law_escaped" "_law_escaped" (defArgs st_law_escaped) (defBody st_law_escaped) (defScope st_law_escaped) .none kV16 dc16 pm16 an16 cd16 ct16), sl16⟩) (c16 : PySem.W.codeIn K cd16 "_law_escaped" = true) (k16 : PySem.W.keepIn K (.ref f16) = true)
    {f17 : Addr} {od17 an17 : Option Addr} {sl17 : Array (Option Value)} {oc17 kV17 dc17 pm17 cd17 ct17 : Value}
    (a17 : PySem.W.nsIn K mainGlobals "_law_inside" = some (some (.ref f17))) (l17 : K.lookup f17 = some ⟨oc17, od17, .func (PySem.W.fnOf "_law_inside" "_law_inside" (defArgs st_law_inside) (defBody st_law_inside) (defScope st_law_inside) .none kV17 dc17 pm17 an17 cd17 ct17), sl17⟩) (c17 : PySem.W.codeIn K cd17 "_law_inside" = true) (k17 : PySem.W.keepIn K (.ref f17) = true)
    {f18 : Addr} {od18 an18 : Option Addr} {sl18 : Array (Option Value)} {oc18 kV18 dc18 pm18 cd18 ct18 : Value}
    (a18 : PySem.W.nsIn K mainGlobals "_law_written_set" = some (some (.ref f18))) (l18 : K.lookup f18 = some ⟨oc18, od18, .func (PySem.W.fnOf "_law_written_set" "_law_written_set" (defArgs st_law_written_set) (defBody st_law_written_set) (defScope st_law_written_set) .none kV18 dc18 pm18 an18 cd18 ct18), sl18⟩) (c18 : PySem.W.codeIn K cd18 "_law_written_set" = true) (k18 : PySem.W.keepIn K (.ref f18) = true)
    {f19 : Addr} {od19 an19 : Option Addr} {sl19 : Array (Option Value)} {oc19 kV19 dc19 pm19 cd19 ct19 : Value}
    (a19 : PySem.W.nsIn K mainGlobals "_law_written" = some (some (.ref f19))) (l19 : K.lookup f19 = some ⟨oc19, od19, .func (PySem.W.fnOf "_law_written" "_law_written" (defArgs st_law_written) (defBody st_law_written) (defScope st_law_written) .none kV19 dc19 pm19 an19 cd19 ct19), sl19⟩) (c19 : PySem.W.codeIn K cd19 "_law_written" = true) (k19 : PySem.W.keepIn K (.ref f19) = true)
    {f20 : Addr} {od20 an20 : Option Addr} {sl20 : Array (Option Value)} {oc20 kV20 dc20 pm20 cd20 ct20 : Value}
    (a20 : PySem.W.nsIn K mainGlobals "write_repeat" = some (some (.ref f20))) (l20 : K.lookup f20 = some ⟨oc20, od20, .func (PySem.W.fnOf "write_repeat" "write_repeat" (defArgs st_write_repeat) (defBody st_write_repeat) (defScope st_write_repeat) .none kV20 dc20 pm20 an20 cd20 ct20), sl20⟩) (c20 : PySem.W.codeIn K cd20 "write_repeat" = true) (k20 : PySem.W.keepIn K (.ref f20) = true)
    {f21 : Addr} {od21 an21 : Option Addr} {sl21 : Array (Option Value)} {oc21 kV21 dc21 pm21 cd21 ct21 : Value}
    (a21 : PySem.W.nsIn K mainGlobals "rank" = some (some (.ref f21))) (l21 : K.lookup f21 = some ⟨oc21, od21, .func (PySem.W.fnOf "rank" "rank" (defArgs st_rank) (defBody st_rank) (defScope st_rank) .none kV21 dc21 pm21 an21 cd21 ct21), sl21⟩) (c21 : PySem.W.codeIn K cd21 "rank" = true) (k21 : PySem.W.keepIn K (.ref f21) = true)
    {f22 : Addr} {od22 an22 : Option Addr} {sl22 : Array (Option Value)} {oc22 kV22 dc22 pm22 cd22 ct22 : Value}
    (a22 : PySem.W.nsIn K mainGlobals "runs_of" = some (some (.ref f22))) (l22 : K.lookup f22 = some ⟨oc22, od22, .func (PySem.W.fnOf "runs_of" "runs_of" (defArgs st_runs_of) (defBody st_runs_of) (defScope st_runs_of) .none kV22 dc22 pm22 an22 cd22 ct22), sl22⟩) (c22 : PySem.W.codeIn K cd22 "runs_of" = true) (k22 : PySem.W.keepIn K (.ref f22) = true)
    {f23 : Addr} {od23 an23 : Option Addr} {sl23 : Array (Option Value)} {oc23 kV23 dc23 pm23 cd23 ct23 : Value}
    (a23 : PySem.W.nsIn K mainGlobals "write_sign" = some (some (.ref f23))) (l23 : K.lookup f23 = some ⟨oc23, od23, .func (PySem.W.fnOf "write_sign" "write_sign" (defArgs st_write_sign) (defBody st_write_sign) (defScope st_write_sign) .none kV23 dc23 pm23 an23 cd23 ct23), sl23⟩) (c23 : PySem.W.codeIn K cd23 "write_sign" = true) (k23 : PySem.W.keepIn K (.ref f23) = true)
    {f24 : Addr} {od24 an24 : Option Addr} {sl24 : Array (Option Value)} {oc24 kV24 dc24 pm24 cd24 ct24 : Value}
    (a24 : PySem.W.nsIn K mainGlobals "write_run" = some (some (.ref f24))) (l24 : K.lookup f24 = some ⟨oc24, od24, .func (PySem.W.fnOf "write_run" "write_run" (defArgs st_write_run) (defBody st_write_run) (defScope st_write_run) .none kV24 dc24 pm24 an24 cd24 ct24), sl24⟩) (c24 : PySem.W.codeIn K cd24 "write_run" = true) (k24 : PySem.W.keepIn K (.ref f24) = true)
    {f25 : Addr} {od25 an25 : Option Addr} {sl25 : Array (Option Value)} {oc25 kV25 dc25 pm25 cd25 ct25 : Value}
    (a25 : PySem.W.nsIn K mainGlobals "write_entries" = some (some (.ref f25))) (l25 : K.lookup f25 = some ⟨oc25, od25, .func (PySem.W.fnOf "write_entries" "write_entries" (defArgs st_write_entries) (defBody st_write_entries) (defScope st_write_entries) .none kV25 dc25 pm25 an25 cd25 ct25), sl25⟩) (c25 : PySem.W.codeIn K cd25 "write_entries" = true) (k25 : PySem.W.keepIn K (.ref f25) = true)
    {f26 : Addr} {od26 an26 : Option Addr} {sl26 : Array (Option Value)} {oc26 kV26 dc26 pm26 cd26 ct26 : Value}
    (a26 : PySem.W.nsIn K mainGlobals "write_set" = some (some (.ref f26))) (l26 : K.lookup f26 = some ⟨oc26, od26, .func (PySem.W.fnOf "write_set" "write_set" (defArgs st_write_set) (defBody st_write_set) (defScope st_write_set) .none kV26 dc26 pm26 an26 cd26 ct26), sl26⟩) (c26 : PySem.W.codeIn K cd26 "write_set" = true) (k26 : PySem.W.keepIn K (.ref f26) = true)
    {f27 : Addr} {od27 an27 : Option Addr} {sl27 : Array (Option Value)} {oc27 kV27 dc27 pm27 cd27 ct27 : Value}
    (a27 : PySem.W.nsIn K mainGlobals "write_child" = some (some (.ref f27))) (l27 : K.lookup f27 = some ⟨oc27, od27, .func (PySem.W.fnOf "write_child" "write_child" (defArgs st_write_child) (defBody st_write_child) (defScope st_write_child) .none kV27 dc27 pm27 an27 cd27 ct27), sl27⟩) (c27 : PySem.W.codeIn K cd27 "write_child" = true) (k27 : PySem.W.keepIn K (.ref f27) = true)
    {f28 : Addr} {od28 an28 : Option Addr} {sl28 : Array (Option Value)} {oc28 kV28 dc28 pm28 cd28 ct28 : Value}
    (a28 : PySem.W.nsIn K mainGlobals "write_pattern" = some (some (.ref f28))) (l28 : K.lookup f28 = some ⟨oc28, od28, .func (PySem.W.fnOf "write_pattern" "write_pattern" (defArgs st_write_pattern) (defBody st_write_pattern) (defScope st_write_pattern) .none kV28 dc28 pm28 an28 cd28 ct28), sl28⟩) (c28 : PySem.W.codeIn K cd28 "write_pattern" = true) (k28 : PySem.W.keepIn K (.ref f28) = true)
    {f29 : Addr} {od29 an29 : Option Addr} {sl29 : Array (Option Value)} {oc29 kV29 dc29 pm29 cd29 ct29 : Value}
    (a29 : PySem.W.nsIn K mainGlobals "law" = some (some (.ref f29))) (l29 : K.lookup f29 = some ⟨oc29, od29, .func (PySem.W.fnOf "law" "law" (defArgs st_law) (defBody st_law) (defScope st_law) .none kV29 dc29 pm29 an29 cd29 ct29), sl29⟩) (c29 : PySem.W.codeIn K cd29 "law" = true) (k29 : PySem.W.keepIn K (.ref f29) = true)
    (z_int : PySem.W.nsIn K mainGlobals "int" = some none)
    (z_isinstance : PySem.W.nsIn K mainGlobals "isinstance" = some none)
    (z_len : PySem.W.nsIn K mainGlobals "len" = some none)
    (z_list : PySem.W.nsIn K mainGlobals "list" = some none)
    (z_max : PySem.W.nsIn K mainGlobals "max" = some none)
    (z_min : PySem.W.nsIn K mainGlobals "min" = some none)
    (z_range : PySem.W.nsIn K mainGlobals "range" = some none)
    (z_str : PySem.W.nsIn K mainGlobals "str" = some none)
    (z_tuple : PySem.W.nsIn K mainGlobals "tuple" = some none)
    {u_BRACKET_SIGNS : Value} (y_BRACKET_SIGNS : PySem.W.nsIn K mainGlobals "BRACKET_SIGNS" = some (some u_BRACKET_SIGNS)) (hu_BRACKET_SIGNS : ∃ (x : Str) (t : Tok), u_BRACKET_SIGNS = .str x t ∧ x.cps.toList = c_BRACKET_SIGNS)
    {u_SIGNS : Value} (y_SIGNS : PySem.W.nsIn K mainGlobals "SIGNS" = some (some u_SIGNS)) (hu_SIGNS : ∃ (x : Str) (t : Tok), u_SIGNS = .str x t ∧ x.cps.toList = c_SIGNS)
    {u_SPECIAL_SIGNS : Value} (y_SPECIAL_SIGNS : PySem.W.nsIn K mainGlobals "SPECIAL_SIGNS" = some (some u_SPECIAL_SIGNS)) (hu_SPECIAL_SIGNS : ∃ (x : Str) (t : Tok), u_SPECIAL_SIGNS = .str x t ∧ x.cps.toList = c_SPECIAL_SIGNS)
    : ∃ fd : FuncData, (∀ (s : Shared) (v : Value), BindsTo s fd ⟨[v], []⟩ [("_law_script", v)]) ∧ ∀ base : Heap, K.In base → base.Ns mainGlobals mg → FnOk l.prog w K mg base CX0 66 fa fd ["_law_script"] (spF K 1 f_law) := by
  have e := hfa.symm.trans (PySem.W.mg_of X G a29)
  cases e
  have F0 := fun_mk (st := st_law_below) l0 c0 k0
  have b0 := F0.binds (ps := P_law_below) fun _ _ _ _ _ _ us hl => match us, hl with | [_], _ => rfl
  have F1 := fun_mk (st := st_law_draw) l1 c1 k1
  have b1 := F1.binds (ps := P_law_draw) fun _ _ _ _ _ _ us hl => match us, hl with | [_], _ => rfl
  have F2 := fun_mk (st := st_law_next) l2 c2 k2
  have b2 := F2.binds (ps := P_law_next) fun _ _ _ _ _ _ us hl => match us, hl with | [_, _], _ => rfl
  have F3 := fun_mk (st := st_law_any_name) l3 c3 k3
  have b3 := F3.binds (ps := P_law_any_name) fun _ _ _ _ _ _ us hl => match us, hl with | [_], _ => rfl
  have F4 := fun_mk (st := st_law_near_name) l4 c4 k4
  have b4 := F4.binds (ps := P_law_near_name) fun _ _ _ _ _ _ us hl => match us, hl with | [_, _], _ => rfl
  have F5 := fun_mk (st := st_law_group_name_v11) l5 c5 k5
  have b5 := F5.binds (ps := P_law_group_name_v11) fun _ _ _ _ _ _ us hl => match us, hl with | [_, _], _ => rfl
  have F6 := fun_mk (st := st_law_signs) l6 c6 k6
  have b6 := F6.binds (ps := P_law_signs) fun _ _ _ _ _ _ us hl => match us, hl with | [], _ => rfl
  have F7 := fun_mk (st := st_law_words) l7 c7 k7
  have b7 := F7.binds (ps := P_law_words) fun _ _ _ _ _ _ us hl => match us, hl with | [], _ => rfl
  have F8 := fun_mk (st := st_law_some_set) l8 c8 k8
  have b8 := F8.binds (ps := P_law_some_set) fun _ _ _ _ _ _ us hl => match us, hl with | [_], _ => rfl
  have F9 := fun_mk (st := st_law_tip_v101) l9 c9 k9
  have b9 := F9.binds (ps := P_law_tip_v101) fun _ _ _ _ _ _ us hl => match us, hl with | [_, _, _], _ => rfl
  have F10 := fun_mk (st := st_law_chain) l10 c10 k10
  have b10 := F10.binds (ps := P_law_chain) fun _ _ _ _ _ _ us hl => match us, hl with | [_, _, _, _], _ => rfl
  have F11 := fun_mk (st := st_law_numbers) l11 c11 k11
  have b11 := F11.binds (ps := P_law_numbers) fun _ _ _ _ _ _ us hl => match us, hl with | [_, _], _ => rfl
  have F12 := fun_mk (st := st_law_times) l12 c12 k12
  have b12 := F12.binds (ps := P_law_times) fun _ _ _ _ _ _ us hl => match us, hl with | [_], _ => rfl
  have F13 := fun_mk (st := st_law_form) l13 c13 k13
  have b13 := F13.binds (ps := P_law_form) fun _ _ _ _ _ _ us hl => match us, hl with | [_, _, _, _, _, _], _ => rfl
  have F14 := fun_mk (st := st_law_drawn_tree) l14 c14 k14
  have b14 := F14.binds (ps := P_law_drawn_tree) fun _ _ _ _ _ _ us hl => match us, hl with | [_, _, _], _ => rfl
  have F15 := fun_mk (st := st_law_mark) l15 c15 k15
  have b15 := F15.binds (ps := P_law_mark) fun _ _ _ _ _ _ us hl => match us, hl with | [_, _, _], _ => rfl
  have F16 := fun_mk (st := st_law_escaped) l16 c16 k16
  have b16 := F16.binds (ps := P_law_escaped) fun _ _ _ _ _ _ us hl => match us, hl with | [_, _], _ => rfl
  have F17 := fun_mk (st := st_law_inside) l17 c17 k17
  have b17 := F17.binds (ps := P_law_inside) fun _ _ _ _ _ _ us hl => match us, hl with | [_], _ => rfl
  have F18 := fun_mk (st := st_law_written_set) l18 c18 k18
  have b18 := F18.binds (ps := P_law_written_set) fun _ _ _ _ _ _ us hl => match us, hl with | [_], _ => rfl
  have F19 := fun_mk (st := st_law_written) l19 c19 k19
  have b19 := F19.binds (ps := P_law_written) fun _ _ _ _ _ _ us hl => match us, hl with | [_, _], _ => rfl
  have F20 := fun_mk (st := st_write_repeat) l20 c20 k20
  have b20 := F20.binds (ps := P_write_repeat) fun _ _ _ _ _ _ us hl => match us, hl with | [_, _, _], _ => rfl
  have F21 := fun_mk (st := st_rank) l21 c21 k21
  have b21 := F21.binds (ps := P_rank) fun _ _ _ _ _ _ us hl => match us, hl with | [_], _ => rfl
  have F22 := fun_mk (st := st_runs_of) l22 c22 k22
  have b22 := F22.binds (ps := P_runs_of) fun _ _ _ _ _ _ us hl => match us, hl with | [_], _ => rfl
  have F23 := fun_mk (st := st_write_sign) l23 c23 k23
  have b23 := F23.binds (ps := P_write_sign) fun _ _ _ _ _ _ us hl => match us, hl with | [_, _], _ => rfl
  have F24 := fun_mk (st := st_write_run) l24 c24 k24
  have b24 := F24.binds (ps := P_write_run) fun _ _ _ _ _ _ us hl => match us, hl with | [_], _ => rfl
  have F25 := fun_mk (st := st_write_entries) l25 c25 k25
  have b25 := F25.binds (ps := P_write_entries) fun _ _ _ _ _ _ us hl => match us, hl with | [_], _ => rfl
  have F26 := fun_mk (st := st_write_set) l26 c26 k26
  have b26 := F26.binds (ps := P_write_set) fun _ _ _ _ _ _ us hl => match us, hl with | [_], _ => rfl
  have F27 := fun_mk (st := st_write_child) l27 c27 k27
  have b27 := F27.binds (ps := P_write_child) fun _ _ _ _ _ _ us hl => match us, hl with | [_, _], _ => rfl
  have F28 := fun_mk (st := st_write_pattern) l28 c28 k28
  have b28 := F28.binds (ps := P_write_pattern) fun _ _ _ _ _ _ us hl => match us, hl with | [_], _ => rfl
  have F29 := fun_mk (st := st_law) l29 c29 k29
  have b29 := F29.binds (ps := P_law) fun _ _ _ _ _ _ us hl => match us, hl with | [_], _ => rfl
  refine ⟨PySem.W.fnOf "law" "law" (defArgs st_law) (defBody st_law) (defScope st_law) .none kV29 dc29 pm29 an29 cd29 ct29, fun s v => .of_eq rfl, fun base _ _ => ?_⟩
  have G0 := ok_law_below (P := l.prog) (w := w) (mg := mg) (base := base) F0 (PySem.W.mg_none_of X G z_list)
  have G1 := ok_law_draw (P := l.prog) (w := w) (mg := mg) (base := base) F1 (PySem.W.mg_none_of X G z_int) (PySem.W.mg_none_of X G z_range)
  have G2 := ok_law_next (P := l.prog) (w := w) (mg := mg) (base := base) F2 (PySem.W.mg_none_of X G z_int) (PySem.W.mg_none_of X G z_len)
  have G3 := ok_law_any_name (P := l.prog) (w := w) (mg := mg) (base := base) F3 (PySem.W.mg_none_of X G z_range) G2 (PySem.W.mg_of X G a2) k2 b2
  have G4 := ok_law_near_name (P := l.prog) (w := w) (mg := mg) (base := base) F4 (PySem.W.mg_none_of X G z_len) G2 (PySem.W.mg_of X G a2) k2 b2
  have G5 := ok_law_group_name_v11 (P := l.prog) (w := w) (mg := mg) (base := base) F5 (PySem.W.mg_none_of X G z_len) G3 (PySem.W.mg_of X G a3) k3 b3 G4 (PySem.W.mg_of X G a4) k4 b4 G2 (PySem.W.mg_of X G a2) k2 b2
  have G6 := ok_law_signs (P := l.prog) (w := w) (mg := mg) (base := base) F6 
  have G7 := ok_law_words (P := l.prog) (w := w) (mg := mg) (base := base) F7 
  have G8 := ok_law_some_set (P := l.prog) (w := w) (mg := mg) (base := base) F8 (PySem.W.mg_none_of X G z_range) G2 (PySem.W.mg_of X G a2) k2 b2 G6 (PySem.W.mg_of X G a6) k6 b6 G7 (PySem.W.mg_of X G a7) k7 b7
  have G9 := ok_law_tip_v101 (P := l.prog) (w := w) (mg := mg) (base := base) F9 (PySem.W.mg_none_of X G z_len) G2 (PySem.W.mg_of X G a2) k2 b2 G8 (PySem.W.mg_of X G a8) k8 b8
  have GG10 := ok_law_chain (P := l.prog) (w := w) (mg := mg) (base := base) F10 (PySem.W.mg_of X G a10) k10 b10 G5 (PySem.W.mg_of X G a5) k5 b5 G2 (PySem.W.mg_of X G a2) k2 b2 G9 (PySem.W.mg_of X G a9) k9 b9 60
  have G10 := GG10
  have G11 := ok_law_numbers (P := l.prog) (w := w) (mg := mg) (base := base) F11 (PySem.W.mg_none_of X G z_min) G2 (PySem.W.mg_of X G a2) k2 b2
  have G12 := ok_law_times (P := l.prog) (w := w) (mg := mg) (base := base) F12 
  have GG13 := ok_law_form (P := l.prog) (w := w) (mg := mg) (base := base) F13 (PySem.W.mg_none_of X G z_max) (PySem.W.mg_none_of X G z_min) (PySem.W.mg_none_of X G z_range) (PySem.W.mg_none_of X G z_tuple) (PySem.W.mg_of X G a13) k13 b13 G5 (PySem.W.mg_of X G a5) k5 b5 G2 (PySem.W.mg_of X G a2) k2 b2 G11 (PySem.W.mg_of X G a11) k11 b11 G12 (PySem.W.mg_of X G a12) k12 b12 G9 (PySem.W.mg_of X G a9) k9 b9 60
  have G13 := GG13
  have G14 := ok_law_drawn_tree (P := l.prog) (w := w) (mg := mg) (base := base) F14 (PySem.W.mg_none_of X G z_range) (PySem.W.mg_none_of X G z_tuple) G10 (PySem.W.mg_of X G a10) k10 b10 G13 (PySem.W.mg_of X G a13) k13 b13 G2 (PySem.W.mg_of X G a2) k2 b2 G6 (PySem.W.mg_of X G a6) k6 b6
  have G15 := ok_law_mark (P := l.prog) (w := w) (mg := mg) (base := base) F15 (PySem.W.mg_none_of X G z_str)
  have G16 := ok_law_escaped (P := l.prog) (w := w) (mg := mg) (base := base) F16 
  have G17 := ok_law_inside (P := l.prog) (w := w) (mg := mg) (base := base) F17 (PySem.W.mg_none_of X G z_len) (PySem.W.mg_none_of X G z_range) G16 (PySem.W.mg_of X G a16) k16 b16 G6 (PySem.W.mg_of X G a6) k6 b6
  have G18 := ok_law_written_set (P := l.prog) (w := w) (mg := mg) (base := base) F18 (PySem.W.mg_none_of X G z_len) G16 (PySem.W.mg_of X G a16) k16 b16 G17 (PySem.W.mg_of X G a17) k17 b17 G6 (PySem.W.mg_of X G a6) k6 b6
  have GG19 := ok_law_written (P := l.prog) (w := w) (mg := mg) (base := base) F19 G15 (PySem.W.mg_of X G a15) k15 b15 (PySem.W.mg_of X G a19) k19 b19 G18 (PySem.W.mg_of X G a18) k18 b18 60
  have G19 := GG19
  have G20 := ok_write_repeat (P := l.prog) (w := w) (mg := mg) (base := base) F20 (PySem.W.mg_none_of X G z_str)
  have G21 := ok_rank (P := l.prog) (w := w) (mg := mg) (base := base) F21 hu_SIGNS (PySem.W.mg_of X G y_SIGNS)
  have G22 := ok_runs_of (P := l.prog) (w := w) (mg := mg) (base := base) F22 (PySem.W.mg_none_of X G z_len) G21 (PySem.W.mg_of X G a21) k21 b21
  have G23 := ok_write_sign (P := l.prog) (w := w) (mg := mg) (base := base) F23 
  have G24 := ok_write_run (P := l.prog) (w := w) (mg := mg) (base := base) F24 (PySem.W.mg_none_of X G z_len) hu_BRACKET_SIGNS (PySem.W.mg_of X G y_BRACKET_SIGNS) G23 (PySem.W.mg_of X G a23) k23 b23
  have G25 := ok_write_entries (P := l.prog) (w := w) (mg := mg) (base := base) F25 G22 (PySem.W.mg_of X G a22) k22 b22 G24 (PySem.W.mg_of X G a24) k24 b24
  have G26 := ok_write_set (P := l.prog) (w := w) (mg := mg) (base := base) F26 (PySem.W.mg_none_of X G z_len) hu_SIGNS (PySem.W.mg_of X G y_SIGNS) hu_SPECIAL_SIGNS (PySem.W.mg_of X G y_SPECIAL_SIGNS) G25 (PySem.W.mg_of X G a25) k25 b25 G23 (PySem.W.mg_of X G a23) k23 b23
  have GG27 := ok_write_child_write_pattern (P := l.prog) (w := w) (mg := mg) (base := base) F27 F28 (PySem.W.mg_of X G a28) k28 b28 (PySem.W.mg_of X G a27) k27 b27 G20 (PySem.W.mg_of X G a20) k20 b20 G26 (PySem.W.mg_of X G a26) k26 b26 60
  have G27 := GG27.1
  have G28 := GG27.2
  have G29 := ok_law (P := l.prog) (w := w) (mg := mg) (base := base) F29 (PySem.W.mg_none_of X G z_isinstance) (PySem.W.mg_none_of X G z_str) G0 (PySem.W.mg_of X G a0) k0 b0 G1 (PySem.W.mg_of X G a1) k1 b1 G14 (PySem.W.mg_of X G a14) k14 b14 G2 (PySem.W.mg_of X G a2) k2 b2 G19 (PySem.W.mg_of X G a19) k19 b19 G28 (PySem.W.mg_of X G a28) k28 b28
  exact G29
end K10
open PySem PySem.W PyProof.Rows
set_option maxHeartbeats 0 in
theorem PySem.Challenge.cw_surespan_k10_written_pattern_holds : PySem.Challenge.rw_surespan_k10_written_pattern.Holds := by
  w_on; o_law; k_head; (case hw => w_witness2)
  k_fill
  refine L2.walk_ofK (l := PySem.Challenge.rw_surespan_k10_written_pattern) (n := 63) (k := 66) (x := "_law_script") (CX := L2.CX0) (sp := fun K => Sw.spF K 1 K10.f_law) rfl (by decide) rfl ⟨rfl, by decide, by decide⟩ (fun w h Y => PySem.W.kIn_of Y) ?F (fun K H a ns hl _ hS => Sw.law_sp hS (K10.law_true ns hl)) (fun _ _ _ _ h => h)
  case F =>
    intro w mg fa h KX G hmg
    refine' K10.all_mk KX G hmg ?a0 ?l0 ?c0 ?k0 ?a1 ?l1 ?c1 ?k1 ?a2 ?l2 ?c2 ?k2 ?a3 ?l3 ?c3 ?k3 ?a4 ?l4 ?c4 ?k4 ?a5 ?l5 ?c5 ?k5 ?a6 ?l6 ?c6 ?k6 ?a7 ?l7 ?c7 ?k7 ?a8 ?l8 ?c8 ?k8 ?a9 ?l9 ?c9 ?k9 ?a10 ?l10 ?c10 ?k10 ?a11 ?l11 ?c11 ?k11 ?a12 ?l12 ?c12 ?k12 ?a13 ?l13 ?c13 ?k13 ?a14 ?l14 ?c14 ?k14 ?a15 ?l15 ?c15 ?k15 ?a16 ?l16 ?c16 ?k16 ?a17 ?l17 ?c17 ?k17 ?a18 ?l18 ?c18 ?k18 ?a19 ?l19 ?c19 ?k19 ?a20 ?l20 ?c20 ?k20 ?a21 ?l21 ?c21 ?k21 ?a22 ?l22 ?c22 ?k22 ?a23 ?l23 ?c23 ?k23 ?a24 ?l24 ?c24 ?k24 ?a25 ?l25 ?c25 ?k25 ?a26 ?l26 ?c26 ?k26 ?a27 ?l27 ?c27 ?k27 ?a28 ?l28 ?c28 ?k28 ?a29 ?l29 ?c29 ?k29 ?z_int ?z_isinstance ?z_len ?z_list ?z_max ?z_min ?z_range ?z_str ?z_tuple ?y_BRACKET_SIGNS ?hu_BRACKET_SIGNS ?y_SIGNS ?hu_SIGNS ?y_SPECIAL_SIGNS ?hu_SPECIAL_SIGNS
    (case a0 => k_is)
    (case l0 => k_is)
    (case c0 => k_is)
    (case k0 => k_is)
    (case a1 => k_is)
    (case l1 => k_is)
    (case c1 => k_is)
    (case k1 => k_is)
    (case a2 => k_is)
    (case l2 => k_is)
    (case c2 => k_is)
    (case k2 => k_is)
    (case a3 => k_is)
    (case l3 => k_is)
    (case c3 => k_is)
    (case k3 => k_is)
    (case a4 => k_is)
    (case l4 => k_is)
    (case c4 => k_is)
    (case k4 => k_is)
    (case a5 => k_is)
    (case l5 => k_is)
    (case c5 => k_is)
    (case k5 => k_is)
    (case a6 => k_is)
    (case l6 => k_is)
    (case c6 => k_is)
    (case k6 => k_is)
    (case a7 => k_is)
    (case l7 => k_is)
    (case c7 => k_is)
    (case k7 => k_is)
    (case a8 => k_is)
    (case l8 => k_is)
    (case c8 => k_is)
    (case k8 => k_is)
    (case a9 => k_is)
    (case l9 => k_is)
    (case c9 => k_is)
    (case k9 => k_is)
    (case a10 => k_is)
    (case l10 => k_is)
    (case c10 => k_is)
    (case k10 => k_is)
    (case a11 => k_is)
    (case l11 => k_is)
    (case c11 => k_is)
    (case k11 => k_is)
    (case a12 => k_is)
    (case l12 => k_is)
    (case c12 => k_is)
    (case k12 => k_is)
    (case a13 => k_is)
    (case l13 => k_is)
    (case c13 => k_is)
    (case k13 => k_is)
    (case a14 => k_is)
    (case l14 => k_is)
    (case c14 => k_is)
    (case k14 => k_is)
    (case a15 => k_is)
    (case l15 => k_is)
    (case c15 => k_is)
    (case k15 => k_is)
    (case a16 => k_is)
    (case l16 => k_is)
    (case c16 => k_is)
    (case k16 => k_is)
    (case a17 => k_is)
    (case l17 => k_is)
    (case c17 => k_is)
    (case k17 => k_is)
    (case a18 => k_is)
    (case l18 => k_is)
    (case c18 => k_is)
    (case k18 => k_is)
    (case a19 => k_is)
    (case l19 => k_is)
    (case c19 => k_is)
    (case k19 => k_is)
    (case a20 => k_is)
    (case l20 => k_is)
    (case c20 => k_is)
    (case k20 => k_is)
    (case a21 => k_is)
    (case l21 => k_is)
    (case c21 => k_is)
    (case k21 => k_is)
    (case a22 => k_is)
    (case l22 => k_is)
    (case c22 => k_is)
    (case k22 => k_is)
    (case a23 => k_is)
    (case l23 => k_is)
    (case c23 => k_is)
    (case k23 => k_is)
    (case a24 => k_is)
    (case l24 => k_is)
    (case c24 => k_is)
    (case k24 => k_is)
    (case a25 => k_is)
    (case l25 => k_is)
    (case c25 => k_is)
    (case k25 => k_is)
    (case a26 => k_is)
    (case l26 => k_is)
    (case c26 => k_is)
    (case k26 => k_is)
    (case a27 => k_is)
    (case l27 => k_is)
    (case c27 => k_is)
    (case k27 => k_is)
    (case a28 => k_is)
    (case l28 => k_is)
    (case c28 => k_is)
    (case k28 => k_is)
    (case a29 => k_is)
    (case l29 => k_is)
    (case c29 => k_is)
    (case k29 => k_is)
    (case z_int => k_is)
    (case z_isinstance => k_is)
    (case z_len => k_is)
    (case z_list => k_is)
    (case z_max => k_is)
    (case z_min => k_is)
    (case z_range => k_is)
    (case z_str => k_is)
    (case z_tuple => k_is)
    (case y_BRACKET_SIGNS => k_is)
    (case hu_BRACKET_SIGNS => exact ⟨_, _, rfl, by decide +kernel⟩)
    (case y_SIGNS => k_is)
    (case hu_SIGNS => exact ⟨_, _, rfl, by decide +kernel⟩)
    (case y_SPECIAL_SIGNS => k_is)
    (case hu_SPECIAL_SIGNS => exact ⟨_, _, rfl, by decide +kernel⟩)
