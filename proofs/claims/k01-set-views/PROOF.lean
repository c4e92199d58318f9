import PyProof.Rows.All
import Wide.All
import OpenK.AllK
import Wide.FinOn
import HandS.ForMost
import HandS.Flow
import HandS.Style
import HandS.StrMore
import HandS.TupAny
import HandS.TupLe
import HandS.IsInst
import HandS.Flt
import HandS.RaiseMore
import HandS.SortInts
import HandS.More
import KE.GoesMore
import PyProof.Draws
import PyProof.EnumMake
import HandS.Zip
import HandS.ExcIs
import HandS.ExcInit
import HandS.ExcField
import HandS.WordsExc
import HandS.HotCalls
import HandS.ExcInitHot
import KE.KExcIs
import PyProof.StrLawsFrom
import KE.SortData
import OpenK.KMeth
import KE.KOpsOwn
import HandS.Property
import HandS.OwnEq
import HandS.Defaults
import PyProof.Rows.StrCountLaw
import PyProof.Rows.StrFoldSign
import KE.KOwnIter
import HandS.IterVal
import HandS.Lambda
import HandS.OwnIter
import HandS.ClsMeth
import PySem.Challenge.RW_surespan_k01_set_views
set_option Elab.async false
set_option linter.all false
set_option maxRecDepth 100000
set_option maxHeartbeats 4000000
/-! Sw1: a pure semantics of values for a part of Python (data D, slots Rho), and its tie to the readings of HandS. -/
namespace Sw
open PySem PySem.Spec PyProof.Rows L2

/-- a def as it stands behind the top, whatever its defaults are -/
structure FunG (K : PySem.W.Frag) (x qual : PySem.Str) (st : Stmt) (f : Addr) (fd : FuncData) : Prop where
  ex : ∃ (oc : Value) (od : Option Addr) (dV kV doc pm : Value) (an : Option Addr) (cdv ct : Value) (osl : Array (Option Value)),
    fd = PySem.W.fnOf x qual (defArgs st) (defBody st) (defScope st) dV kV doc pm an cdv ct ∧ K.lookup f = some ⟨oc, od, .func fd, osl⟩ ∧ PySem.W.codeIn K cdv qual = true
theorem fun_g {K : PySem.W.Frag} {x qual : PySem.Str} {st : Stmt} {f : Addr} {fd : FuncData} (F : Fun K x qual st f fd) : FunG K x qual st f fd := by
  obtain ⟨oc, od, kV, doc, pm, an, cdv, ct, osl, e, lk, hcd⟩ := F.ex
  exact ⟨oc, od, .none, kV, doc, pm, an, cdv, ct, osl, e, lk, hcd⟩
theorem FunG.ok {P : Program} {w : World} {K : PySem.W.Frag} {mg : Str → Option Value} {base : Heap} {x qual : Str} {st : Stmt} {f : Addr} {fd : FuncData} {N ps : List Str} {k : Nat} {sp : Sp} (F : FunG K x qual st f fd) (S : FnScope N ps (defScope st)) (len : ∀ vs H Q E, sp vs H Q E → vs.length = ps.length)
    (hbody : ∀ (cdv : Value) (A : Around) (outer : List Env) (s : Shared) (H : Hp) (vs : List V) (Q : VK) (E : XK), Room k (A.deeper (envOfC qual (defScope st) s.heap.objs.size f cdv)) → sp vs H Q E →
      ∃ t, PSs (cxOf CX0 P w K mg base N qual (defScope st) f cdv A outer s H E).nox (defBody st) t ∧ t { nx := fun _ H' => Q .non H', rt := Q } (start N vs) H) : FnOk P w K mg base CX0 (k + 1) f fd ps sp := by
  obtain ⟨oc, od, dV, kV, doc, pm, an, cdv, ct, osl, rfl, lk, hcd⟩ := F.ex
  refine fn_of lk hcd S len fun A outer s H vs Q E hr hsp => ?_
  obtain ⟨t, h, q⟩ := hbody cdv A outer s H vs Q E hr hsp
  exact ⟨t, h.nox, q⟩

inductive D where
  | non | bl (b : Bool) | int (i : Int) | str (s : List Nat) | lst (xs : List D) | tup (xs : List D) | scr (xs : List Int)
  /-- an instance that is not changed any more: its class, its attributes by name -/
  | obj (c : PySem.Str) (ks : List PySem.Str) (xs : List D)
/-- the class of that name stands at C -/
def ClsN (K : PySem.W.Frag) (c : PySem.Str) (C : Addr) : Prop := PySem.W.nsIn K mainGlobals c = some (some (.ref C))
theorem ClsN.uniq {K : PySem.W.Frag} {c : PySem.Str} {C C' : Addr} (h : ClsN K c C) (h' : ClsN K c C') : C = C' := by
  unfold ClsN at h h'
  rw [h] at h'
  cases h'
  rfl

mutual
inductive Rep (K : PySem.W.Frag) (F : Hp) : V → D → Prop where
  | non : Rep K F .non .non
  | bl (b : Bool) : Rep K F (.bl b) (.bl b)
  | int (i : Int) : Rep K F (.int i) (.int i)
  | str (s : List Nat) : Rep K F (.str ⟨s.toArray⟩) (.str s)
  | lst {a : Addr} {vs : List V} {ds : List D} : F a = some (.lst vs) → Reps K F vs ds → Rep K F (.ref a) (.lst ds)
  | scr {a : Addr} {xs : List Int} : SqL K F a (xs.map V.int) → Rep K F (.ref a) (.scr xs)
  | tup {a : Addr} {vs : List V} {ds : List D} : SqT K F a vs → Reps K F vs ds → Rep K F (.ref a) (.tup ds)
  | obj {a C dx : Addr} {c : PySem.Str} {ks : List PySem.Str} {vs : List V} {ds : List D} : ClsN K c C → F a = some (.ins C dx (ks.zip vs)) → vs.length = ks.length → Reps K F vs ds → Rep K F (.ref a) (.obj c ks ds)
inductive Reps (K : PySem.W.Frag) (F : Hp) : List V → List D → Prop where
  | nil : Reps K F [] []
  | cons {v : V} {d : D} {vs : List V} {ds : List D} : Rep K F v d → Reps K F vs ds → Reps K F (v :: vs) (d :: ds)
end

theorem same_t {K : PySem.W.Frag} {H H' : Hp} {a : Addr} {xs : List V} (e : Same H H') (h : SqT K H a xs) : SqT K H' a xs := by
  rcases h with (h | ⟨o, h⟩) | h
  · exact .inl (.inl (e _ _ h))
  · exact .inl (.inr ⟨o, e _ _ h⟩)
  · exact .inr h

mutual
theorem Rep.mono {K : PySem.W.Frag} {F F' : Hp} (e : Same F F') : ∀ {v : V} {d : D}, Rep K F v d → Rep K F' v d
  | _, _, .non => .non
  | _, _, .bl b => .bl b
  | _, _, .int i => .int i
  | _, _, .str s => .str s
  | _, _, .lst h r => .lst (e _ _ h) (Reps.mono e r)
  | _, _, .scr h => .scr (e.seq h)
  | _, _, .tup h r => .tup (same_t e h) (Reps.mono e r)
  | _, _, .obj h1 h2 h3 r => .obj h1 (e _ _ h2) h3 (Reps.mono e r)
theorem Reps.mono {K : PySem.W.Frag} {F F' : Hp} (e : Same F F') : ∀ {vs : List V} {ds : List D}, Reps K F vs ds → Reps K F' vs ds
  | _, _, .nil => .nil
  | _, _, .cons h r => .cons (Rep.mono e h) (Reps.mono e r)
end
theorem Reps.len {K : PySem.W.Frag} {F : Hp} : ∀ {vs : List V} {ds : List D}, Reps K F vs ds → vs.length = ds.length
  | _, _, .nil => rfl
  | _, _, .cons _ r => by rw [List.length_cons, List.length_cons, Reps.len r]
theorem Reps.get {K : PySem.W.Frag} {F : Hp} : ∀ {vs : List V} {ds : List D} {i : Nat} {v : V}, Reps K F vs ds → vs[i]? = some v → ∃ d, ds[i]? = some d ∧ Rep K F v d
  | _, _, _, _, .nil, h => by simp at h
  | _, _, 0, _, .cons r _, h => by simp at h; subst h; exact ⟨_, rfl, r⟩
  | _, _, i + 1, v, .cons _ t, h => by
    obtain ⟨d, h1, h2⟩ := Reps.get (i := i) (v := v) t (by simpa using h)
    exact ⟨d, by simpa using h1, h2⟩
theorem Reps.get' {K : PySem.W.Frag} {F : Hp} : ∀ {vs : List V} {ds : List D} {i : Nat} {d : D}, Reps K F vs ds → ds[i]? = some d → ∃ v, vs[i]? = some v ∧ Rep K F v d
  | _, _, _, _, .nil, h => by simp at h
  | _, _, 0, _, .cons r _, h => by simp at h; subst h; exact ⟨_, rfl, r⟩
  | _, _, i + 1, v, .cons _ t, h => by
    obtain ⟨d, h1, h2⟩ := Reps.get' (i := i) (d := v) t (by simpa using h)
    exact ⟨d, by simpa using h1, h2⟩
theorem Reps.append {K : PySem.W.Frag} {F : Hp} : ∀ {vs us : List V} {ds es : List D}, Reps K F vs ds → Reps K F us es → Reps K F (vs ++ us) (ds ++ es)
  | _, _, _, _, .nil, s => s
  | _, _, _, _, .cons r t, s => .cons r (Reps.append t s)
theorem Reps.take {K : PySem.W.Frag} {F : Hp} : ∀ {vs : List V} {ds : List D} (n : Nat), Reps K F vs ds → Reps K F (vs.take n) (ds.take n)
  | _, _, 0, _ => .nil
  | _, _, _ + 1, .nil => .nil
  | _, _, n + 1, .cons r t => .cons r (Reps.take n t)
theorem Reps.drop {K : PySem.W.Frag} {F : Hp} : ∀ {vs : List V} {ds : List D} (n : Nat), Reps K F vs ds → Reps K F (vs.drop n) (ds.drop n)
  | _, _, 0, r => r
  | _, _, _ + 1, .nil => .nil
  | _, _, n + 1, .cons _ t => Reps.drop n t
theorem Reps.set {K : PySem.W.Frag} {F : Hp} {v : V} {d : D} (r : Rep K F v d) : ∀ {vs : List V} {ds : List D} (i : Nat), Reps K F vs ds → Reps K F (vs.set i v) (ds.set i d)
  | _, _, _, .nil => .nil
  | _, _, 0, .cons _ t => .cons r t
  | _, _, i + 1, .cons q t => .cons q (Reps.set r i t)
theorem Reps.reverse {K : PySem.W.Frag} {F : Hp} : ∀ {vs : List V} {ds : List D}, Reps K F vs ds → Reps K F vs.reverse ds.reverse
  | _, _, .nil => .nil
  | _, _, .cons r t => by
    rw [List.reverse_cons, List.reverse_cons]
    exact (Reps.reverse t).append (.cons r .nil)

/-! ### slots and worlds -/
/-- a slot: unset, a datum, a list of one's own, a list handed in to be changed -/
inductive Sl where
  | no | d (x : D) | ow (xs : List D) | io (xs : List D)
  /-- the exception that the suite holds -/
  | xa (a dx : Addr) (f : Option (PySem.Str × D))
abbrev Rho := List Sl
/-- what an expression gives: a datum, a new list, the list that stands in a slot -/
inductive Vl where
  | fz (x : D) | fr (xs : List D) | bw (i : Nat)
structure Gd where
  H0 : Hp
  F0 : Hp
  ia : List (Nat × Addr)
  nl : Nat

def Ow (ρ : Rho) (σ : L2.St) (i : Nat) (a : Addr) : Prop := (∃ xs, ρ[i]? = some (.ow xs) ∨ ρ[i]? = some (.io xs)) ∧ σ[i]? = some (some (.ref a))

/-- the one field of the exception whose dict stands at dx -/
def XaR (K : PySem.W.Frag) (F : Hp) (dx : Addr) : Option (PySem.Str × D) → Prop
  | none => True
  | some (k, y) => ∃ v, F dx = some (.xd [(k, v)]) ∧ Rep K F v y
theorem XaR.mono {K : PySem.W.Frag} {F F' : Hp} {dx : Addr} {f : Option (PySem.Str × D)} (e : Same F F') (h : XaR K F dx f) : XaR K F' dx f := by
  cases f with
  | none => trivial
  | some p =>
    obtain ⟨k, y⟩ := p
    obtain ⟨v, h1, h2⟩ := h
    exact ⟨v, e _ _ h1, h2.mono e⟩
def SlR (K : PySem.W.Frag) (G : Gd) (σ : L2.St) (H F : Hp) (i : Nat) : Sl → Prop
  | .no => True
  | .d x => ∃ v, σ[i]? = some (some v) ∧ Rep K F v x
  | .ow xs => ∃ a vs, σ[i]? = some (some (.ref a)) ∧ H a = some (.lst vs) ∧ Reps K F vs xs ∧ F a = none ∧ G.H0 a = none
  | .io xs => ∃ a vs, σ[i]? = some (some (.ref a)) ∧ H a = some (.lst vs) ∧ Reps K F vs xs ∧ F a = none ∧ (i, a) ∈ G.ia
  | .xa b dx f => σ[i]? = some (some (.ref b)) ∧ XaR K F dx f

structure Wd (K : PySem.W.Frag) (G : Gd) (ρ : Rho) (σ : L2.St) (H F : Hp) : Prop where
  len : ρ.length = σ.length
  gl : σ.length = G.nl
  sub : Same F H
  f0 : Same G.F0 F
  kp : ∀ b o, G.H0 b = some o → b ∉ G.ia.map (·.2) → H b = some o
  nw : ∀ b, F b ≠ none → G.F0 b ≠ none ∨ G.H0 b = none
  it : ∀ b, b ∈ G.ia.map (·.2) → H b ≠ none
  sl : ∀ i s, ρ[i]? = some s → SlR K G σ H F i s
  ap : ∀ i j a, Ow ρ σ i a → Ow ρ σ j a → i = j
  ai : ∀ i a, (i, a) ∈ G.ia → (∃ xs, ρ[i]? = some (.io xs)) ∧ σ[i]? = some (some (.ref a))

def VlR (K : PySem.W.Frag) (G : Gd) (P : Hp) (ρ : Rho) (σ : L2.St) (H F : Hp) (v : V) : Vl → Prop
  | .fz x => Rep K F v x
  | .fr xs => ∃ a vs, v = .ref a ∧ H a = some (.lst vs) ∧ Reps K F vs xs ∧ F a = none ∧ P a = none ∧ ∀ i, ¬ Ow ρ σ i a
  | .bw i => σ[i]? = some (some v)
/-- settled values: a datum or a slot's list -/
def VlS (K : PySem.W.Frag) (σ : L2.St) (F : Hp) (v : V) : Vl → Prop
  | .fz x => Rep K F v x
  | .fr _ => False
  | .bw i => σ[i]? = some (some v)
def stl : Vl → Vl
  | .fr xs => .fz (.lst xs)
  | r => r

structure Ste (K : PySem.W.Frag) (G : Gd) (ρ : Rho) (σ : L2.St) (H F : Hp) (ρ' : Rho) (H' F' : Hp) : Prop where
  wd : Wd K G ρ' σ H' F'
  ff : Same F F'
  kk : ∀ b o, H b = some o → (∀ i, ¬ Ow ρ σ i b) → H' b = some o
  nf : ∀ b, F' b ≠ none → F b ≠ none ∨ H b = none ∨ ∃ i, Ow ρ σ i b
  oo : ∀ i a, Ow ρ' σ i a → Ow ρ σ i a
  tr : ∀ b, H b ≠ none → H' b ≠ none

section
variable {K : PySem.W.Frag} {G : Gd} {ρ ρ1 ρ2 ρ' : Rho} {σ : L2.St} {H H1 H2 H' F F1 F2 F' : Hp} {v : V} {r : Vl}

theorem Ste.refl (W : Wd K G ρ σ H F) : Ste K G ρ σ H F ρ H F :=
  ⟨W, Same.refl _, fun _ _ h _ => h, fun _ h => .inl h, fun _ _ h => h, fun _ h => h⟩
theorem Ste.trans (a : Ste K G ρ σ H F ρ1 H1 F1) (b : Ste K G ρ1 σ H1 F1 ρ2 H2 F2) : Ste K G ρ σ H F ρ2 H2 F2 := by
  refine ⟨b.wd, a.ff.trans b.ff, fun c o h n => b.kk c o (a.kk c o h n) fun i q => n i (a.oo i c q), fun c h => ?_, fun i c q => a.oo i c (b.oo i c q), fun c h => b.tr c (a.tr c h)⟩
  rcases b.nf c h with h1 | h1 | ⟨i, h1⟩
  · exact a.nf c h1
  · by_cases q : ∃ i, Ow ρ σ i c
    · exact .inr (.inr q)
    · refine .inr (.inl ?_)
      cases e : H c with
      | none => rfl
      | some o =>
        rw [a.kk c o e fun i z => q ⟨i, z⟩] at h1
        cases h1
  · exact .inr (.inr ⟨i, a.oo i c h1⟩)
theorem Wd.ow_there (W : Wd K G ρ σ H F) {i : Nat} {a : Addr} (h : Ow ρ σ i a) : ∃ vs, H a = some (.lst vs) ∧ F a = none := by
  obtain ⟨⟨xs, h1 | h1⟩, h2⟩ := h
  · obtain ⟨b, vs, e, h3, _, h5, _⟩ := W.sl i _ h1
    rw [h2] at e; cases e
    exact ⟨vs, h3, h5⟩
  · obtain ⟨b, vs, e, h3, _, h5, _⟩ := W.sl i _ h1
    rw [h2] at e; cases e
    exact ⟨vs, h3, h5⟩
theorem VlS.ste (h : VlS K σ F1 v r) (s : Ste K G ρ1 σ H1 F1 ρ2 H2 F2) : VlS K σ F2 v r := by
  cases r with
  | fz x => exact Rep.mono s.ff h
  | bw i => exact h
  | fr xs => exact h.elim

/-- what is read of a value now -/
def look (ρ : Rho) : Vl → Option D
  | .fz x => some x
  | .fr xs => some (.lst xs)
  | .bw i => match ρ[i]? with
    | some (.ow xs) => some (.lst xs)
    | some (.io xs) => some (.lst xs)
    | _ => none
def Vw (K : PySem.W.Frag) (H F : Hp) (v : V) : D → Prop
  | .lst xs => ∃ a vs, v = .ref a ∧ H a = some (.lst vs) ∧ Reps K F vs xs
  | x => Rep K F v x
theorem vw_rep {x : D} (s : Same F H) (h : Rep K F v x) : Vw K H F v x := by
  cases h with
  | lst h r => exact ⟨_, _, rfl, s _ _ h, r⟩
  | scr h => exact .scr h
  | non => exact .non
  | bl b => exact .bl b
  | int i => exact .int i
  | str s => exact .str s
  | tup h r => exact .tup h r
  | obj h1 h2 h3 r => exact .obj h1 h2 h3 r
theorem vw_of {x : D} (W : Wd K G ρ σ H F) (h : VlS K σ F v r) (e : look ρ r = some x) : Vw K H F v x := by
  cases r with
  | fz y => cases e; exact vw_rep W.sub h
  | fr xs => exact h.elim
  | bw i =>
    unfold look at e
    have h : σ[i]? = some (some v) := h
    cases q : ρ[i]? with
    | none => simp [q] at e
    | some s =>
      cases s with
      | no => simp [q] at e
      | xa b dx f => simp [q] at e
      | d y => simp [q] at e
      | ow xs =>
        simp [q] at e; subst e
        obtain ⟨a, vs, e, h1, h2, _⟩ := W.sl i _ q
        rw [h] at e; cases e
        exact ⟨a, vs, rfl, h1, h2⟩
      | io xs =>
        simp [q] at e; subst e
        obtain ⟨a, vs, e, h1, h2, _⟩ := W.sl i _ q
        rw [h] at e; cases e
        exact ⟨a, vs, rfl, h1, h2⟩

/-- a value becomes a datum -/
def frz (ρ : Rho) : Vl → Option (D × Rho)
  | .fz x => some (x, ρ)
  | .fr xs => some (.lst xs, ρ)
  | .bw i => match ρ[i]? with
    | some (.ow xs) => some (.lst xs, ρ.set i (.d (.lst xs)))
    | _ => none

theorem Wd.h0 (W : Wd K G ρ σ H F) {b : Addr} (h : H b = none) : G.H0 b = none := by
  cases e : G.H0 b with
  | none => rfl
  | some o =>
    by_cases q : b ∈ G.ia.map (·.2)
    · exact absurd h (W.it b q)
    · rw [W.kp b o e q] at h; cases h

structure Alc (F H F' H' : Hp) : Prop where
  ff : Same F F'
  sub : Same F' H'
  hh : Same H H'
  nf : ∀ b, F' b ≠ none → F b ≠ none ∨ H b = none
theorem Alc.refl (s : Same F H) : Alc F H F H := ⟨Same.refl _, s, Same.refl _, fun _ h => .inl h⟩
theorem Alc.trans {F1 H1 F2 H2 : Hp} (a : Alc F H F1 H1) (b : Alc F1 H1 F2 H2) : Alc F H F2 H2 := by
  refine ⟨a.ff.trans b.ff, b.sub, a.hh.trans b.hh, fun c h => ?_⟩
  rcases b.nf c h with q | q
  · exact a.nf c q
  · exact .inr (a.hh.free q)
theorem same_upd {p : Addr} {o : HO} (h : H p = none) : Same H (upd H p o) := fun b x e => by
  rw [upd_ne (ne_of_none e h)]
  exact e
theorem Alc.new {p : Addr} {o : HO} (s : Same F H) (h : H p = none) : Alc F H (upd F p o) (upd H p o) := by
  refine ⟨same_upd (s.free h), fun b x e => ?_, same_upd h, fun b q => ?_⟩
  · by_cases hb : b = p
    · subst hb; rw [upd_same] at e ⊢; exact e
    · rw [upd_ne hb] at e ⊢; exact s _ _ e
  · by_cases hb : b = p
    · subst hb; exact .inr h
    · rw [upd_ne hb] at q; exact .inl q
theorem SlR.alc {i : Nat} {s : Sl} (A : Alc F H F' H') (h : SlR K G σ H F i s) : SlR K G σ H' F' i s := by
  have fn : ∀ {a : Addr} {vs : List V}, H a = some (.lst vs) → F a = none → F' a = none := fun {a vs} h1 h2 => by
    cases e : F' a with
    | none => rfl
    | some o =>
      rcases A.nf a (by rw [e]; simp) with q | q
      · exact absurd h2 q
      · rw [h1] at q; cases q
  cases s with
  | no => trivial
  | xa b dx f => exact ⟨h.1, h.2.mono A.ff⟩
  | d x => obtain ⟨v, e, r⟩ := h; exact ⟨v, e, r.mono A.ff⟩
  | ow xs => obtain ⟨a, vs, e, h1, h2, h3, h4⟩ := h; exact ⟨a, vs, e, A.hh _ _ h1, h2.mono A.ff, fn h1 h3, h4⟩
  | io xs => obtain ⟨a, vs, e, h1, h2, h3, h4⟩ := h; exact ⟨a, vs, e, A.hh _ _ h1, h2.mono A.ff, fn h1 h3, h4⟩
theorem Wd.alc (W : Wd K G ρ σ H F) (A : Alc F H F' H') : Ste K G ρ σ H F ρ H' F' := by
  refine ⟨⟨W.len, W.gl, A.sub, W.f0.trans A.ff, fun b o h q => A.hh _ _ (W.kp b o h q), fun b h => ?_, fun b h e => W.it b h (A.hh.free e), fun i s h => (W.sl i s h).alc A, W.ap, W.ai⟩, A.ff, fun b o h _ => A.hh _ _ h, fun b h => (A.nf b h).elim .inl fun q => .inr (.inl q), fun _ _ h => h, fun b h e => h (A.hh.free e)⟩
  rcases A.nf b h with q | q
  · exact W.nw b q
  · exact .inr (W.h0 q)

/-- an untracked-by-F list that no slot owns is frozen -/
theorem Wd.freeze_new {a : Addr} {vs : List V} (W : Wd K G ρ σ H F) (h1 : H a = some (.lst vs)) (h2 : F a = none) (h3 : G.H0 a = none) (h4 : ∀ i, ¬ Ow ρ σ i a) : Wd K G ρ σ H (upd F a (.lst vs)) ∧ Same F (upd F a (.lst vs)) := by
  have ss := same_upd (o := HO.lst vs) h2
  refine ⟨⟨W.len, W.gl, fun b x e => ?_, W.f0.trans ss, W.kp, fun b h => ?_, W.it, fun i s h => ?_, W.ap, W.ai⟩, ss⟩
  · by_cases hb : b = a
    · subst hb; rw [upd_same] at e; cases e; exact h1
    · rw [upd_ne hb] at e; exact W.sub _ _ e
  · by_cases hb : b = a
    · subst hb; exact .inr h3
    · rw [upd_ne hb] at h; exact W.nw b h
  · have q := W.sl i s h
    cases s with
    | no => trivial
    | xa b dx f => exact ⟨q.1, q.2.mono ss⟩
    | d x => obtain ⟨v, e, r⟩ := q; exact ⟨v, e, r.mono ss⟩
    | ow xs =>
      obtain ⟨c, us, e, p1, p2, p3, p4⟩ := q
      have nc : c ≠ a := fun z => h4 i ⟨⟨xs, .inl h⟩, by rw [← z]; exact e⟩
      exact ⟨c, us, e, p1, p2.mono ss, by rw [upd_ne nc]; exact p3, p4⟩
    | io xs =>
      obtain ⟨c, us, e, p1, p2, p3, p4⟩ := q
      have nc : c ≠ a := fun z => h4 i ⟨⟨xs, .inr h⟩, by rw [← z]; exact e⟩
      exact ⟨c, us, e, p1, p2.mono ss, by rw [upd_ne nc]; exact p3, p4⟩

/-- a new list is settled -/
theorem settle (W : Wd K G ρ σ H F) (s : Ste K G ρ σ H F ρ1 H1 F1) (h : VlR K G H ρ1 σ H1 F1 v r) : ∃ F2, Ste K G ρ σ H F ρ1 H1 F2 ∧ VlS K σ F2 v (stl r) ∧ Same F1 F2 := by
  cases r with
  | fz y => exact ⟨F1, s, h, Same.refl _⟩
  | bw i => exact ⟨F1, s, h, Same.refl _⟩
  | fr xs =>
    obtain ⟨a, vs, rfl, h1, h2, h3, h4, h5⟩ := h
    have h0 : G.H0 a = none := W.h0 h4
    obtain ⟨W', ss⟩ := s.wd.freeze_new h1 h3 h0 h5
    refine ⟨upd F1 a (.lst vs), ⟨W', s.ff.trans ss, s.kk, fun b q => ?_, s.oo, s.tr⟩, .lst upd_same (h2.mono ss), ss⟩
    by_cases hb : b = a
    · subst hb; exact .inr (.inl h4)
    · rw [upd_ne hb] at q; exact s.nf b q
/-- a settled value becomes a datum -/
theorem frz_ok {x : D} (W : Wd K G ρ σ H F) (h : VlS K σ F v r) (e : frz ρ r = some (x, ρ')) : ∃ F', Ste K G ρ σ H F ρ' H F' ∧ Rep K F' v x := by
  cases r with
  | fz y =>
    cases e
    exact ⟨F, Ste.refl W, h⟩
  | fr xs => exact h.elim
  | bw i =>
    have h : σ[i]? = some (some v) := h
    unfold frz at e
    cases q : ρ[i]? with
    | none => simp [q] at e
    | some s =>
      cases s with
      | no => simp [q] at e
      | xa b dx f => simp [q] at e
      | d y => simp [q] at e
      | io xs => simp [q] at e
      | ow xs =>
        simp [q] at e
        obtain ⟨rfl, rfl⟩ := e
        obtain ⟨a, vs, e, h1, h2, h3, h4⟩ := W.sl i _ q
        rw [h] at e; cases e
        have ss := same_upd (o := HO.lst vs) h3
        have hi : i < ρ.length := (List.getElem?_eq_some_iff.mp q).1
        have old : ∀ j b, Ow (ρ.set i (.d (.lst xs))) σ j b → j ≠ i ∧ Ow ρ σ j b := fun j b o => by
          obtain ⟨⟨ys, o1⟩, o2⟩ := o
          have ne : j ≠ i := fun z => by
            subst z
            rw [List.getElem?_set_self hi] at o1
            rcases o1 with o1 | o1 <;> cases o1
          rw [List.getElem?_set_ne (Ne.symm ne)] at o1
          exact ⟨ne, ⟨ys, o1⟩, o2⟩
        have own : Ow ρ σ i a := ⟨⟨xs, .inl q⟩, h⟩
        refine ⟨upd F a (.lst vs), ⟨⟨by rw [List.length_set]; exact W.len, W.gl, fun b x e => ?_, W.f0.trans ss, W.kp, fun b z => ?_, W.it, fun j s z => ?_, fun j k b o1 o2 => W.ap j k b (old j b o1).2 (old k b o2).2, fun j b z => ?_⟩, ss, fun _ _ z _ => z, fun b z => ?_, fun j b o => (old j b o).2, fun _ z => z⟩, .lst upd_same (h2.mono ss)⟩
        · by_cases hb : b = a
          · subst hb; rw [upd_same] at e; cases e; exact h1
          · rw [upd_ne hb] at e; exact W.sub _ _ e
        · by_cases hb : b = a
          · subst hb; exact .inr h4
          · rw [upd_ne hb] at z; exact W.nw b z
        · by_cases ne : j = i
          · subst ne
            rw [List.getElem?_set_self hi] at z
            cases z
            exact ⟨.ref a, h, .lst upd_same (h2.mono ss)⟩
          · rw [List.getElem?_set_ne (Ne.symm ne)] at z
            have q2 := W.sl j s z
            cases s with
            | no => trivial
            | xa b dx f => exact ⟨q2.1, q2.2.mono ss⟩
            | d x => obtain ⟨v, e, r⟩ := q2; exact ⟨v, e, r.mono ss⟩
            | ow ys =>
              obtain ⟨c, us, e, p1, p2, p3, p4⟩ := q2
              have nc : c ≠ a := fun zz => ne (W.ap j i a ⟨⟨ys, .inl z⟩, by rw [← zz]; exact e⟩ own)
              exact ⟨c, us, e, p1, p2.mono ss, by rw [upd_ne nc]; exact p3, p4⟩
            | io ys =>
              obtain ⟨c, us, e, p1, p2, p3, p4⟩ := q2
              have nc : c ≠ a := fun zz => ne (W.ap j i a ⟨⟨ys, .inr z⟩, by rw [← zz]; exact e⟩ own)
              exact ⟨c, us, e, p1, p2.mono ss, by rw [upd_ne nc]; exact p3, p4⟩
        · obtain ⟨⟨ys, z1⟩, z2⟩ := W.ai j b z
          have ne : j ≠ i := fun e => by rw [e, q] at z1; cases z1
          exact ⟨⟨ys, by rw [List.getElem?_set_ne (Ne.symm ne)]; exact z1⟩, z2⟩
        · by_cases hb : b = a
          · subst hb; exact .inr (.inr ⟨i, own⟩)
          · rw [upd_ne hb] at z; exact .inl z
end
end Sw
namespace Sw
open PySem PySem.Spec PyProof.Rows L2

abbrev M (α : Type) := Rho → Option (α × Rho)

def tM (K : PySem.W.Frag) (m : M Vl) : TE := fun σ H Q => ∃ G ρ F r ρ', Wd K G ρ σ H F ∧ m ρ = some (r, ρ') ∧ ∀ v H' F', Ste K G ρ σ H F ρ' H' F' → VlR K G H ρ' σ H' F' v r → Q v H'
def tMT (K : PySem.W.Frag) (m : M Bool) : TT := fun σ H Q => ∃ G ρ F r ρ', Wd K G ρ σ H F ∧ m ρ = some (r, ρ') ∧ ∀ H' F', Ste K G ρ σ H F ρ' H' F' → Q r H'
def VlSs (K : PySem.W.Frag) (σ : L2.St) (F : Hp) : List V → List Vl → Prop
  | [], [] => True
  | v :: vs, r :: rs => VlS K σ F v r ∧ VlSs K σ F vs rs
  | _, _ => False
def tMA (K : PySem.W.Frag) (m : M (List Vl)) : TA := fun σ H Q => ∃ G ρ F r ρ', Wd K G ρ σ H F ∧ m ρ = some (r, ρ') ∧ ∀ vs H' F', Ste K G ρ σ H F ρ' H' F' → VlSs K σ F' vs r → Q vs H'
abbrev SE (X : Cx) (e : Expr) (m : M Vl) : Prop := PE X e (tM X.K m)
abbrev ST (X : Cx) (e : Expr) (m : M Bool) : Prop := PT X e (tMT X.K m)
abbrev SA (X : Cx) (es : List Expr) (m : M (List Vl)) : Prop := PA X es (tMA X.K m)

theorem VlSs.ste {K : PySem.W.Frag} {G : Gd} {ρ1 ρ2 : Rho} {σ : L2.St} {H1 H2 F1 F2 : Hp} (s : Ste K G ρ1 σ H1 F1 ρ2 H2 F2) : ∀ {vs : List V} {rs : List Vl}, VlSs K σ F1 vs rs → VlSs K σ F2 vs rs
  | [], [], _ => trivial
  | _ :: _, _ :: _, h => ⟨h.1.ste s, VlSs.ste s h.2⟩
  | [], _ :: _, h => h.elim
  | _ :: _, [], h => h.elim

theorem pe_weak {X : Cx} {e : Expr} {t t' : TE} (h : PE X e t) (w : ∀ σ H Q, t' σ H Q → t σ H Q) : PE X e t' := ⟨fun pins s σ H Q I q => h.run pins s σ H Q I (w _ _ _ q)⟩
theorem pt_weak {X : Cx} {e : Expr} {t t' : TT} (h : PT X e t) (w : ∀ σ H Q, t' σ H Q → t σ H Q) : PT X e t' := ⟨fun pins s σ H Q I q => h.run pins s σ H Q I (w _ _ _ q)⟩
theorem pw_weak {X : Cx} {e : Expr} {t t' : TT} (h : PW X e t) (w : ∀ σ H Q, t' σ H Q → t σ H Q) : PW X e t' := ⟨fun wh pins s σ H Q I q => h.run wh pins s σ H Q I (w _ _ _ q)⟩
theorem pa_weak {X : Cx} {es : List Expr} {t t' : TA} (h : PA X es t) (w : ∀ σ H Q, t' σ H Q → t σ H Q) : PA X es t' := ⟨fun pos pins s σ H Q I q => h.run pos pins s σ H Q I (w _ _ _ q)⟩

section
variable {K : PySem.W.Frag} {G : Gd} {ρ ρ1 : Rho} {σ : L2.St} {H F : Hp} {r : Vl}
theorem tm_use {m : M Vl} {Q : VK} (W : Wd K G ρ σ H F) (h : m ρ = some (r, ρ1)) (q : ∀ v H1 F1, Ste K G ρ σ H F ρ1 H1 F1 → VlS K σ F1 v (stl r) → Q v H1) : tM K m σ H Q :=
  ⟨G, ρ, F, r, ρ1, W, h, fun v H1 F1 s R => let ⟨F2, s2, R2, _⟩ := settle W s R; q v H1 F2 s2 R2⟩
theorem tmt_use {m : M Bool} {b : Bool} {Q : Bool → Hp → Prop} (W : Wd K G ρ σ H F) (h : m ρ = some (b, ρ1)) (q : ∀ H1 F1, Ste K G ρ σ H F ρ1 H1 F1 → Q b H1) : tMT K m σ H Q :=
  ⟨G, ρ, F, b, ρ1, W, h, q⟩
end

/-! ### names, constants -/
def eVar (i : Nat) : M Vl := fun ρ => match ρ[i]? with
  | some (.d x) => some (.fz x, ρ)
  | some (.ow _) => some (.bw i, ρ)
  | some (.io _) => some (.bw i, ρ)
  | _ => none
def eC (x : D) : M Vl := fun ρ => some (.fz x, ρ)

section
variable {X : Cx}
theorem se_var {i : Nat} {e : Expr} (h : PE X e (tVar i)) : SE X e (eVar i) := by
  refine pe_weak h fun σ H Q ⟨G, ρ, F, r, ρ', W, hm, q⟩ => ?_
  unfold eVar at hm
  cases e : ρ[i]? with
  | none => simp [e] at hm
  | some s =>
    have sl := W.sl i s e
    cases s with
    | no => simp [e] at hm
    | xa b dx f => simp [e] at hm
    | d x =>
      simp [e] at hm
      obtain ⟨rfl, rfl⟩ := hm
      obtain ⟨v, h1, h2⟩ := sl
      exact ⟨v, h1, q v H F (Ste.refl W) h2⟩
    | ow xs =>
      simp [e] at hm
      obtain ⟨rfl, rfl⟩ := hm
      obtain ⟨a, vs, h1, _⟩ := sl
      exact ⟨.ref a, h1, q _ H F (Ste.refl W) h1⟩
    | io xs =>
      simp [e] at hm
      obtain ⟨rfl, rfl⟩ := hm
      obtain ⟨a, vs, h1, _⟩ := sl
      exact ⟨.ref a, h1, q _ H F (Ste.refl W) h1⟩
theorem se_con {e : Expr} {v : V} {x : D} (h : PE X e (tC v)) (r : ∀ F, Rep X.K F v x) : SE X e (eC x) := by
  refine pe_weak h fun σ H Q ⟨G, ρ, F, r', ρ', W, hm, q⟩ => ?_
  cases hm
  exact q v H F (Ste.refl W) (r F)
theorem se_int {i : Int} {j pos} : SE X (.Constant (.int i) j pos) (eC (.int i)) := se_con pe_int fun _ => .int i
theorem se_bl {b : Bool} {j pos} : SE X (.Constant (.bool b) j pos) (eC (.bl b)) := se_con pe_bl fun _ => .bl b
theorem se_non {j pos} : SE X (.Constant .none j pos) (eC .non) := se_con pe_non fun _ => .non
theorem str_cps (x : Str) : (⟨x.cps.toList.toArray⟩ : Str) = x := by cases x; simp
theorem rep_str {K : PySem.W.Frag} {F : Hp} (x : Str) : Rep K F (.str x) (.str x.cps.toList) := by
  have h := Rep.str (K := K) (F := F) x.cps.toList
  rw [str_cps] at h
  exact h
/-- a written text: cs its codes -/
theorem se_str {x : Str} {cs : List Nat} {j pos} (h : x.cps.toList = cs) : SE X (.Constant (.str x) j pos) (eC (.str cs)) := se_con pe_str fun _ => h ▸ rep_str x
theorem se_glob {x : Str} {v : V} {u : Value} {pos : Pos} {d : D} (hm : X.mg x = some u) (r : RelV v u) (hr : ∀ F, Rep X.K F v d) (hg : Gl X x) (hd : (x == ("__debug__" : Str)) = false := by decide) : SE X (.Name x pos) (eC d) := se_con (pe_glob hg hm r hd) hr
end

/-! ### two-place operations -/
def eBin (f : D → D → Option D) (a b : M Vl) : M Vl := fun ρ => (a ρ).bind fun p => (b p.2).bind fun q => (look q.2 (stl p.1)).bind fun x => (look q.2 (stl q.1)).bind fun y => (f x y).bind fun z => some (.fz z, q.2)
def OpS (K : PySem.W.Frag) (r : R2) (f : D → D → Option D) : Prop :=
  ∀ (H F : Hp) (v u : V) (x y z : D), Same F H → Vw K H F v x → Vw K H F u y → f x y = some z → ∀ Q : VK, (∀ w H' F', Alc F H F' H' → Rep K F' w z → Q w H') → r v u H Q
def orF (f g : D → D → Option D) : D → D → Option D := fun x y => match f x y with
  | some z => some z
  | none => g x y
theorem OpS.or {K : PySem.W.Frag} {r r' : R2} {f g : D → D → Option D} (h : OpS K r f) (h' : OpS K r' g) : OpS K (fun x y H Q => r x y H Q ∨ r' x y H Q) (orF f g) := by
  intro H F v u x y z s hx hy e Q q
  unfold orF at e
  cases e1 : f x y with
  | some w =>
    simp [e1] at e; subst e
    exact .inl (h H F v u x y w s hx hy e1 Q q)
  | none =>
    simp [e1] at e
    exact .inr (h' H F v u x y z s hx hy e Q q)
theorem top_of {K : PySem.W.Frag} {r : R2} {f : D → D → Option D} {a b : M Vl} (hf : OpS K r f) {σ : L2.St} {H : Hp} {Q : VK} (h : tM K (eBin f a b) σ H Q) : tOp r (tM K a) (tM K b) σ H Q := by
  obtain ⟨G, ρ, F, r0, ρ', W, hm, q⟩ := h
  unfold eBin at hm
  obtain ⟨⟨x, ρ1⟩, e1, hm⟩ := Option.bind_eq_some_iff.mp hm
  obtain ⟨⟨y, ρ2⟩, e2, hm⟩ := Option.bind_eq_some_iff.mp hm
  obtain ⟨dx, e3, hm⟩ := Option.bind_eq_some_iff.mp hm
  obtain ⟨dy, e4, hm⟩ := Option.bind_eq_some_iff.mp hm
  obtain ⟨dz, e5, hm⟩ := Option.bind_eq_some_iff.mp hm
  cases hm
  refine tm_use W e1 fun v H1 F1 s1 R1 => ?_
  refine tm_use s1.wd e2 fun u H2 F2 s2 R2 => ?_
  have V1 := vw_of s2.wd (R1.ste s2) e3
  have V2 := vw_of s2.wd R2 e4
  refine hf H2 F2 v u dx dy dz s2.wd.sub V1 V2 e5 Q fun w H' F' A R => ?_
  exact q w H' F' ((s1.trans s2).trans (s2.wd.alc A)) R

section
variable {X : Cx} {a b : Expr} {ma mb : M Vl} {pos : Pos}
theorem se_bin {op : Operator} {r : R2} {f : D → D → Option D} (ho : OpR X (binaryOp op) r) (hf : OpS X.K r f) (ha : SE X a ma) (hb : SE X b mb) : SE X (.BinOp a op b pos) (eBin f ma mb) :=
  pe_weak (pe_op ho ha hb) fun _ _ _ h => top_of hf h
theorem se_cmp {op : CmpOp} {r : R2} {f : D → D → Option D} (ho : OpR X (compareOp op) r) (hf : OpS X.K r f) (ha : SE X a ma) (hb : SE X b mb) (hm : behindInMarks op b = false) : SE X (.Compare a [op] [b] pos) (eBin f ma mb) :=
  pe_weak (pe_cmpR ho ha hb hm) fun _ _ _ h => top_of hf h
theorem se_ixr {r : R2} {f : D → D → Option D} (ho : IxR X r) (hf : OpS X.K r f) (ha : SE X a ma) (hb : SE X b mb) (hs : PlainIx b) : SE X (.Subscript a b pos) (eBin f ma mb) :=
  pe_weak (pe_ix ho ha hb hs) fun _ _ _ h => top_of hf h
end

/-! ### one-place operations -/
def eUn (f : D → Option D) (a : M Vl) : M Vl := fun ρ => (a ρ).bind fun p => (look p.2 (stl p.1)).bind fun x => (f x).bind fun z => some (.fz z, p.2)
def UnS (K : PySem.W.Frag) (r : V → Hp → VK → Prop) (f : D → Option D) : Prop :=
  ∀ (H F : Hp) (v : V) (x z : D), Same F H → Vw K H F v x → f x = some z → ∀ Q : VK, (∀ w H' F', Alc F H F' H' → Rep K F' w z → Q w H') → r v H Q
theorem tun_of {K : PySem.W.Frag} {r : V → Hp → VK → Prop} {f : D → Option D} {a : M Vl} (hf : UnS K r f) {σ : L2.St} {H : Hp} {Q : VK} (h : tM K (eUn f a) σ H Q) : tUn r (tM K a) σ H Q := by
  obtain ⟨G, ρ, F, r0, ρ', W, hm, q⟩ := h
  unfold eUn at hm
  obtain ⟨⟨x, ρ1⟩, e1, hm⟩ := Option.bind_eq_some_iff.mp hm
  obtain ⟨dx, e3, hm⟩ := Option.bind_eq_some_iff.mp hm
  obtain ⟨dz, e5, hm⟩ := Option.bind_eq_some_iff.mp hm
  cases hm
  refine tm_use W e1 fun v H1 F1 s1 R1 => ?_
  refine hf H1 F1 v dx dz s1.wd.sub (vw_of s1.wd R1 e3) e5 Q fun w H' F' A R => ?_
  exact q w H' F' (s1.trans (s1.wd.alc A)) R
theorem se_un {X : Cx} {a : Expr} {ma : M Vl} {pos : Pos} {op : UnaryOp} {r : V → Hp → VK → Prop} {f : D → Option D} (ho : UnR X (unaryOp op) r) (hf : UnS X.K r f) (ha : SE X a ma) : SE X (.UnaryOp op a pos) (eUn f ma) :=
  pe_weak (pe_un ho ha) fun _ _ _ h => tun_of hf h

/-! ### tests -/
/-- an expression that gives a bool -/
def tE (a : M Vl) : M Bool := fun ρ => (a ρ).bind fun p => match p.1 with
  | .fz (.bl b) => some (b, p.2)
  | _ => none
theorem tb_of {K : PySem.W.Frag} {a : M Vl} {σ : L2.St} {H : Hp} {Q : Bool → Hp → Prop} (h : tMT K (tE a) σ H Q) : tM K a σ H (fun x H1 => ∃ c, x = .bl c ∧ Q c H1) := by
  obtain ⟨G, ρ, F, b, ρ', W, hm, q⟩ := h
  unfold tE at hm
  obtain ⟨⟨x, ρ1⟩, e1, hm⟩ := Option.bind_eq_some_iff.mp hm
  refine tm_use W e1 fun v H1 F1 s1 R1 => ?_
  split at hm
  · rename_i c hc
    cases hm
    dsimp only at hc
    subst hc
    cases (show Rep K F1 v (.bl b) from R1)
    exact ⟨b, rfl, q H1 F1 s1⟩
  · cases hm
section
variable {X : Cx} {a b c : Expr} {ma mb : M Vl} {m1 m2 : M Bool} {pos : Pos} {rest : List Expr}
theorem st_val (ha : SE X a ma) (he : ∀ whole, isTrue a X.env whole = (do let v ← whole; standAt a.pos; holding [v] (truthy v))) : ST X a (tE ma) :=
  pt_weak (pt_val ha he) fun _ _ _ h => tb_of h
theorem st_cmp {op : CmpOp} {r : R2} {f : D → D → Option D} (ho : OpR X (compareOp op) r) (hf : OpS X.K r f) (ha : SE X a ma) (hb : SE X b mb) (hm : behindInMarks op b = false) : ST X (.Compare a [op] [b] pos) (tE (eBin f ma mb)) :=
  pt_weak (pt_cmpR ho ha hb hm) fun _ _ _ h => top_of hf (tb_of h)
def tAnd (a b : M Bool) : M Bool := fun ρ => (a ρ).bind fun p => if p.1 = true then b p.2 else some (false, p.2)
def tOr (a b : M Bool) : M Bool := fun ρ => (a ρ).bind fun p => if p.1 = true then some (true, p.2) else b p.2
def tNot (a : M Bool) : M Bool := fun ρ => (a ρ).bind fun p => some (!p.1, p.2)
abbrev SW (X : Cx) (e : Expr) (m : M Bool) : Prop := PW X e (tMT X.K m)
theorem sw_and1 (h : ST X a m1) : SW X (.BoolOp .And [a] pos) m1 := pw_and1 h
theorem sw_or1 (h : ST X a m1) : SW X (.BoolOp .Or [a] pos) m1 := pw_or1 h
theorem tand_of {K : PySem.W.Frag} {σ : L2.St} {H : Hp} {Q : Bool → Hp → Prop} (h : tMT K (tAnd m1 m2) σ H Q) : L2.tAnd (tMT K m1) (tMT K m2) σ H Q := by
  obtain ⟨G, ρ, F, b, ρ', W, hm, q⟩ := h
  unfold tAnd at hm
  obtain ⟨⟨x, ρ1⟩, e1, hm⟩ := Option.bind_eq_some_iff.mp hm
  refine tmt_use W e1 fun H1 F1 s1 => ?_
  cases x with
  | true =>
    simp only [if_true] at hm ⊢
    exact ⟨G, ρ1, F1, b, ρ', s1.wd, hm, fun H2 F2 s2 => q H2 F2 (s1.trans s2)⟩
  | false =>
    simp at hm ⊢
    obtain ⟨rfl, rfl⟩ := hm
    exact q H1 F1 s1
theorem tor_of {K : PySem.W.Frag} {σ : L2.St} {H : Hp} {Q : Bool → Hp → Prop} (h : tMT K (tOr m1 m2) σ H Q) : L2.tOr (tMT K m1) (tMT K m2) σ H Q := by
  obtain ⟨G, ρ, F, b, ρ', W, hm, q⟩ := h
  unfold tOr at hm
  obtain ⟨⟨x, ρ1⟩, e1, hm⟩ := Option.bind_eq_some_iff.mp hm
  refine tmt_use W e1 fun H1 F1 s1 => ?_
  cases x with
  | true =>
    simp at hm ⊢
    obtain ⟨rfl, rfl⟩ := hm
    exact q H1 F1 s1
  | false =>
    simp at hm ⊢
    exact ⟨G, ρ1, F1, b, ρ', s1.wd, hm, fun H2 F2 s2 => q H2 F2 (s1.trans s2)⟩
theorem sw_and (ha : ST X a m1) (hb : SW X (.BoolOp .And (b :: rest) pos) m2) : SW X (.BoolOp .And (a :: b :: rest) pos) (tAnd m1 m2) := pw_weak (pw_and ha hb) fun _ _ _ h => tand_of h
theorem sw_or (ha : ST X a m1) (hb : SW X (.BoolOp .Or (b :: rest) pos) m2) : SW X (.BoolOp .Or (a :: b :: rest) pos) (tOr m1 m2) := pw_weak (pw_or ha hb) fun _ _ _ h => tor_of h
theorem st_bool {e : Expr} (h : SW X e m1) : ST X e m1 := h.pt
theorem st_not (ha : ST X a m1) : ST X (.UnaryOp .Not a pos) (tNot m1) := pt_weak (pt_not ha) fun σ H Q ⟨G, ρ, F, b, ρ', W, hm, q⟩ => by
  unfold tNot at hm
  obtain ⟨⟨x, ρ1⟩, e1, hm⟩ := Option.bind_eq_some_iff.mp hm
  cases hm
  exact tmt_use W e1 fun H1 F1 s1 => q H1 F1 s1
/-- and, or, not of bools as values -/
def eAnd (a b : M Vl) : M Vl := fun ρ => (a ρ).bind fun p => match p.1 with
  | .fz (.bl true) => b p.2
  | .fz (.bl false) => some (.fz (.bl false), p.2)
  | _ => none
def eOr (a b : M Vl) : M Vl := fun ρ => (a ρ).bind fun p => match p.1 with
  | .fz (.bl false) => b p.2
  | .fz (.bl true) => some (.fz (.bl true), p.2)
  | _ => none
def eNot (a : M Vl) : M Vl := fun ρ => (a ρ).bind fun p => match p.1 with
  | .fz (.bl b) => some (.fz (.bl (!b)), p.2)
  | _ => none
def eIf (t : M Bool) (a b : M Vl) : M Vl := fun ρ => (t ρ).bind fun p => if p.1 = true then a p.2 else b p.2
theorem VlR.pre {K : PySem.W.Frag} {G : Gd} {P P' : Hp} {ρ : Rho} {σ : L2.St} {H F : Hp} {v : V} {r : Vl} (h : VlR K G P ρ σ H F v r) (e : ∀ a, P a = none → P' a = none) : VlR K G P' ρ σ H F v r := by
  cases r with
  | fz x => exact h
  | bw i => exact h
  | fr xs =>
    obtain ⟨a, vs, e1, h1, h2, h3, h4, h5⟩ := h
    exact ⟨a, vs, e1, h1, h2, h3, e a h4, h5⟩
theorem Ste.back {K : PySem.W.Frag} {G : Gd} {ρ ρ1 : Rho} {σ : L2.St} {H H1 F F1 : Hp} (s : Ste K G ρ σ H F ρ1 H1 F1) : ∀ a, H1 a = none → H a = none := fun a h => by
  cases e : H a with
  | none => rfl
  | some o => exact absurd h (s.tr a (by rw [e]; simp))
/-- the last part's own result -/
theorem tm_last {K : PySem.W.Frag} {G : Gd} {ρ ρ1 ρ2 : Rho} {σ : L2.St} {H H1 F F1 : Hp} {r : Vl} {m : M Vl} {Q : VK} (s : Ste K G ρ σ H F ρ1 H1 F1) (h : m ρ1 = some (r, ρ2)) (q : ∀ v H' F', Ste K G ρ σ H F ρ2 H' F' → VlR K G H ρ2 σ H' F' v r → Q v H') : tM K m σ H1 Q :=
  ⟨G, ρ1, F1, r, ρ2, s.wd, h, fun v H2 F2 s2 R => q v H2 F2 (s.trans s2) (R.pre s.back)⟩
theorem se_one {op} (h : SE X a ma) : SE X (.BoolOp op [a] pos) ma := pe_one h
theorem se_and (ha : SE X a ma) (hb : SE X (.BoolOp .And (b :: rest) pos) mb) : SE X (.BoolOp .And (a :: b :: rest) pos) (eAnd ma mb) := by
  refine pe_weak (pe_and ha hb) fun σ H Q ⟨G, ρ, F, r, ρ', W, hm, q⟩ => ?_
  unfold eAnd at hm
  obtain ⟨⟨x, ρ1⟩, e1, hm⟩ := Option.bind_eq_some_iff.mp hm
  refine tm_use W e1 fun v H1 F1 s1 R1 => ?_
  split at hm
  · rename_i hc; dsimp only at hc; subst hc
    cases (show Rep X.K F1 v (.bl true) from R1)
    exact ⟨true, rfl, tm_last s1 hm q⟩
  · rename_i hc; dsimp only at hc; subst hc
    cases (show Rep X.K F1 v (.bl false) from R1)
    cases hm
    exact ⟨false, rfl, q _ _ F1 s1 (.bl false)⟩
  · cases hm
theorem se_or (ha : SE X a ma) (hb : SE X (.BoolOp .Or (b :: rest) pos) mb) : SE X (.BoolOp .Or (a :: b :: rest) pos) (eOr ma mb) := by
  refine pe_weak (pe_or ha hb) fun σ H Q ⟨G, ρ, F, r, ρ', W, hm, q⟩ => ?_
  unfold eOr at hm
  obtain ⟨⟨x, ρ1⟩, e1, hm⟩ := Option.bind_eq_some_iff.mp hm
  refine tm_use W e1 fun v H1 F1 s1 R1 => ?_
  split at hm
  · rename_i hc; dsimp only at hc; subst hc
    cases (show Rep X.K F1 v (.bl false) from R1)
    exact ⟨false, rfl, tm_last s1 hm q⟩
  · rename_i hc; dsimp only at hc; subst hc
    cases (show Rep X.K F1 v (.bl true) from R1)
    cases hm
    exact ⟨true, rfl, q _ _ F1 s1 (.bl true)⟩
  · cases hm
theorem se_not (ha : SE X a ma) : SE X (.UnaryOp .Not a pos) (eNot ma) := by
  refine pe_weak (pe_not ha) fun σ H Q ⟨G, ρ, F, r, ρ', W, hm, q⟩ => ?_
  unfold eNot at hm
  obtain ⟨⟨x, ρ1⟩, e1, hm⟩ := Option.bind_eq_some_iff.mp hm
  refine tm_use W e1 fun v H1 F1 s1 R1 => ?_
  split at hm
  · rename_i c hc; dsimp only at hc; subst hc
    cases (show Rep X.K F1 v (.bl c) from R1)
    cases hm
    exact ⟨c, rfl, q _ _ F1 s1 (.bl _)⟩
  · cases hm
theorem se_if (hc : ST X c m1) (ha : SE X a ma) (hb : SE X b mb) : SE X (.IfExp c a b pos) (eIf m1 ma mb) := by
  refine pe_weak (pe_ifExp hc ha hb) fun σ H Q ⟨G, ρ, F, r, ρ', W, hm, q⟩ => ?_
  unfold eIf at hm
  obtain ⟨⟨x, ρ1⟩, e1, hm⟩ := Option.bind_eq_some_iff.mp hm
  refine tmt_use W e1 fun H1 F1 s1 => ?_
  cases x with
  | true => simp only [if_true] at hm ⊢; exact tm_last s1 hm q
  | false => simp at hm ⊢; exact tm_last s1 hm q
/-- a < b < c -/
def eChain (f g : D → D → Option D) (a b c : M Vl) : M Vl := fun ρ => (a ρ).bind fun p => (b p.2).bind fun q => (look q.2 (stl p.1)).bind fun x => (look q.2 (stl q.1)).bind fun y => (f x y).bind fun z => match z with
  | .bl true => (c q.2).bind fun p3 => (look p3.2 (stl q.1)).bind fun y2 => (look p3.2 (stl p3.1)).bind fun w => (g y2 w).bind fun z2 => some (.fz z2, p3.2)
  | .bl false => some (.fz (.bl false), q.2)
  | _ => none
end

/-! ### argument lists -/
def aNil : M (List Vl) := fun ρ => some ([], ρ)
def aCons (a : M Vl) (r : M (List Vl)) : M (List Vl) := fun ρ => (a ρ).bind fun p => (r p.2).bind fun q => some (stl p.1 :: q.1, q.2)
theorem sa_nil {X : Cx} : SA X [] aNil := pa_weak pa_nil fun σ H Q ⟨G, ρ, F, r, ρ', W, hm, q⟩ => by
  cases hm
  exact q [] H F (Ste.refl W) trivial
theorem sa_cons {X : Cx} {e : Expr} {es : List Expr} {me : M Vl} {mr : M (List Vl)} (he : SE X e me) (hr : SA X es mr) (hs : starEach (e :: es) X.env = (false, eval e X.env) :: starEach es X.env := by rfl) : SA X (e :: es) (aCons me mr) := by
  refine pa_weak (pa_cons he hr hs) fun σ H Q ⟨G, ρ, F, r, ρ', W, hm, q⟩ => ?_
  unfold aCons at hm
  obtain ⟨⟨x, ρ1⟩, e1, hm⟩ := Option.bind_eq_some_iff.mp hm
  obtain ⟨⟨y, ρ2⟩, e2, hm⟩ := Option.bind_eq_some_iff.mp hm
  cases hm
  refine tm_use W e1 fun v H1 F1 s1 R1 => ?_
  exact ⟨G, ρ1, F1, y, ρ2, s1.wd, e2, fun vs H2 F2 s2 R2 => q (v :: vs) H2 F2 (s1.trans s2) ⟨R1.ste s2, R2⟩⟩

/-- all become data -/
def frzs (ρ : Rho) : List Vl → Option (List D × Rho)
  | [] => some ([], ρ)
  | r :: rs => (frz ρ r).bind fun p => (frzs p.2 rs).bind fun q => some (p.1 :: q.1, q.2)
theorem frzs_ok {K : PySem.W.Frag} {G : Gd} {σ : L2.St} {H : Hp} : ∀ {rs : List Vl} {vs : List V} {xs : List D} {ρ ρ' : Rho} {F : Hp}, Wd K G ρ σ H F → VlSs K σ F vs rs → frzs ρ rs = some (xs, ρ') → ∃ F', Ste K G ρ σ H F ρ' H F' ∧ Reps K F' vs xs
  | [], [], xs, ρ, ρ', F, W, _, e => by
    cases e
    exact ⟨F, Ste.refl W, .nil⟩
  | [], _ :: _, _, _, _, _, _, h, _ => h.elim
  | _ :: _, [], _, _, _, _, _, h, _ => h.elim
  | r :: rs, v :: vs, xs, ρ, ρ', F, W, h, e => by
    unfold frzs at e
    obtain ⟨⟨x, ρ1⟩, e1, e⟩ := Option.bind_eq_some_iff.mp e
    obtain ⟨⟨ys, ρ2⟩, e2, e⟩ := Option.bind_eq_some_iff.mp e
    cases e
    obtain ⟨F1, s1, R1⟩ := frz_ok W h.1 e1
    obtain ⟨F2, s2, R2⟩ := frzs_ok s1.wd (h.2.ste s1) e2
    exact ⟨F2, s1.trans s2, .cons (R1.mono s2.ff) R2⟩

abbrev lim : Nat := 16777216
theorem lim_of {n : Nat} (h : n ≤ lim) : n ≤ sizeLine := by rw [sizeLine_eq]; exact h
theorem lim_lt {n : Nat} (h : n < lim) : n < sizeLine := by rw [sizeLine_eq]; exact h
/-- (a, b, ..) -/
def eTup (a : M (List Vl)) : M Vl := fun ρ => (a ρ).bind fun p => (frzs p.2 p.1).bind fun q => if q.1.length ≤ lim then some (.fz (.tup q.1), q.2) else none
def eLst (a : M (List Vl)) : M Vl := fun ρ => (a ρ).bind fun p => (frzs p.2 p.1).bind fun q => if q.1.length ≤ lim then some (.fr q.1, q.2) else none
section
variable {X : Cx} {es : List Expr} {ma : M (List Vl)} {pos : Pos}
theorem se_tup {x1} (h : SA X es ma) : SE X (.Tuple es x1 pos) (eTup ma) := by
  refine pe_weak (pe_tup h) fun σ H Q ⟨G, ρ, F, r, ρ', W, hm, q⟩ => ?_
  unfold eTup at hm
  obtain ⟨⟨x, ρ1⟩, e1, hm⟩ := Option.bind_eq_some_iff.mp hm
  obtain ⟨⟨ys, ρ2⟩, e2, hm⟩ := Option.bind_eq_some_iff.mp hm
  split at hm
  · rename_i hl
    cases hm
    refine ⟨G, ρ, F, x, ρ1, W, e1, fun vs H1 F1 s1 R1 => ?_⟩
    obtain ⟨F2, s2, R2⟩ := frzs_ok s1.wd R1 e2
    refine ⟨lim_of (by rw [R2.len]; exact hl), fun p hp => ?_⟩
    have A := Alc.new (o := HO.tup vs) s2.wd.sub hp
    exact q _ _ _ ((s1.trans s2).trans (s2.wd.alc A)) (Rep.tup (SqT.of upd_same) (R2.mono A.ff))
  · cases hm
theorem se_lst (h : SA X es ma) : SE X (.List es pos) (eLst ma) := by
  refine pe_weak (pe_lst h) fun σ H Q ⟨G, ρ, F, r, ρ', W, hm, q⟩ => ?_
  unfold eLst at hm
  obtain ⟨⟨x, ρ1⟩, e1, hm⟩ := Option.bind_eq_some_iff.mp hm
  obtain ⟨⟨ys, ρ2⟩, e2, hm⟩ := Option.bind_eq_some_iff.mp hm
  split at hm
  · rename_i hl
    cases hm
    refine ⟨G, ρ, F, x, ρ1, W, e1, fun vs H1 F1 s1 R1 => ?_⟩
    obtain ⟨F2, s2, R2⟩ := frzs_ok s1.wd R1 e2
    refine ⟨lim_of (by rw [R2.len]; exact hl), fun p hp => ?_⟩
    have s3 := s1.trans s2
    have A : Alc F2 H1 F2 (upd H1 p (.lst vs)) := ⟨Same.refl _, s2.wd.sub.trans (same_upd hp), same_upd hp, fun _ h => .inl h⟩
    refine q _ _ _ (s3.trans (s2.wd.alc A)) ⟨p, vs, rfl, upd_same, R2, s2.wd.sub.free hp, s3.back p hp, fun i o => ?_⟩
    obtain ⟨_, z, _⟩ := s3.wd.ow_there o
    rw [hp] at z; cases z
  · cases hm
end

/-! ### calls of built-ins -/
def looks (ρ : Rho) : List Vl → Option (List D)
  | [] => some []
  | r :: rs => (look ρ r).bind fun x => (looks ρ rs).bind fun xs => some (x :: xs)
def Vws (K : PySem.W.Frag) (H F : Hp) : List V → List D → Prop
  | [], [] => True
  | v :: vs, x :: xs => Vw K H F v x ∧ Vws K H F vs xs
  | _, _ => False
theorem vws_of {K : PySem.W.Frag} {G : Gd} {ρ : Rho} {σ : L2.St} {H F : Hp} (W : Wd K G ρ σ H F) : ∀ {vs : List V} {rs : List Vl} {xs : List D}, VlSs K σ F vs rs → looks ρ rs = some xs → Vws K H F vs xs
  | [], [], xs, _, e => by cases e; trivial
  | [], _ :: _, _, h, _ => h.elim
  | _ :: _, [], _, h, _ => h.elim
  | v :: vs, r :: rs, xs, h, e => by
    unfold looks at e
    obtain ⟨x, e1, e⟩ := Option.bind_eq_some_iff.mp e
    obtain ⟨ys, e2, e⟩ := Option.bind_eq_some_iff.mp e
    cases e
    exact ⟨vw_of W h.1 e1, vws_of W h.2 e2⟩
/-- f(a, ..) of a built-in f -/
def eBlt (f : List D → Option D) (a : M (List Vl)) : M Vl := fun ρ => (a ρ).bind fun p => (looks p.2 p.1).bind fun xs => (f xs).bind fun z => some (.fz z, p.2)
def CallS (K : PySem.W.Frag) (r : List V → Hp → VK → Prop) (f : List D → Option D) : Prop :=
  ∀ (H F : Hp) (vs : List V) (xs : List D) (z : D), Same F H → Vws K H F vs xs → f xs = some z → ∀ Q : VK, (∀ w H' F', Alc F H F' H' → Rep K F' w z → Q w H') → r vs H Q
theorem tcb_of {K : PySem.W.Frag} {r : List V → Hp → VK → Prop} {f : List D → Option D} {a : M (List Vl)} (hf : CallS K r f) {σ : L2.St} {H : Hp} {Q : VK} (h : tM K (eBlt f a) σ H Q) : tMA K a σ H fun vs H1 => r vs H1 Q := by
  obtain ⟨G, ρ, F, r0, ρ', W, hm, q⟩ := h
  unfold eBlt at hm
  obtain ⟨⟨x, ρ1⟩, e1, hm⟩ := Option.bind_eq_some_iff.mp hm
  obtain ⟨xs, e2, hm⟩ := Option.bind_eq_some_iff.mp hm
  obtain ⟨z, e3, hm⟩ := Option.bind_eq_some_iff.mp hm
  cases hm
  refine ⟨G, ρ, F, x, ρ1, W, e1, fun vs H1 F1 s1 R1 => ?_⟩
  refine hf H1 F1 vs xs z s1.wd.sub (vws_of s1.wd R1 e2) e3 Q fun w H' F' A R => ?_
  exact q w H' F' (s1.trans (s1.wd.alc A)) R
end Sw
namespace Sw
open PySem PySem.Spec PyProof.Rows L2

section
variable {X : Cx} {a b c e : Expr} {ma mb mc me : M Vl} {pos : Pos}
theorem tchain_of {K : PySem.W.Frag} {r r' : R2} {f g : D → D → Option D} (hf : OpS K r f) (hg : OpS K r' g) {σ : L2.St} {H : Hp} {Q : VK} (h : tM K (eChain f g ma mb mc) σ H Q) : tChain r r' (tM K ma) (tM K mb) (tM K mc) σ H Q := by
  obtain ⟨G, ρ, F, r0, ρ', W, hm, q⟩ := h
  unfold eChain at hm
  obtain ⟨⟨x, ρ1⟩, e1, hm⟩ := Option.bind_eq_some_iff.mp hm
  obtain ⟨⟨y, ρ2⟩, e2, hm⟩ := Option.bind_eq_some_iff.mp hm
  obtain ⟨dx, e3, hm⟩ := Option.bind_eq_some_iff.mp hm
  obtain ⟨dy, e4, hm⟩ := Option.bind_eq_some_iff.mp hm
  obtain ⟨dz, e5, hm⟩ := Option.bind_eq_some_iff.mp hm
  refine tm_use W e1 fun v H1 F1 s1 R1 => ?_
  refine tm_use s1.wd e2 fun u H2 F2 s2 R2 => ?_
  have s12 := s1.trans s2
  refine hf H2 F2 v u dx dy dz s2.wd.sub (vw_of s2.wd (R1.ste s2) e3) (vw_of s2.wd R2 e4) e5 _ fun w H3 F3 A R => ?_
  have s3 := s2.wd.alc A
  have s13 := s12.trans s3
  split at hm
  · cases R
    refine ⟨true, rfl, ?_⟩
    simp only [if_true]
    obtain ⟨⟨z, ρ3⟩, e6, hm⟩ := Option.bind_eq_some_iff.mp hm
    obtain ⟨dy2, e7, hm⟩ := Option.bind_eq_some_iff.mp hm
    obtain ⟨dw, e8, hm⟩ := Option.bind_eq_some_iff.mp hm
    obtain ⟨dz2, e9, hm⟩ := Option.bind_eq_some_iff.mp hm
    cases hm
    refine tm_use s3.wd e6 fun w' H4 F4 s4 R4 => ?_
    refine hg H4 F4 u w' dy2 dw dz2 s4.wd.sub (vw_of s4.wd ((R2.ste s3).ste s4) e7) (vw_of s4.wd R4 e8) e9 _ fun z' H5 F5 A5 R5 => ?_
    exact q z' H5 F5 ((s13.trans s4).trans (s4.wd.alc A5)) R5
  · cases R
    cases hm
    refine ⟨false, rfl, ?_⟩
    simp
    exact q _ _ F3 s13 (.bl false)
  · cases hm
theorem se_chain {op op' : CmpOp} {r r' : R2} {f g : D → D → Option D} (ho : OpR X (compareOp op) r) (ho' : OpR X (compareOp op') r') (hf : OpS X.K r f) (hg : OpS X.K r' g) (ha : SE X a ma) (hb : SE X b mb) (hc : SE X c mc)
    (hm : lastMarks [op, op'] [b, c] = false) : SE X (.Compare a [op, op'] [b, c] pos) (eChain f g ma mb mc) := pe_weak (pe_chain ho ho' ha hb hc hm) fun _ _ _ h => tchain_of hf hg h
theorem st_chain {op op' : CmpOp} {r r' : R2} {f g : D → D → Option D} (ho : OpR X (compareOp op) r) (ho' : OpR X (compareOp op') r') (hf : OpS X.K r f) (hg : OpS X.K r' g) (ha : SE X a ma) (hb : SE X b mb) (hc : SE X c mc)
    (hm : lastMarks [op, op'] [b, c] = false) : ST X (.Compare a [op, op'] [b, c] pos) (tE (eChain f g ma mb mc)) := pt_weak (pt_chain ho ho' ha hb hc hm) fun _ _ _ h => tchain_of hf hg (tb_of h)

/-! ### slices -/
def tMO (K : PySem.W.Frag) (m : M (Option Int)) : TO := fun σ H Q => ∃ G ρ F r ρ', Wd K G ρ σ H F ∧ m ρ = some (r, ρ') ∧ ∀ H' F', Ste K G ρ σ H F ρ' H' F' → Q r H'
abbrev SO (X : Cx) (e : Option Expr) (m : M (Option Int)) : Prop := PO X e (tMO X.K m)
theorem po_weak {o : Option Expr} {t t' : TO} (h : PO X o t) (w : ∀ σ H Q, t' σ H Q → t σ H Q) : PO X o t' := ⟨fun pins s σ H Q I q => h.run pins s σ H Q I (w _ _ _ q)⟩
def oNo : M (Option Int) := fun ρ => some (none, ρ)
def oSome (a : M Vl) : M (Option Int) := fun ρ => (a ρ).bind fun p => match p.1 with
  | .fz (.int i) => some (some i, p.2)
  | _ => none
theorem so_none : SO X none oNo := po_weak po_none fun σ H Q ⟨G, ρ, F, r, ρ', W, hm, q⟩ => by
  cases hm
  exact q H F (Ste.refl W)
theorem so_some (h : SE X e me) : SO X (some e) (oSome me) := po_weak (po_some h) fun σ H Q ⟨G, ρ, F, r, ρ', W, hm, q⟩ => by
  unfold oSome at hm
  obtain ⟨⟨x, ρ1⟩, e1, hm⟩ := Option.bind_eq_some_iff.mp hm
  refine tm_use W e1 fun v H1 F1 s1 R1 => ?_
  split at hm
  · rename_i i hc; dsimp only at hc; subst hc
    cases (show Rep X.K F1 v (.int i) from R1)
    cases hm
    exact ⟨i, rfl, q H1 F1 s1⟩
  · cases hm
def eSl (f : D → Option Int → Option Int → Option D) (a : M Vl) (l u : M (Option Int)) : M Vl := fun ρ => (a ρ).bind fun p => (l p.2).bind fun p1 => (u p1.2).bind fun p2 => (look p2.2 (stl p.1)).bind fun x => (f x p1.1 p2.1).bind fun z => some (.fz z, p2.2)
def SlS (K : PySem.W.Frag) (r : V → Option Int → Option Int → Hp → VK → Prop) (f : D → Option Int → Option Int → Option D) : Prop :=
  ∀ (H F : Hp) (v : V) (x z : D) (lo hi : Option Int), Same F H → Vw K H F v x → f x lo hi = some z → ∀ Q : VK, (∀ w H' F', Alc F H F' H' → Rep K F' w z → Q w H') → r v lo hi H Q
theorem se_sl {r : V → Option Int → Option Int → Hp → VK → Prop} {f : D → Option Int → Option Int → Option D} {lo hi : Option Expr} {ml mu : M (Option Int)} {p2 : Pos} (hr : L2.SlR X r) (hf : SlS X.K r f) (he : SE X e me) (hl : SO X lo ml) (hu : SO X hi mu) : SE X (.Subscript e (.Slice lo hi none p2) pos) (eSl f me ml mu) := by
  refine pe_weak (pe_slice hr he hl hu) fun σ H Q ⟨G, ρ, F, r0, ρ', W, hm, q⟩ => ?_
  unfold eSl at hm
  obtain ⟨⟨x, ρ1⟩, e1, hm⟩ := Option.bind_eq_some_iff.mp hm
  obtain ⟨⟨l, ρ2⟩, e2, hm⟩ := Option.bind_eq_some_iff.mp hm
  obtain ⟨⟨u, ρ3⟩, e3, hm⟩ := Option.bind_eq_some_iff.mp hm
  obtain ⟨dx, e4, hm⟩ := Option.bind_eq_some_iff.mp hm
  obtain ⟨dz, e5, hm⟩ := Option.bind_eq_some_iff.mp hm
  cases hm
  refine tm_use W e1 fun v H1 F1 s1 R1 => ?_
  refine ⟨G, ρ1, F1, l, ρ2, s1.wd, e2, fun H2 F2 s2 => ⟨G, ρ2, F2, u, ρ3, s2.wd, e3, fun H3 F3 s3 => ?_⟩⟩
  refine hf H3 F3 v dx dz l u s3.wd.sub (vw_of s3.wd ((R1.ste s2).ste s3) e4) e5 _ fun w H' F' A R => ?_
  exact q w H' F' (((s1.trans s2).trans s3).trans (s3.wd.alc A)) R

/-! ### built-ins and methods -/
variable {x : Str} {id T : String} {es : List Expr} {ms : M (List Vl)} {p : Pos} {r : List V → Hp → VK → Prop} {f : List D → Option D}
theorem se_blt (hc : CallR X (.builtin id) r) (hf : CallS X.K r f) (hg : Gl X x) (hm : X.mg x = none) (hv : bootBuiltins x = some (.builtin id)) (ha : SA X (e :: es) ms) (hn : x ≠ "__name__" := by decide) (hdb : (x == ("__debug__" : Str)) = false := by decide)
    (he : starEach (e :: es) X.env = (false, eval e X.env) :: starEach es X.env := by rfl) (hpl : (backTo pos (starEach es X.env)).any (·.1) = false := by rfl) : SE X (.Call (.Name x p) (e :: es) [] pos) (eBlt f ms) :=
  pe_weak (pe_callB hc hg hm hv ha hn hdb he hpl) fun _ _ _ h => tcb_of hf h
theorem se_ty (hc : CallR X (.type T) r) (hf : CallS X.K r f) (hg : Gl X x) (hm : X.mg x = none) (hv : bootBuiltins x = some (.type T)) (ha : SA X (e :: es) ms) (hn : x ≠ "__name__" := by decide) (hdb : (x == ("__debug__" : Str)) = false := by decide)
    (he : starEach (e :: es) X.env = (false, eval e X.env) :: starEach es X.env := by rfl) (hpl : (backTo pos (starEach es X.env)).any (·.1) = false := by rfl) : SE X (.Call (.Name x p) (e :: es) [] pos) (eBlt f ms) :=
  pe_weak (pe_callTy hc hg hm hv ha hn hdb he hpl) fun _ _ _ h => tcb_of hf h
/-- o.m(a, ..), m a method of a built-in type; the object a text -/
def eMet (f : D → List D → Option D) (o : M Vl) (a : M (List Vl)) : M Vl := fun ρ => (o ρ).bind fun p => (a p.2).bind fun q => (look q.2 (stl p.1)).bind fun x => (looks q.2 q.1).bind fun xs => (f x xs).bind fun z => some (.fz z, q.2)
def MetS (K : PySem.W.Frag) (r : V → List V → Hp → VK → Prop) (f : D → List D → Option D) : Prop :=
  ∀ (H F : Hp) (v : V) (vs : List V) (x : D) (xs : List D) (z : D), Same F H → Vw K H F v x → Vws K H F vs xs → f x xs = some z → ∀ Q : VK, (∀ w H' F', Alc F H F' H' → Rep K F' w z → Q w H') → r v vs H Q
theorem look_str {ρ : Rho} {r : Vl} {s : List Nat} (h : look ρ (stl r) = some (.str s)) : stl r = .fz (.str s) := by
  cases r with
  | fz x => cases h; rfl
  | fr xs => cases h
  | bw i =>
    simp only [stl, look] at h
    split at h <;> cases h
theorem tmet_of {K : PySem.W.Frag} {mo : M Vl} {r : V → List V → Hp → VK → Prop} {f : D → List D → Option D} (hT : ∀ x xs z, f x xs = some z → ∃ s, x = .str s) (hf : MetS K r f) {σ : L2.St} {H : Hp} {Q : VK} (h : tM K (eMet f mo ms) σ H Q) :
    tM K mo σ H fun x H1 => tyV K "str" x H1 ∧ tMA K ms σ H1 fun xs H2 => r x xs H2 Q := by
  obtain ⟨G, ρ, F, r0, ρ', W, hm, q⟩ := h
  unfold eMet at hm
  obtain ⟨⟨x, ρ1⟩, e1, hm⟩ := Option.bind_eq_some_iff.mp hm
  obtain ⟨⟨y, ρ2⟩, e2, hm⟩ := Option.bind_eq_some_iff.mp hm
  obtain ⟨dx, e3, hm⟩ := Option.bind_eq_some_iff.mp hm
  obtain ⟨dxs, e4, hm⟩ := Option.bind_eq_some_iff.mp hm
  obtain ⟨dz, e5, hm⟩ := Option.bind_eq_some_iff.mp hm
  cases hm
  refine tm_use W e1 fun v H1 F1 s1 R1 => ?_
  obtain ⟨s, rfl⟩ := hT _ _ _ e5
  have ex := look_str e3
  have Rv : Rep K F1 v (.str s) := by rw [ex] at R1; exact R1
  have ty : tyV K "str" v H1 := by
    cases Rv
    rfl
  refine ⟨ty, ⟨G, ρ1, F1, y, ρ2, s1.wd, e2, fun vs H2 F2 s2 R2 => ?_⟩⟩
  refine hf H2 F2 v vs (.str s) dxs dz s2.wd.sub (vw_rep s2.wd.sub (Rv.mono s2.ff)) (vws_of s2.wd R2 e4) e5 Q fun w H' F' A R => ?_
  exact q w H' F' ((s1.trans s2).trans (s2.wd.alc A)) R
theorem se_met {o : Expr} {mo : M Vl} {name : Str} {apos cpos : Pos} {r : V → List V → Hp → VK → Prop} {f : D → List D → Option D} (slot : Slot "str" name id) (hty : typeOf (.builtin id) = pure (.type "method_descriptor")) (hm : MtR X id r) (hT : ∀ x xs z, f x xs = some z → ∃ s, x = .str s) (hf : MetS X.K r f) (ho : SE X o mo) (ha : SA X (e :: es) ms)
    (hbase : attributeBase o name X.env (eval o X.env) = eval o X.env := by rfl)
    (hfew : ((backTo cpos (starEach (e :: es) X.env)).all (fun x => !x.1) && (backToKw cpos (keywordEach [] X.env)).all (fun x => x.1.isSome)
      && decide ((e :: es).length + ([] : List Keyword).length + (if ([] : List Keyword).isEmpty then 0 else 1) < 30)) = true := by rfl)
    (hline : (apos.endLine == cpos.line) = true := by rfl) (hs : starEach (e :: es) X.env = (false, eval e X.env) :: starEach es X.env := by rfl) (hplain : (backTo cpos (starEach es X.env)).any (·.1) = false := by rfl) :
    SE X (.Call (.Attribute o name apos) (e :: es) [] cpos) (eMet f mo ms) :=
  pe_weak (pe_bm PySem.F.plainAttrs_str slot hty hm ho ha hbase hfew hline hs hplain) fun _ _ _ h => tmet_of hT hf h
theorem se_met0 {o : Expr} {mo : M Vl} {name : Str} {apos cpos : Pos} {r : V → List V → Hp → VK → Prop} {f : D → List D → Option D} (slot : Slot "str" name id) (hty : typeOf (.builtin id) = pure (.type "method_descriptor")) (hm : MtR X id r) (hT : ∀ x xs z, f x xs = some z → ∃ s, x = .str s) (hf : MetS X.K r f) (ho : SE X o mo)
    (hbase : attributeBase o name X.env (eval o X.env) = eval o X.env := by rfl) (hline : (apos.endLine == cpos.line) = true := by rfl) : SE X (.Call (.Attribute o name apos) [] [] cpos) (eMet f mo aNil) := by
  refine pe_weak (pe_bm0 PySem.F.plainAttrs_str slot hty hm ho hbase hline) fun σ H Q h => ?_
  obtain ⟨G, ρ, F, r0, ρ', W, hm, q⟩ := tmet_of hT hf h
  refine ⟨G, ρ, F, r0, ρ', W, hm, fun v H' F' s R => ?_⟩
  obtain ⟨h1, G1, ρ1, F1, r1, ρ1', W1, hm1, q1⟩ := q v H' F' s R
  cases hm1
  exact ⟨h1, q1 [] H' F1 (Ste.refl W1) trivial⟩
end

/-! ### calls of defs -/
/-- an argument: a datum, or a list that the def may change -/
inductive Ag where
  | da (x : D) | li (xs : List D)
abbrev Fn := List Ag → Option (Vl × List (List D))
def liA : List V → List Ag → List Addr
  | .ref a :: vs, .li _ :: gs => a :: liA vs gs
  | _ :: vs, _ :: gs => liA vs gs
  | _, _ => []
def AgsR (K : PySem.W.Frag) (F H : Hp) : List V → List Ag → Prop
  | [], [] => True
  | v :: vs, .da x :: gs => Rep K F v x ∧ AgsR K F H vs gs
  | v :: vs, .li xs :: gs => (∃ a us, v = .ref a ∧ H a = some (.lst us) ∧ Reps K F us xs ∧ F a = none) ∧ AgsR K F H vs gs
  | _, _ => False
def OutsR (K : PySem.W.Frag) (F H : Hp) : List Addr → List (List D) → Prop
  | [], [] => True
  | a :: as, xs :: os => (∃ us, H a = some (.lst us) ∧ Reps K F us xs ∧ F a = none) ∧ OutsR K F H as os
  | _, _ => False
def ResR (K : PySem.W.Frag) (P F H : Hp) (v : V) : Vl → Prop
  | .fz x => Rep K F v x
  | .fr xs => ∃ a us, v = .ref a ∧ H a = some (.lst us) ∧ Reps K F us xs ∧ F a = none ∧ P a = none
  | .bw _ => False
def spF (K : PySem.W.Frag) (n : Nat) (f : Fn) : Sp := fun vs H Q _ => vs.length = n ∧ ∃ (F : Hp) (gs : List Ag) (r : Vl) (os : List (List D)), Same F H ∧ AgsR K F H vs gs ∧ (liA vs gs).Nodup ∧ f gs = some (r, os) ∧ ∀ v H' F',
  Same F F' → Same F' H' → (∀ b o, H b = some o → b ∉ liA vs gs → H' b = some o) → (∀ b, F' b ≠ none → F b ≠ none ∨ H b = none) → OutsR K F' H' (liA vs gs) os → ResR K H F' H' v r → Q v H'

/-- the arguments of a call: data, or the number of the slot whose list is handed in -/
def ag1 : List Bool → List Vl → Rho → Option (List (D ⊕ Nat) × Rho)
  | _, [], ρ => some ([], ρ)
  | fs, r :: rs, ρ => if fs.headD false = true then (match r with
    | .bw i => (ag1 fs.tail rs ρ).bind fun p => some (.inr i :: p.1, p.2)
    | _ => none) else (frz ρ r).bind fun p => (ag1 fs.tail rs p.2).bind fun q => some (.inl p.1 :: q.1, q.2)
def own? (ρ : Rho) (i : Nat) : Option (List D) := match ρ[i]? with
  | some (.ow xs) => some xs
  | some (.io xs) => some xs
  | _ => none
def ag2 (ρ : Rho) : List (D ⊕ Nat) → Option (List Ag)
  | [] => some []
  | .inl x :: r => (ag2 ρ r).bind fun gs => some (.da x :: gs)
  | .inr i :: r => (own? ρ i).bind fun xs => (ag2 ρ r).bind fun gs => some (.li xs :: gs)
def agI : List (D ⊕ Nat) → List Nat
  | [] => []
  | .inl _ :: r => agI r
  | .inr i :: r => i :: agI r
def put (ρ : Rho) (i : Nat) (xs : List D) : Rho := match ρ[i]? with
  | some (.ow _) => ρ.set i (.ow xs)
  | some (.io _) => ρ.set i (.io xs)
  | _ => ρ
def puts : Rho → List Nat → List (List D) → Rho
  | ρ, i :: is, xs :: os => puts (put ρ i xs) is os
  | ρ, _, _ => ρ
def eCall (f : Fn) (fs : List Bool) (a : M (List Vl)) : M Vl := fun ρ => (a ρ).bind fun p => (ag1 fs p.1 p.2).bind fun q => (ag2 q.2 q.1).bind fun gs => if (agI q.1).Nodup then (f gs).bind fun z => match z.1 with
  | .bw _ => none
  | w => some (w, puts q.2 (agI q.1) z.2) else none

def TsR (K : PySem.W.Frag) (σ : L2.St) (F : Hp) : List V → List (D ⊕ Nat) → Prop
  | [], [] => True
  | v :: vs, .inl x :: r => Rep K F v x ∧ TsR K σ F vs r
  | v :: vs, .inr i :: r => σ[i]? = some (some v) ∧ TsR K σ F vs r
  | _, _ => False
section
variable {K : PySem.W.Frag} {G : Gd} {σ : L2.St} {H : Hp}
theorem ag1_frz {fs : List Bool} {r : Vl} {rs : List Vl} {v : V} {vs : List V} {ts : List (D ⊕ Nat)} {ρ ρ' : Rho} {F : Hp}
    (ih : ∀ {vs : List V} {ts : List (D ⊕ Nat)} {ρ ρ' : Rho} {F : Hp}, Wd K G ρ σ H F → VlSs K σ F vs rs → ag1 fs rs ρ = some (ts, ρ') → ∃ F', Ste K G ρ σ H F ρ' H F' ∧ TsR K σ F' vs ts)
    (W : Wd K G ρ σ H F) (h : VlSs K σ F (v :: vs) (r :: rs)) (e : ((frz ρ r).bind fun p => (ag1 fs rs p.2).bind fun q => some (.inl p.1 :: q.1, q.2)) = some (ts, ρ')) : ∃ F', Ste K G ρ σ H F ρ' H F' ∧ TsR K σ F' (v :: vs) ts := by
  obtain ⟨⟨x, ρ1⟩, e1, e⟩ := Option.bind_eq_some_iff.mp e
  obtain ⟨⟨ys, ρ2⟩, e2, e⟩ := Option.bind_eq_some_iff.mp e
  cases e
  obtain ⟨F1, s1, R1⟩ := frz_ok W h.1 e1
  obtain ⟨F2, s2, R2⟩ := ih s1.wd (h.2.ste s1) e2
  exact ⟨F2, s1.trans s2, R1.mono s2.ff, R2⟩
theorem ag1_ok : ∀ {rs : List Vl} {fs : List Bool} {vs : List V} {ts : List (D ⊕ Nat)} {ρ ρ' : Rho} {F : Hp}, Wd K G ρ σ H F → VlSs K σ F vs rs → ag1 fs rs ρ = some (ts, ρ') → ∃ F', Ste K G ρ σ H F ρ' H F' ∧ TsR K σ F' vs ts
  | [], fs, [], ts, ρ, ρ', F, W, _, e => by
    unfold ag1 at e
    cases e
    exact ⟨F, Ste.refl W, trivial⟩
  | [], _, _ :: _, _, _, _, _, _, h, _ => h.elim
  | _ :: _, _, [], _, _, _, _, _, h, _ => h.elim
  | r :: rs, fs, v :: vs, ts, ρ, ρ', F, W, h, e => by
    unfold ag1 at e
    split at e
    · cases r with
      | bw i =>
        obtain ⟨⟨ys, ρ2⟩, e2, e⟩ := Option.bind_eq_some_iff.mp e
        cases e
        obtain ⟨F2, s2, R2⟩ := ag1_ok W h.2 e2
        exact ⟨F2, s2, h.1, R2⟩
      | fz x => cases e
      | fr x => exact h.1.elim
    · exact ag1_frz (fs := fs.tail) ag1_ok W h e

theorem own_sl {ρ : Rho} {i : Nat} {xs : List D} (h : own? ρ i = some xs) : ρ[i]? = some (.ow xs) ∨ ρ[i]? = some (.io xs) := by
  unfold own? at h
  split at h
  · cases h; rename_i e; exact .inl e
  · cases h; rename_i e; exact .inr e
  · cases h
theorem ag2_ok {ρ : Rho} {F : Hp} (W : Wd K G ρ σ H F) : ∀ {ts : List (D ⊕ Nat)} {vs : List V} {gs : List Ag}, TsR K σ F vs ts → ag2 ρ ts = some gs →
    AgsR K F H vs gs ∧ (liA vs gs).length = (agI ts).length ∧ ∀ (k i : Nat) (a : Addr), (agI ts)[k]? = some i → (liA vs gs)[k]? = some a → Ow ρ σ i a
  | [], [], gs, _, e => by
    cases e
    exact ⟨trivial, rfl, fun k i a h _ => by simp [agI] at h⟩
  | [], _ :: _, _, h, _ => h.elim
  | .inl _ :: _, [], _, h, _ => h.elim
  | .inr _ :: _, [], _, h, _ => h.elim
  | .inl x :: ts, v :: vs, gs, h, e => by
    unfold ag2 at e
    obtain ⟨g2, e2, e⟩ := Option.bind_eq_some_iff.mp e
    cases e
    obtain ⟨h1, h2, h3⟩ := ag2_ok W h.2 e2
    have q : liA (v :: vs) (.da x :: g2) = liA vs g2 := by cases v <;> rfl
    exact ⟨⟨h.1, h1⟩, by rw [q]; exact h2, by rw [q]; exact h3⟩
  | .inr i :: ts, v :: vs, gs, h, e => by
    unfold ag2 at e
    obtain ⟨xs, e1, e⟩ := Option.bind_eq_some_iff.mp e
    obtain ⟨g2, e2, e⟩ := Option.bind_eq_some_iff.mp e
    cases e
    obtain ⟨h1, h2, h3⟩ := ag2_ok W h.2 e2
    have hv := h.1
    have sl := own_sl e1
    have key : ∃ a us, v = .ref a ∧ H a = some (.lst us) ∧ Reps K F us xs ∧ F a = none := by
      rcases sl with q | q
      · obtain ⟨a, us, z, p1, p2, p3, _⟩ := W.sl i _ q
        rw [hv] at z; cases z
        exact ⟨a, us, rfl, p1, p2, p3⟩
      · obtain ⟨a, us, z, p1, p2, p3, _⟩ := W.sl i _ q
        rw [hv] at z; cases z
        exact ⟨a, us, rfl, p1, p2, p3⟩
    obtain ⟨a, us, rfl, p1, p2, p3⟩ := key
    refine ⟨⟨⟨a, us, rfl, p1, p2, p3⟩, h1⟩, ?_, fun k j b q1 q2 => ?_⟩
    · show (a :: liA vs g2).length = (i :: agI ts).length
      rw [List.length_cons, List.length_cons, h2]
    · cases k with
      | zero =>
        have q1 : some i = some j := q1
        have q2 : some a = some b := q2
        cases q1; cases q2
        exact ⟨⟨xs, sl⟩, hv⟩
      | succ k => exact h3 k j b q1 q2
theorem put_len (ρ : Rho) (i : Nat) (xs : List D) : (put ρ i xs).length = ρ.length := by
  unfold put
  split <;> simp
theorem puts_len : ∀ (is : List Nat) (os : List (List D)) (ρ : Rho), (puts ρ is os).length = ρ.length
  | [], _, ρ => by unfold puts; rfl
  | _ :: _, [], ρ => by unfold puts; rfl
  | i :: is, xs :: os, ρ => by
    show (puts (put ρ i xs) is os).length = ρ.length
    rw [puts_len is os, put_len]
theorem put_ne {ρ : Rho} {i j : Nat} {xs : List D} (h : j ≠ i) : (put ρ i xs)[j]? = ρ[j]? := by
  unfold put
  split
  · rw [List.getElem?_set_ne (Ne.symm h)]
  · rw [List.getElem?_set_ne (Ne.symm h)]
  · rfl
theorem put_self {ρ : Rho} {i : Nat} {xs ys : List D} : (ρ[i]? = some (.ow ys) → (put ρ i xs)[i]? = some (.ow xs)) ∧ (ρ[i]? = some (.io ys) → (put ρ i xs)[i]? = some (.io xs)) := by
  constructor
  · intro h
    have hi := (List.getElem?_eq_some_iff.mp h).1
    unfold put
    rw [h]
    exact List.getElem?_set_self hi
  · intro h
    have hi := (List.getElem?_eq_some_iff.mp h).1
    unfold put
    rw [h]
    exact List.getElem?_set_self hi
theorem puts_ne : ∀ {is : List Nat} {os : List (List D)} {ρ : Rho} {j : Nat}, j ∉ is → (puts ρ is os)[j]? = ρ[j]?
  | [], _, ρ, j, _ => by unfold puts; rfl
  | _ :: _, [], ρ, j, _ => by unfold puts; rfl
  | i :: is, xs :: os, ρ, j, h => by
    show (puts (put ρ i xs) is os)[j]? = ρ[j]?
    rw [puts_ne fun z => h (List.mem_cons_of_mem _ z), put_ne fun z => h (by rw [z]; exact List.mem_cons_self)]
theorem puts_at : ∀ {is : List Nat} {os : List (List D)} {ρ : Rho} {k j : Nat} {xs : List D}, is.Nodup → is[k]? = some j → os[k]? = some xs → ∀ ys, (ρ[j]? = some (.ow ys) → (puts ρ is os)[j]? = some (.ow xs)) ∧ (ρ[j]? = some (.io ys) → (puts ρ is os)[j]? = some (.io xs))
  | [], _, _, _, _, _, _, h, _, _ => by simp at h
  | _ :: _, [], _, _, _, _, _, _, h, _ => by simp at h
  | i :: is, zs :: os, ρ, 0, j, xs, nd, h1, h2, ys => by
    simp at h1 h2
    subst h1; subst h2
    have nj := (List.nodup_cons.mp nd).1
    show (_ → (puts (put ρ i zs) is os)[i]? = _) ∧ (_ → (puts (put ρ i zs) is os)[i]? = _)
    rw [puts_ne nj]
    exact put_self
  | i :: is, zs :: os, ρ, k + 1, j, xs, nd, h1, h2, ys => by
    have ni := (List.nodup_cons.mp nd).1
    have h1 : is[k]? = some j := by simpa using h1
    have h2 : os[k]? = some xs := by simpa using h2
    have ne : j ≠ i := fun z => ni (by rw [← z]; exact List.mem_of_getElem? h1)
    have q := puts_at (ρ := put ρ i zs) (List.nodup_cons.mp nd).2 h1 h2 ys
    rw [put_ne ne] at q
    exact q
theorem OutsR.get {F : Hp} : ∀ {as : List Addr} {os : List (List D)} {k : Nat} {a : Addr}, OutsR K F H as os → as[k]? = some a → ∃ xs, os[k]? = some xs ∧ ∃ us, H a = some (.lst us) ∧ Reps K F us xs ∧ F a = none
  | [], _, _, _, _, h => by simp at h
  | _ :: _, [], _, _, h, _ => h.elim
  | b :: as, xs :: os, 0, a, h, e => by
    simp at e; subst e
    exact ⟨xs, rfl, h.1⟩
  | b :: as, xs :: os, k + 1, a, h, e => by
    obtain ⟨ys, e1, e2⟩ := OutsR.get (k := k) h.2 (by simpa using e)
    exact ⟨ys, by simpa using e1, e2⟩
/-- behind a call -/
theorem after_call {ρ : Rho} {F F' H' : Hp} {is : List Nat} {as : List Addr} {os : List (List D)} (W : Wd K G ρ σ H F) (nd : is.Nodup) (hl : as.length = is.length) (ow : ∀ (k i : Nat) (a : Addr), is[k]? = some i → as[k]? = some a → Ow ρ σ i a)
    (ff : Same F F') (sub : Same F' H') (kp : ∀ b o, H b = some o → b ∉ as → H' b = some o) (nf : ∀ b, F' b ≠ none → F b ≠ none ∨ H b = none) (outs : OutsR K F' H' as os) : Ste K G ρ σ H F (puts ρ is os) H' F' := by
  have memO : ∀ b, b ∈ as → ∃ i, Ow ρ σ i b := fun b hb => by
    obtain ⟨k, hk, e⟩ := List.mem_iff_getElem.mp hb
    have hk2 : k < is.length := by omega
    exact ⟨is[k], ow k is[k] b (List.getElem?_eq_getElem hk2) (by rw [List.getElem?_eq_getElem hk, e])⟩
  have tr : ∀ b, H b ≠ none → H' b ≠ none := fun b h => by
    by_cases hb : b ∈ as
    · obtain ⟨k, hk, e⟩ := List.mem_iff_getElem.mp hb
      obtain ⟨xs, _, us, z, _⟩ := outs.get (k := k) (a := b) (by rw [List.getElem?_eq_getElem hk, e])
      rw [z]; simp
    · cases e : H b with
      | none => exact absurd e h
      | some o => rw [kp b o e hb]; simp
  have fn : ∀ {a : Addr} {vs : List V}, H a = some (.lst vs) → F a = none → F' a = none := fun {a vs} h1 h2 => by
    cases e : F' a with
    | none => rfl
    | some o =>
      rcases nf a (by rw [e]; simp) with q | q
      · exact absurd h2 q
      · rw [h1] at q; cases q
  -- a slot behind the call
  have slot : ∀ j s, (puts ρ is os)[j]? = some s → SlR K G σ H' F' j s ∧ ∀ a, Ow (puts ρ is os) σ j a → Ow ρ σ j a := fun j s hs => by
    by_cases hj : j ∈ is
    · obtain ⟨k, hk, e⟩ := List.mem_iff_getElem.mp hj
      have hk2 : k < as.length := by omega
      have ik : is[k]? = some j := by rw [List.getElem?_eq_getElem hk, e]
      have o := ow k j as[k] ik (List.getElem?_eq_getElem hk2)
      obtain ⟨xs, ox, us, u1, u2, u3⟩ := outs.get (List.getElem?_eq_getElem hk2)
      obtain ⟨⟨ys, q⟩, q2⟩ := id o
      have pa := puts_at (ρ := ρ) nd ik ox ys
      rcases q with q | q
      · have z := pa.1 q
        rw [hs] at z; cases z
        obtain ⟨a, vs, e1, e2, _, e4, e5⟩ := W.sl j _ q
        rw [q2] at e1
        cases e1
        exact ⟨⟨_, us, q2, u1, u2, u3, e5⟩, fun b ob => ⟨⟨ys, .inl q⟩, ob.2⟩⟩
      · have z := pa.2 q
        rw [hs] at z; cases z
        obtain ⟨a, vs, e1, e2, _, e4, e5⟩ := W.sl j _ q
        rw [q2] at e1
        cases e1
        exact ⟨⟨_, us, q2, u1, u2, u3, e5⟩, fun b ob => ⟨⟨ys, .inr q⟩, ob.2⟩⟩
    · have eq : (puts ρ is os)[j]? = ρ[j]? := puts_ne hj
      rw [eq] at hs
      refine ⟨?_, fun a ob => by
        obtain ⟨⟨ys, o1⟩, o2⟩ := ob
        rw [eq] at o1
        exact ⟨⟨ys, o1⟩, o2⟩⟩
      have q := W.sl j s hs
      have na : ∀ {a : Addr} {ys : List D}, (ρ[j]? = some (.ow ys) ∨ ρ[j]? = some (.io ys)) → σ[j]? = some (some (.ref a)) → a ∉ as := fun {a ys} h1 h2 hm => by
        obtain ⟨k, hk, e⟩ := List.mem_iff_getElem.mp hm
        have hk2 : k < is.length := by omega
        have o := ow k is[k] a (List.getElem?_eq_getElem hk2) (by rw [List.getElem?_eq_getElem hk, e])
        have z := W.ap j is[k] a ⟨⟨ys, h1⟩, h2⟩ o
        exact hj (by rw [z]; exact List.getElem_mem hk2)
      cases s with
      | no => trivial
      | xa b dx f => exact ⟨q.1, q.2.mono ff⟩
      | d x => obtain ⟨v, e, r⟩ := q; exact ⟨v, e, r.mono ff⟩
      | ow ys => obtain ⟨a, vs, e, p1, p2, p3, p4⟩ := q; exact ⟨a, vs, e, kp a _ p1 (na (.inl hs) e), p2.mono ff, fn p1 p3, p4⟩
      | io ys => obtain ⟨a, vs, e, p1, p2, p3, p4⟩ := q; exact ⟨a, vs, e, kp a _ p1 (na (.inr hs) e), p2.mono ff, fn p1 p3, p4⟩
  have oo : ∀ i a, Ow (puts ρ is os) σ i a → Ow ρ σ i a := fun i a o => by
    obtain ⟨⟨ys, o1⟩, o2⟩ := id o
    rcases o1 with o1 | o1
    · exact (slot i _ o1).2 a o
    · exact (slot i _ o1).2 a o
  refine ⟨⟨by rw [puts_len]; exact W.len, W.gl, sub, W.f0.trans ff, fun b o h q => ?_, fun b h => ?_, fun b h => tr b (W.it b h), fun j s h => (slot j s h).1, fun i j a o1 o2 => W.ap i j a (oo i a o1) (oo j a o2), fun i a z => ?_⟩, ff, fun b o h n => kp b o h fun hm => ?_, fun b h => (nf b h).elim .inl fun q => .inr (.inl q), oo, tr⟩
  · refine kp b o (W.kp b o h q) fun hm => ?_
    obtain ⟨i, ob⟩ := memO b hm
    obtain ⟨⟨ys, o1⟩, o2⟩ := ob
    rcases o1 with o1 | o1
    · obtain ⟨a, vs, e1, _, _, _, e5⟩ := W.sl i _ o1
      rw [o2] at e1; cases e1
      rw [h] at e5; cases e5
    · obtain ⟨a, vs, e1, _, _, _, e5⟩ := W.sl i _ o1
      rw [o2] at e1; cases e1
      exact q (List.mem_map_of_mem (f := (·.2)) e5)
  · rcases nf b h with q | q
    · exact W.nw b q
    · exact .inr (W.h0 q)
  · obtain ⟨⟨ys, z1⟩, z2⟩ := W.ai i a z
    refine ⟨?_, z2⟩
    by_cases hj : i ∈ is
    · obtain ⟨k, hk, e⟩ := List.mem_iff_getElem.mp hj
      have hk2 : k < as.length := by omega
      obtain ⟨xs, ox, _⟩ := outs.get (List.getElem?_eq_getElem hk2)
      exact ⟨xs, (puts_at nd (by rw [List.getElem?_eq_getElem hk, e]) ox ys).2 z1⟩
    · exact ⟨ys, by rw [puts_ne hj]; exact z1⟩
  · obtain ⟨i, ob⟩ := memO b hm
    exact n i ob
end

section
variable {X : Cx} {e : Expr} {es : List Expr} {ms : M (List Vl)} {f : Fn} {fs : List Bool} {x : Str} {p pos : Pos} {fa : Addr} {fd : FuncData} {ps : List Str} {k n : Nat}
theorem VlSs.len {K : PySem.W.Frag} {σ : L2.St} {F : Hp} : ∀ {vs : List V} {rs : List Vl}, VlSs K σ F vs rs → vs.length = rs.length
  | [], [], _ => rfl
  | [], _ :: _, h => h.elim
  | _ :: _, [], h => h.elim
  | _ :: _, _ :: _, h => by rw [List.length_cons, List.length_cons, VlSs.len h.2]
theorem AgsR.len {K : PySem.W.Frag} {F H : Hp} : ∀ {vs : List V} {gs : List Ag}, AgsR K F H vs gs → vs.length = gs.length
  | [], [], _ => rfl
  | [], .da _ :: _, h => h.elim
  | [], .li _ :: _, h => h.elim
  | _ :: _, [], h => h.elim
  | _ :: _, .da _ :: _, h => by rw [List.length_cons, List.length_cons, AgsR.len h.2]
  | _ :: _, .li _ :: _, h => by rw [List.length_cons, List.length_cons, AgsR.len h.2]
theorem tcall_core {K : PySem.W.Frag} {G : Gd} {ρ ρ' : Rho} {F : Hp} {r0 : Vl} {E : XK} (hn : ∀ gs z, f gs = some z → gs.length = n) {σ : L2.St} {H : Hp} {Q : VK} (W : Wd K G ρ σ H F) (hm : eCall f fs ms ρ = some (r0, ρ'))
    (q : ∀ v H' F', Ste K G ρ σ H F ρ' H' F' → VlR K G H ρ' σ H' F' v r0 → Q v H') : ∃ rs ρ1, ms ρ = some (rs, ρ1) ∧ ∀ vs H1 F1, Ste K G ρ σ H F ρ1 H1 F1 → VlSs K σ F1 vs rs → spF K n f vs H1 Q E := by
  unfold eCall at hm
  obtain ⟨⟨rs, ρ1⟩, e1, hm⟩ := Option.bind_eq_some_iff.mp hm
  obtain ⟨⟨ts, ρ2⟩, e2, hm⟩ := Option.bind_eq_some_iff.mp hm
  obtain ⟨gs, e3, hm⟩ := Option.bind_eq_some_iff.mp hm
  split at hm
  · rename_i nd
    obtain ⟨⟨z, os⟩, e4, hm⟩ := Option.bind_eq_some_iff.mp hm
    refine ⟨rs, ρ1, e1, fun vs H1 F1 s1 R1 => ?_⟩
    obtain ⟨F2, s2, R2⟩ := ag1_ok s1.wd R1 e2
    obtain ⟨A1, A2, A3⟩ := ag2_ok s2.wd R2 e3
    have s12 := s1.trans s2
    refine ⟨by rw [A1.len]; exact hn _ _ e4, F2, gs, z, os, s2.wd.sub, A1, ?_, e4, fun v H' F' ff sub kp nf outs res => ?_⟩
    · rw [List.nodup_iff_pairwise_ne, List.pairwise_iff_getElem]
      intro i j hi hj hij e
      have o1 := A3 i (agI ts)[i] (liA vs gs)[i] (List.getElem?_eq_getElem (by omega)) (List.getElem?_eq_getElem hi)
      have o2 := A3 j (agI ts)[j] (liA vs gs)[j] (List.getElem?_eq_getElem (by omega)) (List.getElem?_eq_getElem hj)
      rw [← e] at o2
      have eq := s2.wd.ap _ _ _ o1 o2
      have := (List.getElem_inj nd).mp eq
      omega
    · have s3 := after_call s2.wd nd A2 A3 ff sub kp nf outs
      have s13 := s12.trans s3
      cases z with
      | fz x => cases hm; exact q v H' F' s13 res
      | bw i => cases hm
      | fr xs =>
        cases hm
        obtain ⟨a, us, e5, u1, u2, u3, u4⟩ := res
        refine q v H' F' s13 ⟨a, us, e5, u1, u2, u3, s12.back a u4, fun i o => ?_⟩
        obtain ⟨_, z, _⟩ := s12.wd.ow_there (s3.oo i a o)
        rw [u4] at z; cases z
  · cases hm
theorem tcall_of {K : PySem.W.Frag} {dvs : List V} {E : XK} (hn : ∀ gs z, f gs = some z → gs.length = n) {σ : L2.St} {H : Hp} {Q : VK} (h : tM K (eCall f fs ms) σ H Q) : tCall (spF K n f) [] E (tMA K ms) σ H Q := by
  obtain ⟨G, ρ, F, r0, ρ', W, hm, q⟩ := h
  obtain ⟨rs, ρ1, e1, w⟩ := tcall_core (E := E) hn W hm q
  exact ⟨G, ρ, F, rs, ρ1, W, e1, fun vs H1 F1 s1 R1 => by show spF K n f (vs ++ []) H1 Q E; rw [List.append_nil]; exact w vs H1 F1 s1 R1⟩
theorem se_call (F : FnOk X.prog X.w X.K X.mg X.base CX0 k fa fd ps (spF X.K n f)) (hn : ∀ gs z, f gs = some z → gs.length = n) (hr : Room k X.A) (hm : X.mg x = some (.ref fa)) (hk : PySem.W.keepIn X.K (.ref fa) = true) (hb : Binds X.K fd ps []) (hg : Gl X x)
    (ha : SA X (e :: es) ms) (hdb : (x == ("__debug__" : Str)) = false := by decide) (he : starEach (e :: es) X.env = (false, eval e X.env) :: starEach es X.env := by rfl) (hpl : (backTo pos (starEach es X.env)).any (·.1) = false := by rfl) :
    SE X (.Call (.Name x p) (e :: es) [] pos) (eCall f fs ms) := pe_weak (pe_call F hr hg hm hk hb .nil pass0 ha hdb he hpl) fun _ _ _ h => tcall_of (dvs := []) hn h
theorem se_call0 (F : FnOk X.prog X.w X.K X.mg X.base CX0 k fa fd ps (spF X.K n f)) (hn : ∀ gs z, f gs = some z → gs.length = n) (hr : Room k X.A) (hm : X.mg x = some (.ref fa)) (hk : PySem.W.keepIn X.K (.ref fa) = true) (hb : Binds X.K fd ps []) (hg : Gl X x)
    (hdb : (x == ("__debug__" : Str)) = false := by decide) : SE X (.Call (.Name x p) [] [] pos) (eCall f fs aNil) := pe_weak (pe_call0 F hr hg hm hk hb .nil pass0 hdb) fun σ H Q h => by
  obtain ⟨G, ρ, F, r, ρ', W, hm, q⟩ := tcall_of (dvs := []) (E := E0) hn h
  cases hm
  exact q [] H F (Ste.refl W) trivial
end
end Sw
namespace Sw
open PySem PySem.Spec PyProof.Rows L2

/-- an exception of a class of the program: its class by name, its one field (none: without a dict of its own) -/
structure Exn where
  c : PySem.Str
  f : Option (PySem.Str × D)
def ExR (K : PySem.W.Frag) (F : Hp) (cls : Value) (d : Option Addr) (x : Exn) : Prop := ∃ C, ClsN K x.c C ∧ cls = .ref C ∧ (x.f = none → d = none) ∧ (x.f ≠ none → ∃ dx, d = some dx ∧ XaR K F dx x.f)
inductive Fl where
  | nx | rt (v : Vl) | bk | ct
  /-- an exception goes out -/
  | ex (x : Exn)
abbrev S := Rho → Option (Fl × Rho)
/-- what is wanted of an exception that goes out: nothing is promised -/
def WF : WX := fun _ _ _ _ => False
def EdR (K : PySem.W.Frag) (Wx : WX) (G : Gd) (D : Ends) (fl : Fl) (ρ' : Rho) (F : Hp) : Prop := ∀ (σ' : L2.St) (H' F' : Hp), Wd K G ρ' σ' H' F' → Same F F' → match fl with
  | .nx => D.nx σ' H'
  | .bk => D.bk σ' H'
  | .ct => D.ct σ' H'
  | .rt r => ∀ v, ResR K G.H0 F' H' v r → D.rt v H'
  | .ex x => ∀ cls d, ExR K F' cls d x → Wx cls d σ' H'
def tSW (K : PySem.W.Frag) (Wx : WX) (m : S) : TS := fun D σ H => ∃ G ρ F fl ρ', Wd K G ρ σ H F ∧ m ρ = some (fl, ρ') ∧ EdR K Wx G D fl ρ' F
abbrev SSW (X : Cx) (Wx : WX) (st : Stmt) (m : S) : Prop := PS X st (tSW X.K Wx m)
abbrev SBW (X : Cx) (Wx : WX) (st : List Stmt) (m : S) : Prop := PSs X st (tSW X.K Wx m)
abbrev SB (X : Cx) (st : List Stmt) (m : S) : Prop := SBW X WF st m
theorem ps_weak {X : Cx} {st : Stmt} {t t' : TS} (h : PS X st t) (w : ∀ D σ H, t' D σ H → t D σ H) : PS X st t' := ⟨fun pins s σ H D I q => h.run pins s σ H D I (w _ _ _ q)⟩
theorem pss_weak {X : Cx} {st : List Stmt} {t t' : TS} (h : PSs X st t) (w : ∀ D σ H, t' D σ H → t D σ H) : PSs X st t' := ⟨fun pins s σ H D I q => h.run pins s σ H D I (w _ _ _ q)⟩

def sNx : S := fun ρ => some (.nx, ρ)
def sBk : S := fun ρ => some (.bk, ρ)
def sCt : S := fun ρ => some (.ct, ρ)
def sSeq (a b : S) : S := fun ρ => (a ρ).bind fun p => match p.1 with
  | .nx => b p.2
  | fl => some (fl, p.2)
def sIf (t : M Bool) (a b : S) : S := fun ρ => (t ρ).bind fun p => if p.1 = true then a p.2 else b p.2
def sRet (m : M Vl) : S := fun ρ => (m ρ).bind fun p => match p.1 with
  | .bw i => match p.2[i]? with
    | some (.ow xs) => some (.rt (.fr xs), p.2)
    | _ => none
  | r => some (.rt r, p.2)
def sDrop (m : M Vl) : S := fun ρ => (m ρ).bind fun p => some (.nx, p.2)
/-- a name's slot takes a value -/
def asg (i : Nat) (r : Vl) (ρ : Rho) : Option Rho := match ρ[i]? with
  | some (.io _) => none
  | none => none
  | some _ => match r with
    | .fz x => some (ρ.set i (.d x))
    | .fr xs => some (ρ.set i (.ow xs))
    | .bw j => (frz ρ (.bw j)).bind fun p => some (p.2.set i (.d p.1))
def sAsg (i : Nat) (m : M Vl) : S := fun ρ => (m ρ).bind fun p => (asg i p.1 p.2).bind fun ρ2 => some (.nx, ρ2)

section
variable {K : PySem.W.Frag} {G : Gd} {ρ : Rho} {σ : L2.St} {H F : Hp} {v : V}
theorem Wd.set {i : Nat} {s s0 : Sl} (W : Wd K G ρ σ H F) (h0 : ρ[i]? = some s0) (nio : ∀ xs, s0 ≠ .io xs) (nio2 : ∀ xs, s ≠ .io xs) (hs : SlR K G (σ.set i (some v)) H F i s) (ap : ∀ xs a, s = .ow xs → v = .ref a → ∀ j, ¬ Ow ρ σ j a) : Wd K G (ρ.set i s) (σ.set i (some v)) H F := by
  have hi : i < ρ.length := (List.getElem?_eq_some_iff.mp h0).1
  have hiσ : i < σ.length := by rw [← W.len]; exact hi
  have old : ∀ {j : Nat} {a : Addr}, j ≠ i → Ow (ρ.set i s) (σ.set i (some v)) j a → Ow ρ σ j a := fun {j a} ne o => by
    obtain ⟨⟨ys, o1⟩, o2⟩ := o
    rw [List.getElem?_set_ne (Ne.symm ne)] at o1 o2
    exact ⟨⟨ys, o1⟩, o2⟩
  have new : ∀ {a : Addr}, Ow (ρ.set i s) (σ.set i (some v)) i a → ∀ j, ¬ Ow ρ σ j a := fun {a} o => by
    obtain ⟨⟨ys, o1⟩, o2⟩ := o
    rw [List.getElem?_set_self hi] at o1
    rw [List.getElem?_set_self hiσ] at o2
    cases o2
    rcases o1 with o1 | o1
    · cases o1; exact ap ys a rfl rfl
    · cases o1; exact absurd rfl (nio2 ys)
  refine ⟨by rw [List.length_set, List.length_set]; exact W.len, by rw [List.length_set]; exact W.gl, W.sub, W.f0, W.kp, W.nw, W.it, fun j s' h => ?_, fun j k a o1 o2 => ?_, fun j a z => ?_⟩
  · by_cases ne : j = i
    · subst ne
      rw [List.getElem?_set_self hi] at h
      cases h
      exact hs
    · rw [List.getElem?_set_ne (Ne.symm ne)] at h
      have q := W.sl j s' h
      have eσ : (σ.set i (some v))[j]? = σ[j]? := List.getElem?_set_ne (Ne.symm ne)
      cases s' with
      | no => trivial
      | xa b dx f => exact ⟨eσ.trans q.1, q.2⟩
      | d x => obtain ⟨u, e, r⟩ := q; exact ⟨u, eσ.trans e, r⟩
      | ow ys => obtain ⟨a, us, e, p⟩ := q; exact ⟨a, us, eσ.trans e, p⟩
      | io ys => obtain ⟨a, us, e, p⟩ := q; exact ⟨a, us, eσ.trans e, p⟩
  · by_cases nj : j = i
    · by_cases nk : k = i
      · rw [nj, nk]
      · rw [nj] at o1
        exact absurd (old nk o2) (new o1 k)
    · by_cases nk : k = i
      · rw [nk] at o2
        exact absurd (old nj o1) (new o2 j)
      · exact W.ap j k a (old nj o1) (old nk o2)
  · obtain ⟨⟨ys, z1⟩, z2⟩ := W.ai j a z
    have ne : j ≠ i := fun e => by
      rw [e, h0] at z1
      cases z1
      exact nio ys rfl
    exact ⟨⟨ys, by rw [List.getElem?_set_ne (Ne.symm ne)]; exact z1⟩, by rw [List.getElem?_set_ne (Ne.symm ne)]; exact z2⟩
theorem asg_ok {i : Nat} {r : Vl} {ρ' : Rho} {P : Hp} (W : Wd K G ρ σ H F) (hP : ∀ a, P a = none → G.H0 a = none) (R : VlR K G P ρ σ H F v r) (e : asg i r ρ = some ρ') : ∃ F', Wd K G ρ' (σ.set i (some v)) H F' ∧ Same F F' := by
  unfold asg at e
  split at e
  · cases e
  · cases e
  · rename_i s0 nio h0
    have hi : i < ρ.length := (List.getElem?_eq_some_iff.mp h0).1
    have hiσ : i < σ.length := by rw [← W.len]; exact hi
    have self : (σ.set i (some v))[i]? = some (some v) := List.getElem?_set_self hiσ
    have nio : ∀ xs, s0 ≠ .io xs := fun xs z => nio xs z
    cases r with
    | fz x =>
      cases e
      exact ⟨F, W.set h0 nio (fun _ z => nomatch z) ⟨v, self, R⟩ (fun _ _ z => nomatch z), Same.refl _⟩
    | fr xs =>
      cases e
      obtain ⟨a, vs, rfl, h1, h2, h3, h4, h5⟩ := R
      exact ⟨F, W.set h0 nio (fun _ z => nomatch z) ⟨a, vs, self, h1, h2, h3, hP a h4⟩ (fun ys b _ z => by cases z; exact h5), Same.refl _⟩
    | bw j =>
      obtain ⟨⟨x, ρ1⟩, e1, e⟩ := Option.bind_eq_some_iff.mp e
      cases e
      obtain ⟨F1, s1, R1⟩ := frz_ok W (v := v) (r := .bw j) R e1
      have h0' : ∃ s1, ρ1[i]? = some s1 ∧ ∀ xs, s1 ≠ .io xs := by
        simp only [frz] at e1
        split at e1
        · simp at e1
          obtain ⟨rfl, rfl⟩ := e1
          by_cases q : i = j
          · subst q
            exact ⟨_, List.getElem?_set_self hi, fun _ z => nomatch z⟩
          · exact ⟨s0, by rw [List.getElem?_set_ne (Ne.symm q)]; exact h0, nio⟩
        · cases e1
      obtain ⟨s', hs', nio'⟩ := h0'
      exact ⟨F1, s1.wd.set hs' nio' (fun _ z => nomatch z) ⟨v, self, R1⟩ (fun _ _ z => nomatch z), s1.ff⟩
theorem asg_fz {i : Nat} {x : D} {ρ' : Rho} (W : Wd K G ρ σ H F) (R : Rep K F v x) (e : asg i (.fz x) ρ = some ρ') : Wd K G ρ' (σ.set i (some v)) H F := by
  unfold asg at e
  split at e
  · cases e
  · cases e
  · rename_i s0 nio h0
    have hi : i < ρ.length := (List.getElem?_eq_some_iff.mp h0).1
    have hiσ : i < σ.length := by rw [← W.len]; exact hi
    cases e
    exact W.set h0 (fun xs z => nio xs z) (fun _ z => nomatch z) ⟨v, List.getElem?_set_self hiσ, R⟩ (fun _ _ z => nomatch z)
theorem Ste.pre0 {ρ1 : Rho} {H1 F1 : Hp} (W : Wd K G ρ σ H F) : ∀ a, H a = none → G.H0 a = none := fun _ h => W.h0 h
end

/-! ### plain statements -/
section
variable {X : Cx} {Wx : WX} {st : Stmt} {rest : List Stmt} {m m1 m2 : S} {e c : Expr} {me : M Vl} {mt : M Bool} {pos : Pos}
theorem sb_nil : SBW X Wx [] sNx := pss_weak pss_nil fun D σ H ⟨G, ρ, F, fl, ρ', W, hm, q⟩ => by
  cases hm
  exact q σ H F W (Same.refl _)
theorem sb_one (h : SSW X Wx st m) : SBW X Wx [st] m := pss_one h
theorem sb_cons (h1 : SSW X Wx st m1) (h2 : SBW X Wx rest m2) : SBW X Wx (st :: rest) (sSeq m1 m2) := by
  refine pss_weak (pss_cons h1 h2) fun D σ H ⟨G, ρ, F, fl, ρ', W, hm, q⟩ => ?_
  unfold sSeq at hm
  obtain ⟨⟨f1, ρ1⟩, e1, hm⟩ := Option.bind_eq_some_iff.mp hm
  refine ⟨G, ρ, F, f1, ρ1, W, e1, fun σ' H' F' W' ff => ?_⟩
  cases f1 with
  | nx => exact ⟨G, ρ1, F', fl, ρ', W', hm, fun σ2 H2 F2 W2 f2 => q σ2 H2 F2 W2 (ff.trans f2)⟩
  | bk => cases hm; exact q σ' H' F' W' ff
  | ct => cases hm; exact q σ' H' F' W' ff
  | rt r => cases hm; exact q σ' H' F' W' ff
  | ex x => cases hm; exact q σ' H' F' W' ff
theorem ss_pass : SSW X Wx (.Pass pos) sNx := ps_weak ps_pass fun D σ H ⟨G, ρ, F, fl, ρ', W, hm, q⟩ => by
  cases hm
  exact q σ H F W (Same.refl _)
theorem ss_break : SSW X Wx (.Break pos) sBk := ps_weak ps_break fun D σ H ⟨G, ρ, F, fl, ρ', W, hm, q⟩ => by
  cases hm
  exact q σ H F W (Same.refl _)
theorem ss_continue : SSW X Wx (.Continue pos) sCt := ps_weak ps_continue fun D σ H ⟨G, ρ, F, fl, ρ', W, hm, q⟩ => by
  cases hm
  exact q σ H F W (Same.refl _)
theorem ss_if {a b : List Stmt} (hc : ST X c mt) (ha : SBW X Wx a m1) (hb : SBW X Wx b m2) : SSW X Wx (.If c a b pos) (sIf mt m1 m2) := by
  refine ps_weak (ps_if hc ha hb) fun D σ H ⟨G, ρ, F, fl, ρ', W, hm, q⟩ => ?_
  unfold sIf at hm
  obtain ⟨⟨x, ρ1⟩, e1, hm⟩ := Option.bind_eq_some_iff.mp hm
  refine tmt_use W e1 fun H1 F1 s1 => ?_
  cases x with
  | true => simp only [if_true] at hm ⊢; exact ⟨G, ρ1, F1, fl, ρ', s1.wd, hm, fun σ2 H2 F2 W2 f2 => q σ2 H2 F2 W2 (s1.ff.trans f2)⟩
  | false => simp at hm ⊢; exact ⟨G, ρ1, F1, fl, ρ', s1.wd, hm, fun σ2 H2 F2 W2 f2 => q σ2 H2 F2 W2 (s1.ff.trans f2)⟩
theorem ss_ret (h : SE X e me) : SSW X Wx (.Return (some e) pos) (sRet me) := by
  refine ps_weak (ps_ret h) fun D σ H ⟨G, ρ, F, fl, ρ', W, hm, q⟩ => ?_
  unfold sRet at hm
  obtain ⟨⟨r, ρ1⟩, e1, hm⟩ := Option.bind_eq_some_iff.mp hm
  refine ⟨G, ρ, F, r, ρ1, W, e1, fun v H1 F1 s1 R => ?_⟩
  cases r with
  | fz x => cases hm; exact q σ H1 F1 s1.wd s1.ff v R
  | fr xs =>
    cases hm
    obtain ⟨a, vs, e, h1, h2, h3, h4, _⟩ := R
    exact q σ H1 F1 s1.wd s1.ff v ⟨a, vs, e, h1, h2, h3, W.h0 h4⟩
  | bw i =>
    have R : σ[i]? = some (some v) := R
    dsimp only at hm
    split at hm
    · rename_i xs hx
      cases hm
      obtain ⟨a, vs, e2, h1, h2, h3, h4⟩ := s1.wd.sl i _ hx
      rw [R] at e2; cases e2
      exact q σ H1 F1 s1.wd s1.ff _ ⟨a, vs, rfl, h1, h2, h3, h4⟩
    · cases hm
def sRetN : S := fun ρ => some (.rt (.fz .non), ρ)
theorem ss_retN : SSW X Wx (.Return none pos) sRetN := ps_weak ps_retN fun D σ H ⟨G, ρ, F, fl, ρ', W, hm, q⟩ => by
  cases hm
  exact q σ H F W (Same.refl _) _ .non
theorem ss_doc {x j pos pos'} : SSW X Wx (.Expr (.Constant (.str x) j pos) pos') sNx := ps_weak ps_doc fun D σ H ⟨G, ρ, F, fl, ρ', W, hm, q⟩ => by
  cases hm
  exact q σ H F W (Same.refl _)
theorem ss_expr (h : SE X e me) (hs : swapsWith e none pos.line X.env = pure false := by rfl) : SSW X Wx (.Expr e pos) (sDrop me) := by
  refine ps_weak (ps_expr h hs) fun D σ H ⟨G, ρ, F, fl, ρ', W, hm, q⟩ => ?_
  unfold sDrop at hm
  obtain ⟨⟨r, ρ1⟩, e1, hm⟩ := Option.bind_eq_some_iff.mp hm
  cases hm
  exact ⟨G, ρ, F, r, ρ1, W, e1, fun v H1 F1 s1 R => q σ H1 F1 s1.wd s1.ff⟩
/-- what stores into a slot, as it was made -/
theorem sasg_of {K : PySem.W.Frag} {i : Nat} {D : Ends} {σ : L2.St} {H : Hp} (h : tSW K Wx (sAsg i me) D σ H) : tAsg (tM K me) (gName i) D σ H := by
  obtain ⟨G, ρ, F, fl, ρ', W, hm, q⟩ := h
  unfold sAsg at hm
  obtain ⟨⟨r, ρ1⟩, e1, hm⟩ := Option.bind_eq_some_iff.mp hm
  obtain ⟨ρ2, e2, hm⟩ := Option.bind_eq_some_iff.mp hm
  cases hm
  refine ⟨G, ρ, F, r, ρ1, W, e1, fun v H1 F1 s1 R => ?_⟩
  obtain ⟨F2, W2, f2⟩ := asg_ok s1.wd (fun a h => W.h0 h) R e2
  exact q (σ.set i (some v)) H1 F2 W2 (s1.ff.trans f2)
theorem ss_set {i : Nat} {x : Str} {pos' : Pos} (hN : X.N.Nodup) (hi : X.N[i]? = some x) (hx : Loc X.env.scope x) (he : SE X e me) (hs : swapsWith e (some (.Name x pos')) pos.line X.env = pure false := by rfl) (hf : X.fn x = true ∨ X.env.scope.names.lookup x = some .local := by first | exact .inl rfl | exact .inr rfl | assumption) :
    SSW X Wx (.Assign [.Name x pos'] e pos) (sAsg i me) := ps_weak (ps_set hN hi hx he hs hf) fun _ _ _ h => sasg_of h

/-! ### x.append(e), x[i] = e, x op= e -/
def sApp (i : Nat) (m : M Vl) : S := fun ρ => (own? ρ i).bind fun _ => (m ρ).bind fun p => (frz p.2 (stl p.1)).bind fun q => (own? q.2 i).bind fun xs => if xs.length < lim then some (.nx, put q.2 i (xs ++ [q.1])) else none
theorem Wd.own_at' {K : PySem.W.Frag} {G : Gd} {ρ : Rho} {σ : L2.St} {H F : Hp} {i : Nat} {xs : List D} (W : Wd K G ρ σ H F) (h : own? ρ i = some xs) : ∃ a, σ[i]? = some (some (.ref a)) ∧ ∃ vs, H a = some (.lst vs) ∧ Reps K F vs xs := by
  rcases own_sl h with q | q
  · obtain ⟨b, vs, e, p1, p2, _⟩ := W.sl i _ q
    exact ⟨b, e, vs, p1, p2⟩
  · obtain ⟨b, vs, e, p1, p2, _⟩ := W.sl i _ q
    exact ⟨b, e, vs, p1, p2⟩
theorem Wd.own_at {K : PySem.W.Frag} {G : Gd} {ρ : Rho} {σ : L2.St} {H F : Hp} {i : Nat} {xs : List D} (W : Wd K G ρ σ H F) (h : own? ρ i = some xs) : ∃ a, σ[i]? = some (some (.ref a)) ∧ ∃ vs, H a = some (.lst vs) :=
  let ⟨a, h1, vs, h2, _⟩ := W.own_at' h
  ⟨a, h1, vs, h2⟩
theorem Wd.put {K : PySem.W.Frag} {G : Gd} {ρ : Rho} {σ : L2.St} {H F : Hp} {i : Nat} {a : Addr} {us : List V} {xs ys : List D} (W : Wd K G ρ σ H F) (h : own? ρ i = some xs) (ha : σ[i]? = some (some (.ref a))) (r : Reps K F us ys) : Wd K G (put ρ i ys) σ (upd H a (.lst us)) F ∧ ∃ vs, H a = some (.lst vs) ∧ Reps K F vs xs := by
  have sl := own_sl h
  have o : Ow ρ σ i a := ⟨⟨xs, sl⟩, ha⟩
  obtain ⟨vs0, h1, h2⟩ := W.ow_there o
  have hv : ∃ vs, H a = some (.lst vs) ∧ Reps K F vs xs := by
    rcases sl with q | q
    · obtain ⟨b, vs, e, p1, p2, _⟩ := W.sl i _ q
      rw [ha] at e; cases e
      exact ⟨vs, p1, p2⟩
    · obtain ⟨b, vs, e, p1, p2, _⟩ := W.sl i _ q
      rw [ha] at e; cases e
      exact ⟨vs, p1, p2⟩
  have s := after_call (K := K) (G := G) (σ := σ) (H := H) (ρ := ρ) (F := F) (F' := F) (H' := upd H a (.lst us)) (is := [i]) (as := [a]) (os := [ys]) W (by simp) rfl (fun k j b e1 e2 => by
    cases k with
    | zero => simp at e1 e2; subst e1; subst e2; exact o
    | succ k => simp at e1) (Same.refl _) (fun b x e => by
      have nb : b ≠ a := fun z => by rw [z, h2] at e; cases e
      rw [upd_ne nb]; exact W.sub _ _ e) (fun b x e n => by
      have nb : b ≠ a := fun z => n (by rw [z]; exact List.mem_cons_self)
      rw [upd_ne nb]; exact e) (fun _ h => .inl h) ⟨⟨us, upd_same, r, h2⟩, trivial⟩
  exact ⟨s.wd, hv⟩
theorem ss_app {i : Nat} {o : Expr} {apos cpos : Pos} (ho : PE X o (tVar i)) (he : SE X e me)
    (hbase : attributeBase o "append" X.env (eval o X.env) = eval o X.env := by rfl)
    (hfew : ((backTo cpos (starEach [e] X.env)).all (fun x => !x.1) && (backToKw cpos (keywordEach [] X.env)).all (fun x => x.1.isSome)
      && decide ([e].length + ([] : List Keyword).length + (if ([] : List Keyword).isEmpty then 0 else 1) < 30)) = true := by rfl)
    (hline : (apos.endLine == cpos.line) = true := by rfl) (hst : starEach [e] X.env = (false, eval e X.env) :: starEach [] X.env := by rfl) (hplain : (backTo cpos (starEach [] X.env)).any (·.1) = false := by rfl)
    (hs : swapsWith (.Call (.Attribute o "append" apos) [e] [] cpos) none pos.line X.env = pure false := by rfl) :
    SSW X Wx (.Expr (.Call (.Attribute o "append" apos) [e] [] cpos) pos) (sApp i me) := by
  refine ps_weak (ps_expr (pe_bm PySem.F.plainAttrs_list PySem.F.slot_list_append PySem.F.type_list_append mt_append ho (pa_cons he pa_nil hst) hbase hfew hline hst hplain) hs) fun D σ H ⟨G, ρ, F, fl, ρ', W, hm, q⟩ => ?_
  unfold sApp at hm
  obtain ⟨xs0, e0, hm⟩ := Option.bind_eq_some_iff.mp hm
  obtain ⟨⟨r, ρ1⟩, e1, hm⟩ := Option.bind_eq_some_iff.mp hm
  obtain ⟨⟨x, ρ2⟩, e2, hm⟩ := Option.bind_eq_some_iff.mp hm
  obtain ⟨xs, e3, hm⟩ := Option.bind_eq_some_iff.mp hm
  obtain ⟨a, ha, vs0, hv0⟩ := W.own_at e0
  split at hm
  · rename_i hl
    cases hm
    refine ⟨.ref a, ha, .inl ⟨rfl, _, SqL.of hv0⟩, ?_⟩
    refine tm_use W e1 fun v H1 F1 s1 R1 => ?_
    obtain ⟨F2, s2, R2⟩ := frz_ok s1.wd R1 e2
    obtain ⟨b, hb, us, hu, ru⟩ := s2.wd.own_at' e3
    rw [ha] at hb; cases hb
    obtain ⟨W3, _⟩ := s2.wd.put (a := a) e3 ha (ru.append (.cons R2 .nil))
    exact ⟨a, us, v, rfl, rfl, hu, lim_lt (by rw [ru.len]; exact hl), q σ _ F2 W3 (s1.ff.trans s2.ff)⟩
  · cases hm
/-- x[i] = v, x a list of one's own -/
def ixD (n : Nat) (i : Int) : Option Nat := ixN n i
def sSetI (i : Nat) (mi mv : M Vl) : S := fun ρ => (mv ρ).bind fun p => (frz p.2 (stl p.1)).bind fun p1 => (own? p1.2 i).bind fun _ => (mi p1.2).bind fun p2 => match p2.1 with
  | .fz (.int k) => (own? p2.2 i).bind fun xs => (ixN xs.length k).bind fun j => some (.nx, put p2.2 i (xs.set j p1.1))
  | _ => none
theorem ss_seti {i : Nat} {o ei : Expr} {mi mv : M Vl} {spos : Pos} (ho : PE X o (tVar i)) (hi : SE X ei mi) (hv : SE X e mv)
    (ha : ∀ v, assign (.Subscript o ei spos) X.env v = (do
      let ov ← holding [v] (eval o X.env)
      let iv ← holding [v, ov] (eval ei X.env)
      standAt spos
      holding [v, ov, iv] (setItem ov iv v)
      release [v, ov, iv] []) := by intro _; rfl)
    (hs : swapsWithSole [.Subscript o ei spos] e pos.line X.env = pure false := by rfl) (hw : swappedStores [.Subscript o ei spos] e X.env = pure none := by rfl)
    (h1 : (assignEach [.Subscript o ei spos] X.env).map (·.2) = [assign (.Subscript o ei spos) X.env] := by rfl) :
    SSW X Wx (.Assign [.Subscript o ei spos] e pos) (sSetI i mi mv) := by
  refine ps_weak (ps_asg hv (pg_sub ho hi set_list ha) hs hw h1) fun D σ H ⟨G, ρ, F, fl, ρ', W, hm, q⟩ => ?_
  unfold sSetI at hm
  obtain ⟨⟨r, ρ1⟩, e1, hm⟩ := Option.bind_eq_some_iff.mp hm
  obtain ⟨⟨x, ρ2⟩, e2, hm⟩ := Option.bind_eq_some_iff.mp hm
  obtain ⟨xs0, e0, hm⟩ := Option.bind_eq_some_iff.mp hm
  obtain ⟨⟨y, ρ3⟩, e3, hm⟩ := Option.bind_eq_some_iff.mp hm
  refine tm_use W e1 fun v H1 F1 s1 R1 => ?_
  obtain ⟨F2, s2, R2⟩ := frz_ok s1.wd R1 e2
  obtain ⟨a, ha, _⟩ := s2.wd.own_at e0
  refine ⟨.ref a, ha, ?_⟩
  refine tm_use s2.wd e3 fun u H3 F3 s3 R3 => ?_
  split at hm
  · rename_i k hk
    dsimp only at hk
    subst hk
    obtain ⟨xs, e4, hm⟩ := Option.bind_eq_some_iff.mp hm
    obtain ⟨j, e5, hm⟩ := Option.bind_eq_some_iff.mp hm
    cases hm
    cases (show Rep X.K F3 u (.int k) from R3)
    obtain ⟨b, hb, us, hu, ru⟩ := s3.wd.own_at' e4
    rw [ha] at hb; cases hb
    obtain ⟨W4, _⟩ := s3.wd.put (a := a) e4 ha (Reps.set (R2.mono s3.ff) j ru)
    exact ⟨a, us, k, j, rfl, rfl, hu, by rw [ru.len]; exact e5, q σ _ F3 W4 ((s1.ff.trans s2.ff).trans s3.ff)⟩
  · cases hm
end
/-- a statement that is never reached -/
def sNo : S := fun _ => none
theorem ss_never {X : Cx} {st : Stmt} : SSW X Wx st sNo := ps_weak ps_never fun D σ H ⟨G, ρ, F, fl, ρ', W, hm, q⟩ => by cases hm
end Sw
namespace Sw
open PySem PySem.Spec PyProof.Rows L2

/-! ### targets -/
def Mod' (is : List Nat) (σ σ' : L2.St) : Prop := σ'.length = σ.length ∧ ∀ j : Nat, j ∉ is → σ'[j]? = σ[j]?
def tG (K : PySem.W.Frag) (is : List Nat) (g : D → Rho → Option Rho) : TG := fun v σ H Q => ∃ G ρ F x ρ', Wd K G ρ σ H F ∧ Rep K F v x ∧ g x ρ = some ρ' ∧ ∀ σ', Wd K G ρ' σ' H F → Mod' is σ σ' → Q σ' H
def tGs (K : PySem.W.Frag) (is : List Nat) (g : List D → Rho → Option Rho) : TGs := fun vs σ H Q => ∃ G ρ F xs ρ', Wd K G ρ σ H F ∧ Reps K F vs xs ∧ g xs ρ = some ρ' ∧ ∀ σ', Wd K G ρ' σ' H F → Mod' is σ σ' → Q σ' H
abbrev SG (X : Cx) (tg : Expr) (is : List Nat) (g : D → Rho → Option Rho) : Prop := PG X tg (tG X.K is g)
abbrev SGs (X : Cx) (tg : List Expr) (is : List Nat) (g : List D → Rho → Option Rho) : Prop := PGs X tg (tGs X.K is g)
theorem pg_weak {X : Cx} {e : Expr} {t t' : TG} (h : PG X e t) (w : ∀ v σ H Q, t' v σ H Q → t v σ H Q) : PG X e t' := ⟨fun pins s σ H v u Q I r q => h.run pins s σ H v u Q I r (w _ _ _ _ q)⟩
theorem pgs_weak {X : Cx} {e : List Expr} {t t' : TGs} (h : PGs X e t) (w : ∀ v σ H Q, t' v σ H Q → t v σ H Q) : PGs X e t' := ⟨fun pins s σ H v u Q I r q => h.run pins s σ H v u Q I r (w _ _ _ _ q)⟩
def gN (i : Nat) : D → Rho → Option Rho := fun x ρ => asg i (.fz x) ρ
def gsN : List D → Rho → Option Rho := fun xs ρ => match xs with
  | [] => some ρ
  | _ => none
def gsC (g : D → Rho → Option Rho) (r : List D → Rho → Option Rho) : List D → Rho → Option Rho := fun xs ρ => match xs with
  | x :: ys => (g x ρ).bind fun ρ1 => r ys ρ1
  | [] => none
def gT (n : Nat) (r : List D → Rho → Option Rho) : D → Rho → Option Rho := fun x ρ => match x with
  | .tup xs => if xs.length = n then r xs ρ else none
  | _ => none
theorem Mod'.set {σ : L2.St} (i : Nat) (v : Option V) : Mod' [i] σ (σ.set i v) := ⟨by rw [List.length_set], fun j h => List.getElem?_set_ne (fun z => h (by rw [z]; exact List.mem_cons_self))⟩
theorem Mod'.trans {is js : List Nat} {σ σ1 σ2 : L2.St} (a : Mod' is σ σ1) (b : Mod' js σ1 σ2) : Mod' (is ++ js) σ σ2 := ⟨b.1.trans a.1, fun j h => (b.2 j fun z => h (List.mem_append_right _ z)).trans (a.2 j fun z => h (List.mem_append_left _ z))⟩
section
variable {X : Cx} {pos : Pos}
theorem sg_name {i : Nat} {x : Str} (hN : X.N.Nodup) (hi : X.N[i]? = some x) (hx : Loc X.env.scope x) (hf : X.fn x = true ∨ X.env.scope.names.lookup x = some .local := by first | exact .inl rfl | exact .inr rfl | assumption) : SG X (.Name x pos) [i] (gN i) := by
  refine pg_weak (pg_name hN hi hx hf) fun v σ H Q ⟨G, ρ, F, y, ρ', W, R, e, q⟩ => ?_
  exact q _ (asg_fz W R e) (Mod'.set i _)
theorem sgs_nil : SGs X [] [] gsN := pgs_weak pgs_nil fun vs σ H Q ⟨G, ρ, F, xs, ρ', W, R, e, q⟩ => by
  cases R with
  | nil => cases e; exact ⟨rfl, q σ W ⟨rfl, fun _ _ => rfl⟩⟩
  | cons _ _ => cases e
theorem sgs_cons {e : Expr} {es : List Expr} {is js : List Nat} {g : D → Rho → Option Rho} {r : List D → Rho → Option Rho} (h1 : SG X e is g) (h2 : SGs X es js r)
    (hs : (assignEach (e :: es) X.env).map (·.2) = assign e X.env :: (assignEach es X.env).map (·.2) := by rfl) : SGs X (e :: es) (is ++ js) (gsC g r) := by
  refine pgs_weak (pgs_cons h1 h2 hs) fun vs σ H Q ⟨G, ρ, F, xs, ρ', W, R, e, q⟩ => ?_
  cases R with
  | nil => cases e
  | cons r1 r2 =>
    unfold gsC at e
    obtain ⟨ρ1, e1, e⟩ := Option.bind_eq_some_iff.mp e
    refine ⟨_, _, rfl, G, ρ, F, _, ρ1, W, r1, e1, fun σ1 W1 m1 => ?_⟩
    exact ⟨G, ρ1, F, _, ρ', W1, r2, e, fun σ2 W2 m2 => q σ2 W2 (m1.trans m2)⟩
theorem sg_tup {es : List Expr} {k n : Nat} {is : List Nat} {r : List D → Rho → Option Rho} (hc : X.calm = true) (h : SGs X es is r) (hn : (assignEach es X.env).length = n := by rfl) (hst : (assignEach es X.env).findIdx? (·.1) = none := by rfl) : SG X (.Tuple es k pos) is (gT n r) := by
  refine pg_weak (pg_tup hc h hn hst) fun v σ H Q ⟨G, ρ, F, x, ρ', W, R, e, q⟩ => ?_
  unfold gT at e
  split at e
  · split at e
    · rename_i hl
      cases R with
      | tup sq rs => exact ⟨_, _, rfl, same_t W.sub sq, by rw [rs.len]; exact hl, G, ρ, F, _, ρ', W, rs, e, q⟩
    · cases e
  · cases e
/-- a, b = e -/
def sAsgT (m : M Vl) (g : D → Rho → Option Rho) : S := fun ρ => (m ρ).bind fun p => match p.1 with
  | .fz x => (g x p.2).bind fun ρ2 => some (.nx, ρ2)
  | _ => none
theorem ss_asgT {tg e : Expr} {me : M Vl} {is : List Nat} {g : D → Rho → Option Rho} (he : SE X e me) (hg : SG X tg is g) (hs : swapsWithSole [tg] e pos.line X.env = pure false := by rfl) (hw : swappedStores [tg] e X.env = pure none := by rfl)
    (h1 : (assignEach [tg] X.env).map (·.2) = [assign tg X.env] := by rfl) : SSW X Wx (.Assign [tg] e pos) (sAsgT me g) := by
  refine ps_weak (ps_asg he hg hs hw h1) fun D σ H ⟨G, ρ, F, fl, ρ', W, hm, q⟩ => ?_
  unfold sAsgT at hm
  obtain ⟨⟨r, ρ1⟩, e1, hm⟩ := Option.bind_eq_some_iff.mp hm
  refine ⟨G, ρ, F, r, ρ1, W, e1, fun v H1 F1 s1 R => ?_⟩
  split at hm
  · rename_i x hx
    dsimp only at hx
    subst hx
    obtain ⟨ρ2, e2, hm⟩ := Option.bind_eq_some_iff.mp hm
    cases hm
    exact ⟨G, ρ1, F1, x, _, s1.wd, R, e2, fun σ2 W2 _ => q σ2 H1 F1 W2 s1.ff⟩
  · cases hm
end

/-! ### what is walked -/
structure JR (K : PySem.W.Frag) (J : It) (F : Hp) (xs : List D) : Prop where
  go : ∀ i H, Same F H → i < xs.length → J.go i H
  yl : ∀ i H F1 x H', i < xs.length → Same F F1 → Same F1 H → J.yld i H x H' → ∃ F2 d, Alc F1 H F2 H' ∧ xs[i]? = some d ∧ Rep K F2 x d
  st : ∀ i H, Same F H → xs.length ≤ i → J.stop i H
def tI (K : PySem.W.Frag) (m : M (List D)) : TI := fun σ H R => ∃ G ρ F xs ρ', Wd K G ρ σ H F ∧ m ρ = some (xs, ρ') ∧ ∀ J H' F', Ste K G ρ σ H F ρ' H' F' → JR K J F' xs → R J H'
abbrev SI (X : Cx) (tg iter : Expr) (m : M (List D)) : Prop := PI X tg iter (tI X.K m)
theorem pi_weak {X : Cx} {tg e : Expr} {t t' : TI} (h : PI X tg e t) (w : ∀ σ H R, t' σ H R → t σ H R) : PI X tg e t' := ⟨fun pins s σ H R I q => h.run pins s σ H R I (w _ _ _ q)⟩
theorem pi_or {X : Cx} {tg e : Expr} {t t' : TI} (h : PI X tg e t) (h' : PI X tg e t') : PI X tg e (fun σ H R => t σ H R ∨ t' σ H R) := ⟨fun pins s σ H R I q => q.elim (h.run pins s σ H R I) (h'.run pins s σ H R I)⟩
def itemsOf : D → Option (List D)
  | .lst xs => some xs
  | .tup xs => some xs
  | .str s => some (s.map fun c => .str [c])
  | .scr ns => some (ns.map .int)
  | _ => none
def iSq (m : M Vl) : M (List D) := fun ρ => (m ρ).bind fun p => (frz p.2 (stl p.1)).bind fun q => (itemsOf q.1).bind fun xs => some (xs, q.2)
theorem Reps.ints {K : PySem.W.Frag} {F : Hp} : ∀ ns : List Int, Reps K F (ns.map V.int) (ns.map D.int)
  | [] => .nil
  | n :: ns => .cons (.int n) (Reps.ints ns)
theorem jr_list {K : PySem.W.Frag} {F : Hp} {a : Addr} {vs : List V} {xs : List D} (h : SqL K F a vs) (r : Reps K F vs xs) : JR K (Itl K a) F xs where
  go := fun i H s hi => ⟨vs, vs[i]'(by rw [r.len]; exact hi), s.seq h, List.getElem?_eq_getElem _⟩
  yl := fun i H F1 x H' hi s1 s2 y => by
    obtain ⟨rfl, y⟩ := y
    have e := y vs (s2.seq (s1.seq h))
    obtain ⟨d, h1, h2⟩ := r.get e
    exact ⟨F1, d, Alc.refl s2, h1, h2.mono s1⟩
  st := fun i H s hi => ⟨vs, s.seq h, by rw [r.len]; exact hi⟩
theorem jr_tup {K : PySem.W.Frag} {F : Hp} {a : Addr} {vs : List V} {xs : List D} (h : SqT K F a vs) (r : Reps K F vs xs) : JR K (Itt K a) F xs where
  go := fun i H s hi => ⟨vs, vs[i]'(by rw [r.len]; exact hi), same_t s h, List.getElem?_eq_getElem _⟩
  yl := fun i H F1 x H' hi s1 s2 y => by
    obtain ⟨rfl, y⟩ := y
    have e := y vs (same_t s2 (same_t s1 h))
    obtain ⟨d, h1, h2⟩ := r.get e
    exact ⟨F1, d, Alc.refl s2, h1, h2.mono s1⟩
  st := fun i H s hi => ⟨vs, same_t s h, by rw [r.len]; exact hi⟩
theorem jr_str {K : PySem.W.Frag} {F : Hp} (s : List Nat) : JR K (Its ⟨s.toArray⟩) F (s.map fun c => .str [c]) where
  go := fun i H _ hi => by
    show i < (⟨s.toArray⟩ : Str).cps.size
    simpa using hi
  yl := fun i H F1 x H' hi s1 s2 y => by
    obtain ⟨rfl, c, e, rfl⟩ := y
    refine ⟨F1, .str [c], Alc.refl s2, ?_, .str [c]⟩
    have e : s[i]? = some c := by simpa using e
    rw [List.getElem?_map, e]
    rfl
  st := fun i H _ hi => by
    show (⟨s.toArray⟩ : Str).cps.size ≤ i
    simpa using hi
theorem jr_rng {K : PySem.W.Frag} {F : Hp} (lo : Int) (n : Nat) : JR K (Itr lo n) F ((List.range n).map fun (i : Nat) => .int (lo + (i : Int))) where
  go := fun i H _ hi => by
    show i < n
    simpa using hi
  yl := fun i H F1 x H' hi s1 s2 y => by
    obtain ⟨rfl, rfl⟩ := y
    have hi : i < n := by simpa using hi
    exact ⟨F1, .int (lo + (i : Int)), Alc.refl s2, by rw [List.getElem?_map, List.getElem?_range hi]; rfl, .int _⟩
  st := fun i H _ hi => by
    show n ≤ i
    simpa using hi
section
variable {X : Cx} {tg e : Expr} {me : M Vl} {pos p : Pos}
theorem si_seq (h : SE X e me) : SI X tg e (iSq me) := by
  refine pi_weak (pi_or (pi_list h) (pi_or (pi_tup h) (pi_str h))) fun σ H R ⟨G, ρ, F, xs, ρ', W, hm, q⟩ => ?_
  unfold iSq at hm
  obtain ⟨⟨r, ρ1⟩, e1, hm⟩ := Option.bind_eq_some_iff.mp hm
  obtain ⟨⟨x, ρ2⟩, e2, hm⟩ := Option.bind_eq_some_iff.mp hm
  obtain ⟨ys, e3, hm⟩ := Option.bind_eq_some_iff.mp hm
  cases hm
  cases x with
  | lst zs =>
    cases e3
    refine .inl (tm_use W e1 fun v H1 F1 s1 R1 => ?_)
    obtain ⟨F2, s2, R2⟩ := frz_ok s1.wd R1 e2
    cases R2 with
    | lst h1 h2 => exact ⟨_, rfl, ⟨_, SqL.of (s2.wd.sub _ _ h1)⟩, q _ _ F2 (s1.trans s2) (jr_list (SqL.of h1) h2)⟩
  | scr zs =>
    cases e3
    refine .inl (tm_use W e1 fun v H1 F1 s1 R1 => ?_)
    obtain ⟨F2, s2, R2⟩ := frz_ok s1.wd R1 e2
    cases R2 with
    | scr h1 => exact ⟨_, rfl, ⟨_, s2.wd.sub.seq h1⟩, q _ _ F2 (s1.trans s2) (jr_list h1 (Reps.ints _))⟩
  | tup zs =>
    cases e3
    refine .inr (.inl (tm_use W e1 fun v H1 F1 s1 R1 => ?_))
    obtain ⟨F2, s2, R2⟩ := frz_ok s1.wd R1 e2
    cases R2 with
    | tup h1 h2 => exact ⟨_, rfl, ⟨_, same_t s2.wd.sub h1⟩, q _ _ F2 (s1.trans s2) (jr_tup h1 h2)⟩
  | str zs =>
    cases e3
    refine .inr (.inr (tm_use W e1 fun v H1 F1 s1 R1 => ?_))
    obtain ⟨F2, s2, R2⟩ := frz_ok s1.wd R1 e2
    cases R2
    exact ⟨_, rfl, q _ _ F2 (s1.trans s2) (jr_str _)⟩
  | non => cases e3
  | bl b => cases e3
  | int i => cases e3
  | obj c ks xs => cases e3
/-- range(n), range(a, b) -/
def rngL (lo : Int) (n : Nat) : List D := (List.range n).map fun (i : Nat) => .int (lo + (i : Int))
def iR1 (a : M (List Vl)) : M (List D) := fun ρ => (a ρ).bind fun p => match p.1 with
  | [.fz (.int j)] => if -(2 ^ 62) ≤ j ∧ j < 2 ^ 62 then some (rngL 0 j.toNat, p.2) else none
  | _ => none
def iR2 (a : M (List Vl)) : M (List D) := fun ρ => (a ρ).bind fun p => match p.1 with
  | [.fz (.int i), .fz (.int j)] => if -(2 ^ 62) ≤ i ∧ i < 2 ^ 62 ∧ -(2 ^ 62) ≤ j ∧ j < 2 ^ 62 then some (rngL i (j - i).toNat, p.2) else none
  | _ => none
theorem vls1 {K : PySem.W.Frag} {σ : L2.St} {F : Hp} {vs : List V} {x : D} (h : VlSs K σ F vs [.fz x]) : ∃ v, vs = [v] ∧ Rep K F v x := by
  match vs, h with
  | [v], h => exact ⟨v, rfl, h.1⟩
theorem vls2 {K : PySem.W.Frag} {σ : L2.St} {F : Hp} {vs : List V} {x y : D} (h : VlSs K σ F vs [.fz x, .fz y]) : ∃ v u, vs = [v, u] ∧ Rep K F v x ∧ Rep K F u y := by
  match vs, h with
  | [v, u], h => exact ⟨v, u, rfl, h.1, h.2.1⟩
theorem si_range1 {a : Expr} {ma : M (List Vl)} (hm : X.mg "range" = none) (hg : Gl X "range") (ha : SA X [a] ma) (hs : starEach [a] X.env = [(false, eval a X.env)] := by rfl) : SI X tg (.Call (.Name "range" p) [a] [] pos) (iR1 ma) := by
  refine pi_weak (pi_range1 hg hm ha hs) fun σ H R ⟨G, ρ, F, xs, ρ', W, hm, q⟩ => ?_
  unfold iR1 at hm
  obtain ⟨⟨r, ρ1⟩, e1, hm⟩ := Option.bind_eq_some_iff.mp hm
  refine ⟨G, ρ, F, r, ρ1, W, e1, fun vs H1 F1 s1 R1 => ?_⟩
  split at hm
  · rename_i j hj
    dsimp only at hj
    subst hj
    split at hm
    · rename_i hb
      cases hm
      obtain ⟨v, rfl, Rv⟩ := vls1 R1
      cases Rv
      exact ⟨j, rfl, hb.1, hb.2, q _ _ F1 s1 (jr_rng 0 j.toNat)⟩
    · cases hm
  · cases hm
theorem si_range2 {a b : Expr} {ma : M (List Vl)} (hm : X.mg "range" = none) (hg : Gl X "range") (ha : SA X [a, b] ma) (hs : starEach [a, b] X.env = [(false, eval a X.env), (false, eval b X.env)] := by rfl) (hs2 : starEach [b] X.env = [(false, eval b X.env)] := by rfl) : SI X tg (.Call (.Name "range" p) [a, b] [] pos) (iR2 ma) := by
  refine pi_weak (pi_range2 hg hm ha hs hs2) fun σ H R ⟨G, ρ, F, xs, ρ', W, hm, q⟩ => ?_
  unfold iR2 at hm
  obtain ⟨⟨r, ρ1⟩, e1, hm⟩ := Option.bind_eq_some_iff.mp hm
  refine ⟨G, ρ, F, r, ρ1, W, e1, fun vs H1 F1 s1 R1 => ?_⟩
  split at hm
  · rename_i i j hj
    dsimp only at hj
    subst hj
    split at hm
    · rename_i hb
      cases hm
      obtain ⟨v, u, rfl, Rv, Ru⟩ := vls2 R1
      cases Rv
      cases Ru
      exact ⟨i, j, rfl, hb, q _ _ F1 s1 (jr_rng i (j - i).toNat)⟩
    · cases hm
  · cases hm
end

/-! ### for, while -/
def forM (g : D → Rho → Option Rho) (b : S) : List D → S
  | [], ρ => some (.nx, ρ)
  | x :: xs, ρ => (g x ρ).bind fun ρ1 => (b ρ1).bind fun p => match p.1 with
    | .nx => forM g b xs p.2
    | .ct => forM g b xs p.2
    | .bk => some (.nx, p.2)
    | .rt v => some (.rt v, p.2)
    | .ex x => some (.ex x, p.2)
def sFor (src : M (List D)) (g : D → Rho → Option Rho) (b : S) : S := fun ρ => (src ρ).bind fun p => forM g b p.1 p.2
section
variable {X : Cx} {tg iter c : Expr} {src : M (List D)} {is : List Nat} {g : D → Rho → Option Rho} {body : List Stmt} {b : S} {pos : Pos} {mt : M Bool}
theorem ss_for (hp : PassesOwn (model X.prog X.w) X.A X.env X.xe) (hc : X.calm = true) (hi : SI X tg iter src) (hg : SG X tg is g) (hb : SBW X Wx body b)
    (hs : ∀ x, foldedSetIterable iter X.env x = pure x := by intro _; rfl) : SSW X Wx (.For tg iter body [] pos) (sFor src g b) := by
  refine ps_weak (ps_for hp hc hi hg hb hs) fun D σ H ⟨G, ρ, F, fl, ρ', W, hm, q⟩ => ?_
  unfold sFor at hm
  obtain ⟨⟨xs, ρ1⟩, e1, hm⟩ := Option.bind_eq_some_iff.mp hm
  refine ⟨G, ρ, F, xs, ρ1, W, e1, fun J H1 F1 s1 jr => ?_⟩
  refine ⟨fun i m σ H => m = xs.length - i ∧ i ≤ xs.length ∧ ∃ ρi Fi, Wd X.K G ρi σ H Fi ∧ Same F1 Fi ∧ forM g b (xs.drop i) ρi = some (fl, ρ'), ⟨xs.length, by simp, Nat.zero_le _, ρ1, F1, s1.wd, Same.refl _, hm⟩, ?_⟩
  rintro i m σ2 H2 ⟨rfl, hi, ρi, Fi, Wi, ff, hf⟩
  by_cases hlt : i < xs.length
  · refine .inr ⟨jr.go i H2 (ff.trans Wi.sub) hlt, fun σ' H' => ∃ ρi Fi, Wd X.K G ρi σ' H' Fi ∧ Same F1 Fi ∧ forM g b (xs.drop (i + 1)) ρi = some (fl, ρ'), fun σ' H' ⟨ρj, Fj, a, b, c⟩ => ⟨xs.length - (i + 1), by omega, rfl, hlt, ρj, Fj, a, b, c⟩, fun x H' y => ?_⟩
    obtain ⟨F2, d, A, hd, Rd⟩ := jr.yl i H2 Fi x H' hlt ff Wi.sub y
    have s2 := Wi.alc A
    have ed : xs[i] = d := by
      rw [List.getElem?_eq_getElem hlt] at hd
      exact Option.some.inj hd
    rw [List.drop_eq_getElem_cons hlt, ed] at hf
    unfold forM at hf
    obtain ⟨ρ3, e3, hf⟩ := Option.bind_eq_some_iff.mp hf
    obtain ⟨⟨f4, ρ4⟩, e4, hf⟩ := Option.bind_eq_some_iff.mp hf
    refine ⟨G, ρi, F2, d, ρ3, s2.wd, Rd, e3, fun σ3 W3 _ => ?_⟩
    refine ⟨G, ρ3, F2, f4, ρ4, W3, e4, fun σ4 H4 F4 W4 f34 => ?_⟩
    have fall : Same F1 F4 := (ff.trans A.ff).trans f34
    cases f4 with
    | nx => exact ⟨ρ4, F4, W4, fall, hf⟩
    | ct => exact ⟨ρ4, F4, W4, fall, hf⟩
    | bk => cases hf; exact q σ4 H4 F4 W4 (s1.ff.trans fall)
    | rt v => cases hf; exact q σ4 H4 F4 W4 (s1.ff.trans fall)
    | ex x => cases hf; exact q σ4 H4 F4 W4 (s1.ff.trans fall)
  · have e : i = xs.length := by omega
    subst e
    rw [List.drop_length] at hf
    cases hf
    exact .inl ⟨jr.st _ H2 (ff.trans Wi.sub) (Nat.le_refl _), q σ2 H2 Fi Wi (s1.ff.trans ff)⟩
/-- while: as many turns as there are -/
def wh (t : M Bool) (b : S) : Nat → S
  | 0, _ => none
  | n + 1, ρ => (t ρ).bind fun p => if p.1 = true then (b p.2).bind fun q => (match q.1 with
    | .nx => wh t b n q.2
    | .ct => wh t b n q.2
    | .bk => some (.nx, q.2)
    | .rt v => some (.rt v, q.2)
    | .ex x => some (.ex x, q.2)) else some (.nx, p.2)
open Classical in
noncomputable def sWhile (t : M Bool) (b : S) : S := fun ρ => if h : ∃ n, (wh t b n ρ).isSome = true then wh t b h.choose ρ else none
theorem wh_mono {t : M Bool} {b : S} : ∀ {n : Nat} {ρ : Rho} {z : Fl × Rho}, wh t b n ρ = some z → wh t b (n + 1) ρ = some z
  | 0, _, _, h => by cases h
  | n + 1, ρ, z, h => by
    unfold wh at h ⊢
    obtain ⟨⟨c, ρ1⟩, e1, h⟩ := Option.bind_eq_some_iff.mp h
    rw [e1]
    simp only [Option.bind_some] at h ⊢
    split at h
    · rename_i hc
      rw [if_pos hc]
      obtain ⟨⟨fl, ρ2⟩, e2, h⟩ := Option.bind_eq_some_iff.mp h
      rw [e2]
      simp only [Option.bind_some] at h ⊢
      cases fl with
      | nx => exact wh_mono h
      | ct => exact wh_mono h
      | bk => exact h
      | rt v => exact h
      | ex x => exact h
    · rename_i hc
      rw [if_neg hc]
      exact h
theorem wh_le {t : M Bool} {b : S} {n m : Nat} {ρ : Rho} {z : Fl × Rho} (h : wh t b n ρ = some z) (hl : n ≤ m) : wh t b m ρ = some z := by
  induction hl with
  | refl => exact h
  | step _ ih => exact wh_mono ih
theorem sWhile_of {t : M Bool} {b : S} {n : Nat} {ρ : Rho} {z : Fl × Rho} (h : wh t b n ρ = some z) : sWhile t b ρ = some z := by
  have ex : ∃ n, (wh t b n ρ).isSome = true := ⟨n, by rw [h]; rfl⟩
  unfold sWhile
  rw [dif_pos ex]
  obtain ⟨y, hy⟩ := Option.isSome_iff_exists.mp ex.choose_spec
  rw [hy]
  rcases Nat.le_total n ex.choose with q | q
  · rw [wh_le h q] at hy
    exact hy.symm
  · rw [wh_le hy q] at h
    exact h
theorem of_sWhile {t : M Bool} {b : S} {ρ : Rho} {z : Fl × Rho} (h : sWhile t b ρ = some z) : ∃ n, wh t b n ρ = some z := by
  unfold sWhile at h
  split at h
  · exact ⟨_, h⟩
  · cases h
theorem ss_while (hp : PassesOwn (model X.prog X.w) X.A X.env X.xe) (hc : ST X c mt) (hb : SBW X Wx body b) : SSW X Wx (.While c body [] pos) (sWhile mt b) := by
  refine ps_weak (ps_while hp hc hb) fun D σ H ⟨G, ρ, F, fl, ρ', W, hm, q⟩ => ?_
  obtain ⟨n, hm⟩ := of_sWhile hm
  refine ⟨fun m σ H => ∃ ρi Fi, Wd X.K G ρi σ H Fi ∧ Same F Fi ∧ wh mt b m ρi = some (fl, ρ'), ⟨n, ρ, F, W, Same.refl _, hm⟩, ?_⟩
  rintro m σ2 H2 ⟨ρi, Fi, Wi, ff, hf⟩
  cases m with
  | zero => cases hf
  | succ m =>
    unfold wh at hf
    obtain ⟨⟨c1, ρ1⟩, e1, hf⟩ := Option.bind_eq_some_iff.mp hf
    refine tmt_use Wi e1 fun H3 F3 s3 => ?_
    cases c1 with
    | true =>
      simp only [if_true] at hf ⊢
      obtain ⟨⟨f4, ρ4⟩, e4, hf⟩ := Option.bind_eq_some_iff.mp hf
      refine ⟨fun σ' H' => ∃ ρi Fi, Wd X.K G ρi σ' H' Fi ∧ Same F Fi ∧ wh mt b m ρi = some (fl, ρ'), fun σ' H' z => ⟨m, Nat.lt_succ_self _, z⟩, G, ρ1, F3, f4, ρ4, s3.wd, e4, fun σ4 H4 F4 W4 f34 => ?_⟩
      have fall : Same F F4 := (ff.trans s3.ff).trans f34
      cases f4 with
      | nx => exact ⟨ρ4, F4, W4, fall, hf⟩
      | ct => exact ⟨ρ4, F4, W4, fall, hf⟩
      | bk => cases hf; exact q σ4 H4 F4 W4 fall
      | rt v => cases hf; exact q σ4 H4 F4 W4 fall
      | ex x => cases hf; exact q σ4 H4 F4 W4 fall
    | false =>
      simp at hf ⊢
      obtain ⟨rfl, rfl⟩ := hf
      exact q σ2 H3 F3 s3.wd (ff.trans s3.ff)
end

/-! ### a def -/
def slOf : Ag → Sl
  | .da x => .d x
  | .li xs => .io xs
def outsOf : List Ag → Rho → List (List D)
  | .li _ :: gs, .io xs :: ρ => xs :: outsOf gs ρ
  | _ :: gs, _ :: ρ => outsOf gs ρ
  | _, _ => []
def fnS (n nl : Nat) (b : S) : Fn := fun gs => if gs.length = n then (b (gs.map slOf ++ List.replicate (nl - n) .no)).bind fun p => (match p.1 with
  | .nx => some (.fz .non, outsOf gs p.2)
  | .rt (.fz x) => some (.fz x, outsOf gs p.2)
  | .rt (.fr x) => some (.fr x, outsOf gs p.2)
  | _ => none) else none
theorem fnS_len {n nl : Nat} {b : S} : ∀ gs z, fnS n nl b gs = some z → gs.length = n := fun gs z h => by
  unfold fnS at h
  split at h
  · assumption
  · cases h
/-- the slots whose lists are handed in -/
def iaOf : Nat → List V → List Ag → List (Nat × Addr)
  | i, .ref a :: vs, .li _ :: gs => (i, a) :: iaOf (i + 1) vs gs
  | i, _ :: vs, _ :: gs => iaOf (i + 1) vs gs
  | _, _, _ => []
section
variable {K : PySem.W.Frag} {F H : Hp}
theorem AgsR.at : ∀ {vs : List V} {gs : List Ag} {i : Nat} {g : Ag}, AgsR K F H vs gs → gs[i]? = some g → ∃ v, vs[i]? = some v ∧ (match g with
    | .da x => Rep K F v x
    | .li xs => ∃ a us, v = .ref a ∧ H a = some (.lst us) ∧ Reps K F us xs ∧ F a = none)
  | [], [], _, _, _, h => by simp at h
  | [], .da _ :: _, _, _, h, _ => h.elim
  | [], .li _ :: _, _, _, h, _ => h.elim
  | _ :: _, [], _, _, _, h => by simp at h
  | v :: vs, .da x :: gs, 0, g, h, e => by simp at e; subst e; exact ⟨v, rfl, h.1⟩
  | v :: vs, .li x :: gs, 0, g, h, e => by simp at e; subst e; exact ⟨v, rfl, h.1⟩
  | v :: vs, .da x :: gs, i + 1, g, h, e => AgsR.at (i := i) h.2 (by simpa using e)
  | v :: vs, .li x :: gs, i + 1, g, h, e => AgsR.at (i := i) h.2 (by simpa using e)
theorem iaOf_snd : ∀ {vs : List V} {gs : List Ag} (k : Nat), AgsR K F H vs gs → (iaOf k vs gs).map (·.2) = liA vs gs
  | [], [], _, _ => rfl
  | [], .da _ :: _, _, h => h.elim
  | [], .li _ :: _, _, h => h.elim
  | _ :: _, [], _, h => h.elim
  | v :: vs, .da x :: gs, k, h => by
    have e1 : iaOf k (v :: vs) (.da x :: gs) = iaOf (k + 1) vs gs := by cases v <;> rfl
    have e2 : liA (v :: vs) (.da x :: gs) = liA vs gs := by cases v <;> rfl
    rw [e1, e2]
    exact iaOf_snd (k + 1) h.2
  | v :: vs, .li x :: gs, k, h => by
    obtain ⟨⟨a, us, rfl, _⟩, h2⟩ := h
    show a :: (iaOf (k + 1) vs gs).map (·.2) = a :: liA vs gs
    rw [iaOf_snd (k + 1) h2]
theorem iaOf_mem : ∀ {vs : List V} {gs : List Ag} {k j : Nat} {a : Addr}, AgsR K F H vs gs → (j, a) ∈ iaOf k vs gs → ∃ i xs, j = k + i ∧ gs[i]? = some (.li xs) ∧ vs[i]? = some (.ref a)
  | [], [], _, _, _, _, h => by simp [iaOf] at h
  | [], .da _ :: _, _, _, _, h, _ => h.elim
  | [], .li _ :: _, _, _, _, h, _ => h.elim
  | _ :: _, [], _, _, _, h, _ => h.elim
  | v :: vs, .da x :: gs, k, j, a, h, e => by
    have e1 : iaOf k (v :: vs) (.da x :: gs) = iaOf (k + 1) vs gs := by cases v <;> rfl
    rw [e1] at e
    obtain ⟨i, xs, h1, h2, h3⟩ := iaOf_mem h.2 e
    exact ⟨i + 1, xs, by omega, by simpa using h2, by simpa using h3⟩
  | v :: vs, .li x :: gs, k, j, a, h, e => by
    obtain ⟨⟨b, us, rfl, _⟩, h2⟩ := h
    rcases List.mem_cons.mp (show (j, a) ∈ (k, b) :: iaOf (k + 1) vs gs from e) with q | q
    · cases q
      exact ⟨0, x, rfl, rfl, rfl⟩
    · obtain ⟨i, xs, h1, h3, h4⟩ := iaOf_mem h2 q
      exact ⟨i + 1, xs, by omega, by simpa using h3, by simpa using h4⟩
theorem mem_iaOf : ∀ {vs : List V} {gs : List Ag} {i : Nat} {a : Addr} {xs : List D} (k : Nat), AgsR K F H vs gs → gs[i]? = some (.li xs) → vs[i]? = some (.ref a) → (k + i, a) ∈ iaOf k vs gs
  | [], _, _, _, _, _, _, _, h => by simp at h
  | _ :: _, [], _, _, _, _, h, _, _ => h.elim
  | v :: vs, .da x :: gs, 0, a, xs, k, h, e, _ => by simp at e
  | v :: vs, .li x :: gs, 0, a, xs, k, h, e, e2 => by
    simp at e2; subst e2
    show (k + 0, a) ∈ (k, a) :: iaOf (k + 1) vs gs
    exact List.mem_cons_self
  | v :: vs, .da x :: gs, i + 1, a, xs, k, h, e, e2 => by
    have e1 : iaOf k (v :: vs) (.da x :: gs) = iaOf (k + 1) vs gs := by cases v <;> rfl
    rw [e1]
    have := mem_iaOf (k + 1) h.2 (i := i) (a := a) (xs := xs) (by simpa using e) (by simpa using e2)
    rw [show k + (i + 1) = k + 1 + i by omega]
    exact this
  | v :: vs, .li x :: gs, i + 1, a, xs, k, h, e, e2 => by
    obtain ⟨⟨b, us, rfl, _⟩, h2⟩ := h
    have := mem_iaOf (k + 1) h2 (i := i) (a := a) (xs := xs) (by simpa using e) (by simpa using e2)
    rw [show k + (i + 1) = k + 1 + i by omega]
    exact List.mem_cons_of_mem _ this
/-- the world at a def's entry -/
theorem wd_start {vs : List V} {gs : List Ag} {N : List Str} {n nl : Nat} (A : AgsR K F H vs gs) (nd : (liA vs gs).Nodup) (sub : Same F H) (hn : gs.length = n) (hl : N.length = nl) (hle : n ≤ nl) : Wd K ⟨H, F, iaOf 0 vs gs, nl⟩ (gs.map slOf ++ List.replicate (nl - n) .no) (start N vs) H F := by
  have lv : vs.length = n := A.len.trans hn
  have get : ∀ (i : Nat) (s : Sl), (gs.map slOf ++ List.replicate (nl - n) .no)[i]? = some s → (∃ g, gs[i]? = some g ∧ s = slOf g) ∨ s = .no := fun i s h => by
    by_cases hi : i < n
    · rw [List.getElem?_append_left (by rw [List.length_map, hn]; exact hi), List.getElem?_map] at h
      cases e : gs[i]? with
      | none => rw [e] at h; cases h
      | some g => rw [e] at h; cases h; exact .inl ⟨g, rfl, rfl⟩
    · rw [List.getElem?_append_right (by rw [List.length_map, hn]; omega), List.getElem?_replicate] at h
      split at h
      · cases h; exact .inr rfl
      · cases h
  have getv : ∀ (i : Nat) (v : V), vs[i]? = some v → (start N vs)[i]? = some (some v) := fun i v h => by
    have hi := (List.getElem?_eq_some_iff.mp h).1
    unfold L2.start
    rw [List.getElem?_append_left (by rw [List.length_map]; exact hi), List.getElem?_map, h]
    rfl
  have ow : ∀ i a, Ow (gs.map slOf ++ List.replicate (nl - n) .no) (start N vs) i a → (i, a) ∈ iaOf 0 vs gs ∧ i < vs.length := fun i a o => by
    obtain ⟨⟨xs, o1⟩, o2⟩ := o
    rcases o1 with o1 | o1
    · rcases get i _ o1 with ⟨g, _, e⟩ | e
      · cases g <;> cases e
      · cases e
    · rcases get i _ o1 with ⟨g, e1, e⟩ | e
      · cases g with
        | da x => cases e
        | li ys =>
          cases e
          obtain ⟨v, e2, b, us, rfl, _⟩ := A.at e1
          rw [getv i _ e2] at o2
          cases o2
          have := mem_iaOf 0 A e1 e2
          rw [Nat.zero_add] at this
          exact ⟨this, (List.getElem?_eq_some_iff.mp e2).1⟩
      · cases e
  have snd := iaOf_snd 0 A
  have lst : (start N vs).length = nl := by
    unfold L2.start
    rw [List.length_append, List.length_map, List.length_replicate, lv, hl]
    omega
  refine ⟨?_, lst, sub, Same.refl _, fun b o h _ => h, fun b h => .inl h, fun b h => ?_, fun i s h => ?_, fun i j a o1 o2 => ?_, fun i a h => ?_⟩
  · unfold L2.start
    rw [List.length_append, List.length_map, List.length_replicate, List.length_append, List.length_map, List.length_replicate, hn, lv, hl]
  · obtain ⟨⟨j, c⟩, h1, rfl⟩ := List.mem_map.mp h
    obtain ⟨i, xs, _, h2, h3⟩ := iaOf_mem A h1
    obtain ⟨v, e, b, us, rfl, hb, _⟩ := A.at h2
    rw [h3] at e; cases e
    show H c ≠ none
    rw [hb]; simp
  · rcases get i s h with ⟨g, e, rfl⟩ | rfl
    · obtain ⟨v, e2, q⟩ := A.at e
      cases g with
      | da x => exact ⟨v, getv i v e2, q⟩
      | li xs =>
        obtain ⟨a, us, rfl, h1, h2, h3⟩ := q
        have := mem_iaOf 0 A e e2
        rw [Nat.zero_add] at this
        exact ⟨a, us, getv i _ e2, h1, h2, h3, this⟩
    · trivial
  · have h1 := (ow i a o1).1
    have h2 := (ow j a o2).1
    have ndp : ((iaOf 0 vs gs).map (·.2)).Nodup := by rw [snd]; exact nd
    obtain ⟨p, hp, e1⟩ := List.mem_iff_getElem.mp h1
    obtain ⟨q, hq, e2⟩ := List.mem_iff_getElem.mp h2
    have e3 : ((iaOf 0 vs gs).map (·.2))[p]'(by rw [List.length_map]; exact hp) = ((iaOf 0 vs gs).map (·.2))[q]'(by rw [List.length_map]; exact hq) := by
      rw [List.getElem_map, List.getElem_map, e1, e2]
    have e4 := (List.getElem_inj ndp).mp e3
    subst e4
    rw [e1] at e2
    cases e2
    rfl
  · obtain ⟨j, xs, e, h2, h3⟩ := iaOf_mem A h
    rw [Nat.zero_add] at e
    subst e
    refine ⟨⟨xs, ?_⟩, getv i _ h3⟩
    have hi := (List.getElem?_eq_some_iff.mp h2).1
    rw [List.getElem?_append_left (by rw [List.length_map]; exact hi), List.getElem?_map, h2]
    rfl
theorem outs_ok {G : Gd} {σ : L2.St} {H' F' : Hp} : ∀ {vs : List V} {gs : List Ag} {ρ : Rho} (k : Nat), AgsR K F H vs gs → (∀ i s, ρ[i]? = some s → SlR K G σ H' F' (k + i) s) → (∀ i a xs, gs[i]? = some (.li xs) → vs[i]? = some (.ref a) → (∃ ys, ρ[i]? = some (.io ys)) ∧ σ[k + i]? = some (some (.ref a))) → gs.length ≤ ρ.length → OutsR K F' H' (liA vs gs) (outsOf gs ρ)
  | [], [], ρ, k, _, _, _, _ => by cases ρ <;> trivial
  | [], .da _ :: _, _, _, h, _, _, _ => h.elim
  | [], .li _ :: _, _, _, h, _, _, _ => h.elim
  | _ :: _, [], _, _, h, _, _, _ => h.elim
  | v :: vs, g :: gs, [], k, _, _, _, hl => by simp at hl
  | v :: vs, .da x :: gs, s :: ρ, k, h, h1, h2, hl => by
    have e2 : liA (v :: vs) (.da x :: gs) = liA vs gs := by cases v <;> rfl
    have e3 : outsOf (.da x :: gs) (s :: ρ) = outsOf gs ρ := by cases s <;> rfl
    rw [e2, e3]
    refine outs_ok (G := G) (σ := σ) (k + 1) h.2 (fun i s' e => ?_) (fun i a xs e e' => ?_) (by simpa using hl)
    · have := h1 (i + 1) s' (by simpa using e)
      rw [show k + 1 + i = k + (i + 1) by omega]
      exact this
    · have := h2 (i + 1) a xs (by simpa using e) (by simpa using e')
      rw [show k + 1 + i = k + (i + 1) by omega]
      simpa using this
  | v :: vs, .li x :: gs, s :: ρ, k, h, h1, h2, hl => by
    obtain ⟨⟨b, us, rfl, _⟩, hr⟩ := h
    obtain ⟨⟨ys, e0⟩, e1⟩ := h2 0 b x rfl rfl
    have e0 : s = .io ys := by simpa using e0
    subst e0
    obtain ⟨c, ws, f1, f2, f3, f4, _⟩ := h1 0 (.io ys) rfl
    rw [Nat.add_zero] at e1 f1
    rw [e1] at f1
    cases f1
    refine ⟨⟨ws, f2, f3, f4⟩, outs_ok (G := G) (σ := σ) (k + 1) hr (fun i s' e => ?_) (fun i a xs e e' => ?_) (by simpa using hl)⟩
    · have := h1 (i + 1) s' (by simpa using e)
      rw [show k + 1 + i = k + (i + 1) by omega]
      exact this
    · have := h2 (i + 1) a xs (by simpa using e) (by simpa using e')
      rw [show k + 1 + i = k + (i + 1) by omega]
      simpa using this
end
theorem fn_ok {P : Program} {w : World} {K : PySem.W.Frag} {mg : Str → Option Value} {base : Heap} {x qual : Str} {st : Stmt} {f : Addr} {fd : FuncData} {N ps : List Str} {k n nl : Nat} {m : S} (Fu : FunG K x qual st f fd) (Sc : FnScope N ps (defScope st)) (hn : ps.length = n) (hl : N.length = nl) (hle : n ≤ nl)
    (hb : ∀ (cdv : Value) (A : Around) (outer : List Env) (s : Shared) (H : Hp) (E : XK), Room k (A.deeper (envOfC qual (defScope st) s.heap.objs.size f cdv)) → SB (cxOf CX0 P w K mg base N qual (defScope st) f cdv A outer s H E).nox (defBody st) m) :
    FnOk P w K mg base CX0 (k + 1) f fd ps (spF K n (fnS n nl m)) := by
  refine Fu.ok Sc (fun vs H Q E h => by rw [h.1, hn]) (fun cdv A outer s H vs Q E hr h => ?_)
  obtain ⟨hv, F, gs, r, os, sub, AR, nd, hf, q⟩ := h
  refine ⟨_, hb cdv A outer s H E hr, ?_⟩
  unfold fnS at hf
  split at hf
  · rename_i hgs
    obtain ⟨⟨fl, ρ'⟩, e1, hf⟩ := Option.bind_eq_some_iff.mp hf
    have W := wd_start AR nd sub hgs hl hle
    have snd := iaOf_snd 0 AR
    have le : gs.length ≤ (gs.map slOf ++ List.replicate (nl - n) Sl.no).length := by rw [List.length_append, List.length_map]; omega
    have outs : ∀ {σ' : L2.St} {H' F' : Hp}, Wd K ⟨H, F, iaOf 0 vs gs, nl⟩ ρ' σ' H' F' → σ'.length = nl → OutsR K F' H' (liA vs gs) (outsOf gs ρ') := fun {σ' H' F'} W' hσ => by
      refine outs_ok (G := ⟨H, F, iaOf 0 vs gs, nl⟩) (σ := σ') 0 AR (fun i s' e => by rw [Nat.zero_add]; exact W'.sl i s' e) (fun i a xs h1 h2 => ?_) ?_
      · have := mem_iaOf 0 AR h1 h2
        have z := W'.ai _ _ this
        rw [Nat.zero_add] at z
        exact ⟨z.1, by rw [Nat.zero_add]; exact z.2⟩
      · have := W'.len
        omega
    refine ⟨⟨H, F, iaOf 0 vs gs, nl⟩, _, F, fl, ρ', W, e1, fun σ' H' F' W' ff => ?_⟩
    have kp : ∀ b o, H b = some o → b ∉ liA vs gs → H' b = some o := fun b o h h2 => W'.kp b o h (by rw [snd]; exact h2)
    have hσ : σ'.length = nl := W'.gl
    cases fl with
    | nx => cases hf; exact q _ H' F' ff W'.sub kp W'.nw (outs W' hσ) .non
    | bk => cases hf
    | ct => cases hf
    | ex x => cases hf
    | rt z =>
      cases z with
      | fz y => cases hf; exact fun v R => q v H' F' ff W'.sub kp W'.nw (outs W' hσ) R
      | fr y => cases hf; exact fun v R => q v H' F' ff W'.sub kp W'.nw (outs W' hσ) R
      | bw y => cases hf
  · cases hf
/-- no fuel: nothing is promised -/
theorem fn_ok0 {P : Program} {w : World} {K : PySem.W.Frag} {mg : Str → Option Value} {base : Heap} {x qual : Str} {st : Stmt} {f : Addr} {fd : FuncData} {N ps : List Str} {k n : Nat} (Fu : FunG K x qual st f fd) (Sc : FnScope N ps (defScope st)) (hn : ps.length = n) :
    FnOk P w K mg base CX0 (k + 1) f fd ps (spF K n fun _ => none) := by
  refine Fu.ok Sc (fun vs H Q E h => by rw [h.1, hn]) (fun cdv A outer s H vs Q E hr h => ?_)
  obtain ⟨hv, F, gs, r, os, sub, AR, nd, hf, q⟩ := h
  cases hf
end Sw
namespace Sw
open PySem PySem.Spec PyProof.Rows L2

/-! ### list comprehensions -/
def wipeR (ρ : Rho) : List Nat → Rho
  | [] => ρ
  | v :: vs => (wipeR ρ vs).set v .no
def backR (ρ0 ρ : Rho) : List Nat → Rho
  | [] => ρ
  | v :: vs => (backR ρ0 ρ vs).set v ((ρ0[v]?).getD .no)
def plainSl : Option Sl → Bool
  | some .no => true
  | some (.d _) => true
  | _ => false
def lcM (vs : List Nat) (g : D → Rho → Option Rho) (t : M Bool) (e : M Vl) : List D → List D → M (List D)
  | [], acc, ρ => some (acc, ρ)
  | x :: xs, acc, ρ => (g x ρ).bind fun ρ1 => (t ρ1).bind fun p => if p.1 = true then (e p.2).bind fun q => (frz q.2 (stl q.1)).bind fun z => if acc.length < lim then lcM vs g t e xs (acc ++ [z.1]) (wipeR z.2 vs) else none else lcM vs g t e xs acc (wipeR p.2 vs)
def eLc (vs : List Nat) (src : M (List D)) (g : D → Rho → Option Rho) (t : M Bool) (e : M Vl) : M Vl := fun ρ => (src ρ).bind fun p => if (vs.all fun v => plainSl p.2[v]?) = true then (lcM vs g t e p.1 [] (wipeR p.2 vs)).bind fun q => some (.fr q.1, backR p.2 q.2 vs) else none

theorem wipeR_len (ρ : Rho) : ∀ vs : List Nat, (wipeR ρ vs).length = ρ.length
  | [] => rfl
  | v :: vs => by unfold wipeR; rw [List.length_set, wipeR_len ρ vs]
theorem backR_len (ρ0 ρ : Rho) : ∀ vs : List Nat, (backR ρ0 ρ vs).length = ρ.length
  | [] => rfl
  | v :: vs => by unfold backR; rw [List.length_set, backR_len ρ0 ρ vs]
theorem wipeR_ne {ρ : Rho} {j : Nat} : ∀ {vs : List Nat}, j ∉ vs → (wipeR ρ vs)[j]? = ρ[j]?
  | [], _ => rfl
  | v :: vs, h => by
    unfold wipeR
    rw [List.getElem?_set_ne (fun z => h (by rw [z]; exact List.mem_cons_self)), wipeR_ne fun z => h (List.mem_cons_of_mem _ z)]
theorem wipeR_mem {ρ : Rho} {j : Nat} {s : Sl} : ∀ {vs : List Nat}, j ∈ vs → (wipeR ρ vs)[j]? = some s → s = .no
  | [], h, _ => nomatch h
  | v :: vs, h, e => by
    unfold wipeR at e
    by_cases q : v = j
    · subst q
      by_cases hl : v < (wipeR ρ vs).length
      · rw [List.getElem?_set_self hl] at e
        exact (Option.some.inj e).symm
      · rw [List.getElem?_eq_none (by rw [List.length_set]; omega)] at e
        cases e
    · rw [List.getElem?_set_ne q] at e
      rcases List.mem_cons.mp h with z | z
      · exact absurd z.symm q
      · exact wipeR_mem z e
theorem wipe_ne {σ : L2.St} {j : Nat} : ∀ {vs : List Nat}, j ∉ vs → (wipe σ vs)[j]? = σ[j]?
  | [], _ => rfl
  | v :: vs, h => by
    unfold wipe
    rw [List.getElem?_set_ne (fun z => h (by rw [z]; exact List.mem_cons_self)), wipe_ne fun z => h (List.mem_cons_of_mem _ z)]
theorem backR_ne {ρ0 ρ : Rho} {j : Nat} : ∀ {vs : List Nat}, j ∉ vs → (backR ρ0 ρ vs)[j]? = ρ[j]?
  | [], _ => rfl
  | v :: vs, h => by
    unfold backR
    rw [List.getElem?_set_ne (fun z => h (by rw [z]; exact List.mem_cons_self)), backR_ne fun z => h (List.mem_cons_of_mem _ z)]
theorem backR_mem {ρ0 ρ : Rho} {j : Nat} {s : Sl} : ∀ {vs : List Nat}, j ∈ vs → (backR ρ0 ρ vs)[j]? = some s → s = (ρ0[j]?).getD .no
  | [], h, _ => nomatch h
  | v :: vs, h, e => by
    unfold backR at e
    by_cases q : v = j
    · subst q
      by_cases hl : v < (backR ρ0 ρ vs).length
      · rw [List.getElem?_set_self hl] at e
        exact (Option.some.inj e).symm
      · rw [List.getElem?_eq_none (by rw [List.length_set]; omega)] at e
        cases e
    · rw [List.getElem?_set_ne q] at e
      rcases List.mem_cons.mp h with z | z
      · exact absurd z.symm q
      · exact backR_mem z e
section
variable {K : PySem.W.Frag} {G : Gd} {ρ ρ1 ρ2 : Rho} {σ : L2.St} {H H1 H2 F F1 F2 : Hp} {vs : List Nat}
/-- own slots forgotten (they hold no list of one's own) -/
theorem wd_wipe {σ' : L2.St} (W : Wd K G ρ σ H F) (hσ : ∀ j, j ∉ vs → σ'[j]? = σ[j]?) (hl : σ'.length = σ.length) (pl : ∀ v ∈ vs, ∀ s, ρ[v]? = some s → ∀ xs, s ≠ .io xs) : Wd K G (wipeR ρ vs) σ' H F := by
  have get : ∀ (j : Nat) (s : Sl), (wipeR ρ vs)[j]? = some s → s = .no ∨ (j ∉ vs ∧ ρ[j]? = some s) := fun j s h => by
    by_cases hj : j ∈ vs
    · exact .inl (wipeR_mem hj h)
    · rw [wipeR_ne hj] at h
      exact .inr ⟨hj, h⟩
  have ow : ∀ {j : Nat} {a : Addr}, Ow (wipeR ρ vs) σ' j a → Ow ρ σ j a := fun {j a} o => by
    obtain ⟨⟨ys, o1⟩, o2⟩ := o
    have nj : j ∉ vs := fun z => by
      rcases o1 with o1 | o1
      · cases wipeR_mem z o1
      · cases wipeR_mem z o1
    rw [wipeR_ne nj] at o1
    exact ⟨⟨ys, o1⟩, by rw [← hσ j nj]; exact o2⟩
  refine ⟨by rw [wipeR_len, hl]; exact W.len, by rw [hl]; exact W.gl, W.sub, W.f0, W.kp, W.nw, W.it, fun j s h => ?_, fun i j a o1 o2 => W.ap i j a (ow o1) (ow o2), fun j a h => ?_⟩
  · rcases get j s h with rfl | ⟨nj, h⟩
    · trivial
    · have q := W.sl j s h
      cases s with
      | no => trivial
      | xa b dx f => exact ⟨(hσ j nj).trans q.1, q.2⟩
      | d x => obtain ⟨u, e, r⟩ := q; exact ⟨u, (hσ j nj).trans e, r⟩
      | ow ys => obtain ⟨a, us, e, p⟩ := q; exact ⟨a, us, (hσ j nj).trans e, p⟩
      | io ys => obtain ⟨a, us, e, p⟩ := q; exact ⟨a, us, (hσ j nj).trans e, p⟩
  · obtain ⟨⟨ys, z1⟩, z2⟩ := W.ai j a h
    have nj : j ∉ vs := fun z => pl j z _ z1 ys rfl
    exact ⟨⟨ys, by rw [wipeR_ne nj]; exact z1⟩, by rw [hσ j nj]; exact z2⟩
theorem plain_of {v : Nat} (h : plainSl ρ[v]? = true) : ∀ s, ρ[v]? = some s → (∀ xs, s ≠ .io xs) ∧ ∀ xs, s ≠ .ow xs := fun s e => by
  rw [e] at h
  cases s with
  | no => exact ⟨fun _ z => (nomatch z), fun _ z => (nomatch z)⟩
  | xa b dx f => cases h
  | d x => exact ⟨fun _ z => (nomatch z), fun _ z => (nomatch z)⟩
  | ow xs => cases h
  | io xs => cases h
/-- back to the def's own slots -/
theorem unwipe (W : Wd K G ρ σ H F) (pl : ∀ v ∈ vs, plainSl ρ[v]? = true) (s : Ste K G (wipeR ρ vs) (wipe σ vs) H F ρ2 H2 F2) : Ste K G ρ σ H F (backR ρ ρ2 vs) H2 F2 := by
  have ow1 : ∀ {j : Nat} {a : Addr}, Ow ρ σ j a → Ow (wipeR ρ vs) (wipe σ vs) j a := fun {j a} o => by
    obtain ⟨⟨ys, o1⟩, o2⟩ := o
    have nj : j ∉ vs := fun z => by
      rcases o1 with o1 | o1
      · exact (plain_of (pl j z) _ o1).2 ys rfl
      · exact (plain_of (pl j z) _ o1).1 ys rfl
    exact ⟨⟨ys, by rw [wipeR_ne nj]; exact o1⟩, by rw [wipe_ne nj]; exact o2⟩
  have ow1' : ∀ {j : Nat} {a : Addr}, Ow (wipeR ρ vs) (wipe σ vs) j a → Ow ρ σ j a := fun {j a} o => by
    obtain ⟨⟨ys, o1⟩, o2⟩ := o
    have nj : j ∉ vs := fun z => by
      rcases o1 with o1 | o1
      · cases wipeR_mem z o1
      · cases wipeR_mem z o1
    rw [wipeR_ne nj] at o1
    rw [wipe_ne nj] at o2
    exact ⟨⟨ys, o1⟩, o2⟩
  have ow2 : ∀ {j : Nat} {a : Addr}, Ow (backR ρ ρ2 vs) σ j a → Ow ρ2 (wipe σ vs) j a := fun {j a} o => by
    obtain ⟨⟨ys, o1⟩, o2⟩ := o
    have nj : j ∉ vs := fun z => by
      have pp := pl j z
      rcases o1 with o1 | o1
      · have e := backR_mem z o1
        cases q : ρ[j]? with
        | none => rw [q] at e; cases e
        | some s => rw [q] at e; exact (plain_of pp s q).2 ys e.symm
      · have e := backR_mem z o1
        cases q : ρ[j]? with
        | none => rw [q] at e; cases e
        | some s => rw [q] at e; exact (plain_of pp s q).1 ys e.symm
    rw [backR_ne nj] at o1
    exact ⟨⟨ys, o1⟩, by rw [wipe_ne nj]; exact o2⟩
  have W2 := s.wd
  refine ⟨⟨by rw [backR_len, W2.len, wipe_length], W.gl, W2.sub, W2.f0, W2.kp, W2.nw, W2.it, fun j s' h => ?_, fun i j a o1 o2 => W2.ap i j a (ow2 o1) (ow2 o2), fun j a h => ?_⟩, s.ff, fun b o h n => s.kk b o h fun i z => n i (ow1' z), fun b h => ?_, fun i a o => ow1' (s.oo i a (ow2 o)), s.tr⟩
  · by_cases hj : j ∈ vs
    · have e := backR_mem hj h
      have pp := pl j hj
      cases q : ρ[j]? with
      | none => rw [q] at e; rw [e]; trivial
      | some s0 =>
        rw [q] at e
        have e : s' = s0 := e
        subst e
        have old := W.sl j s' q
        cases s' with
        | no => trivial
        | xa b dx f => exact ⟨old.1, old.2.mono s.ff⟩
        | d x => obtain ⟨u, e, r⟩ := old; exact ⟨u, e, r.mono s.ff⟩
        | ow xs => exact absurd rfl ((plain_of pp _ q).2 xs)
        | io xs => exact absurd rfl ((plain_of pp _ q).1 xs)
    · rw [backR_ne hj] at h
      have q := W2.sl j s' h
      have eσ : (wipe σ vs)[j]? = σ[j]? := wipe_ne hj
      cases s' with
      | no => trivial
      | xa b dx f => exact ⟨eσ.symm.trans q.1, q.2⟩
      | d x => obtain ⟨u, e, r⟩ := q; exact ⟨u, eσ.symm.trans e, r⟩
      | ow ys => obtain ⟨a, us, e, p⟩ := q; exact ⟨a, us, eσ.symm.trans e, p⟩
      | io ys => obtain ⟨a, us, e, p⟩ := q; exact ⟨a, us, eσ.symm.trans e, p⟩
  · obtain ⟨⟨ys, z1⟩, z2⟩ := W.ai j a h
    have nj : j ∉ vs := fun z => (plain_of (pl j z) _ z1).1 ys rfl
    obtain ⟨⟨ws, y1⟩, _⟩ := W2.ai j a h
    exact ⟨⟨ws, by rw [backR_ne nj]; exact y1⟩, z2⟩
  · rcases s.nf b h with q | q | ⟨i, q⟩
    · exact .inl q
    · exact .inr (.inl q)
    · exact .inr (.inr ⟨i, ow1' q⟩)
/-- a new thing that no slot owns is changed -/
theorem ste_upd {a : Addr} {o : HO} (W : Wd K G ρ σ H F) (s : Ste K G ρ σ H F ρ2 H2 F2) (h1 : H a = none) (h2 : F2 a = none) (h3 : ∀ i, ¬ Ow ρ2 σ i a) : Ste K G ρ σ H F ρ2 (upd H2 a o) F2 := by
  have W2 := s.wd
  have nm : a ∉ G.ia.map (·.2) := fun z => W.it a z h1
  refine ⟨⟨W2.len, W2.gl, fun b x e => ?_, W2.f0, fun b x e q => ?_, W2.nw, fun b z => ?_, fun j s' h => ?_, W2.ap, W2.ai⟩, s.ff, fun b x e n => ?_, s.nf, s.oo, fun b z => ?_⟩
  · have nb : b ≠ a := fun z => by rw [z, h2] at e; cases e
    rw [upd_ne nb]; exact W2.sub _ _ e
  · have nb : b ≠ a := fun z => by
      have := W.h0 h1
      rw [← z, e] at this; cases this
    rw [upd_ne nb]; exact W2.kp b x e q
  · have nb : b ≠ a := fun y => nm (by rw [← y]; exact z)
    rw [upd_ne nb]; exact W2.it b z
  · have q := W2.sl j s' h
    cases s' with
    | no => trivial
    | xa b dx f => exact q
    | d x => exact q
    | ow ys =>
      obtain ⟨c, us, e, p1, p2⟩ := q
      have nc : c ≠ a := fun z => h3 j ⟨⟨ys, .inl h⟩, by rw [← z]; exact e⟩
      exact ⟨c, us, e, by rw [upd_ne nc]; exact p1, p2⟩
    | io ys =>
      obtain ⟨c, us, e, p1, p2⟩ := q
      have nc : c ≠ a := fun z => h3 j ⟨⟨ys, .inr h⟩, by rw [← z]; exact e⟩
      exact ⟨c, us, e, by rw [upd_ne nc]; exact p1, p2⟩
  · have nb : b ≠ a := fun z => by rw [z, h1] at e; cases e
    rw [upd_ne nb]; exact s.kk b x e n
  · by_cases nb : b = a
    · rw [nb, upd_same]; simp
    · rw [upd_ne nb]; exact s.tr b z
end
abbrev STs (X : Cx) (es : List Expr) (m : M Bool) : Prop := PTs X es (tMT X.K m)
def tYesM : M Bool := fun ρ => some (true, ρ)
theorem sts_nil {X : Cx} : STs X [] tYesM := ⟨fun pins s σ H Q I h => (pts_nil (X := X)).run pins s σ H Q I (by
  obtain ⟨G, ρ, F, b, ρ', W, hm, q⟩ := h
  cases hm
  exact q H F (Ste.refl W))⟩
theorem sts_one {X : Cx} {c : Expr} {m : M Bool} (h : ST X c m) : STs X [c] m := pts_one h
/-- a target changes its own slots alone, and lays data there -/
def GOk (is : List Nat) (g : D → Rho → Option Rho) : Prop := ∀ x ρ ρ', g x ρ = some ρ' → (∀ j : Nat, j ∉ is → ρ'[j]? = ρ[j]?) ∧ ∀ (j : Nat) s, ρ'[j]? = some s → ρ[j]? = some s ∨ ∃ d, s = .d d
def GsOk (is : List Nat) (g : List D → Rho → Option Rho) : Prop := ∀ x ρ ρ', g x ρ = some ρ' → (∀ j : Nat, j ∉ is → ρ'[j]? = ρ[j]?) ∧ ∀ (j : Nat) s, ρ'[j]? = some s → ρ[j]? = some s ∨ ∃ d, s = .d d
theorem gok_name (i : Nat) : GOk [i] (gN i) := fun x ρ ρ' h => by
  unfold gN asg at h
  split at h
  · cases h
  · cases h
  · rename_i s0 nio h0
    have hi : i < ρ.length := (List.getElem?_eq_some_iff.mp h0).1
    cases h
    refine ⟨fun j hj => List.getElem?_set_ne (fun z => hj (by rw [z]; exact List.mem_cons_self)), fun j s e => ?_⟩
    by_cases q : i = j
    · subst q
      rw [List.getElem?_set_self hi] at e
      cases e
      exact .inr ⟨x, rfl⟩
    · rw [List.getElem?_set_ne q] at e
      exact .inl e
theorem gsok_nil : GsOk [] gsN := fun xs ρ ρ' h => by
  unfold gsN at h
  split at h
  · cases h; exact ⟨fun _ _ => rfl, fun _ _ e => .inl e⟩
  · cases h
theorem gsok_cons {is js : List Nat} {g : D → Rho → Option Rho} {r : List D → Rho → Option Rho} (h1 : GOk is g) (h2 : GsOk js r) : GsOk (is ++ js) (gsC g r) := fun xs ρ ρ' h => by
  unfold gsC at h
  split at h
  · obtain ⟨ρ1, e1, h⟩ := Option.bind_eq_some_iff.mp h
    obtain ⟨a1, a2⟩ := h1 _ _ _ e1
    obtain ⟨b1, b2⟩ := h2 _ _ _ h
    refine ⟨fun j hj => (b1 j fun z => hj (List.mem_append_right _ z)).trans (a1 j fun z => hj (List.mem_append_left _ z)), fun j s e => ?_⟩
    rcases b2 j s e with q | q
    · exact a2 j s q
    · exact .inr q
  · cases h
theorem gok_tup {n : Nat} {is : List Nat} {r : List D → Rho → Option Rho} (h1 : GsOk is r) : GOk is (gT n r) := fun x ρ ρ' h => by
  unfold gT at h
  split at h
  · split at h
    · exact h1 _ _ _ h
    · cases h
  · cases h
section
variable {K : PySem.W.Frag} {src : M (List D)} {is vs : List Nat} {g : D → Rho → Option Rho} {t : M Bool} {e : M Vl}
theorem wipe_of_mod {σ σ2 : L2.St} (sub : ∀ i ∈ is, i ∈ vs) (m : Mod' is (wipe σ vs) σ2) : wipe σ2 vs = wipe σ vs := by
  apply List.ext_getElem?
  intro j
  by_cases hj : j ∈ vs
  · have f : ∀ (τ : L2.St), j < τ.length → (wipe τ vs)[j]? = some none := fun τ hl => by
      have hl2 : j < (wipe τ vs).length := by rw [wipe_length]; exact hl
      rw [List.getElem?_eq_getElem hl2]
      congr 1
      cases q : (wipe τ vs)[j] with
      | none => rfl
      | some v =>
        have z : (wipe τ vs)[j]? = some (some v) := by rw [List.getElem?_eq_getElem hl2, q]
        exact absurd hj (wipe_some z).2
    have hlen : σ2.length = σ.length := by rw [m.1, wipe_length]
    by_cases hl : j < σ.length
    · rw [f σ hl, f σ2 (by rw [hlen]; exact hl)]
    · rw [List.getElem?_eq_none (by rw [wipe_length, hlen]; omega), List.getElem?_eq_none (by rw [wipe_length]; omega)]
  · rw [wipe_ne hj, m.2 j fun z => hj (sub j z)]
theorem tlc_of (sub : ∀ i ∈ is, i ∈ vs) (gok : GOk is g) {σ : L2.St} {H : Hp} {Q : VK} (h : tM K (eLc vs src g t e) σ H Q) : tLc (tI K src) (tG K is g) (tMT K t) (tM K e) vs σ H Q := by
  obtain ⟨G, ρ, F, r, ρ', W, hm, q⟩ := h
  unfold eLc at hm
  obtain ⟨⟨xs, ρ1⟩, e1, hm⟩ := Option.bind_eq_some_iff.mp hm
  split at hm
  · rename_i hpl
    have pl : ∀ v ∈ vs, plainSl ρ1[v]? = true := fun v hv => List.all_eq_true.mp hpl v hv
    obtain ⟨⟨accE, ρE⟩, e2, hm⟩ := Option.bind_eq_some_iff.mp hm
    cases hm
    refine ⟨G, ρ, F, xs, ρ1, W, e1, fun J H1 F1 s1 jr D hD => ?_⟩
    have W1 := s1.wd
    have Ww : Wd K G (wipeR ρ1 vs) (wipe σ vs) H1 F1 := wd_wipe W1 (fun j hj => wipe_ne hj) (wipe_length σ vs) fun v hv s es => (plain_of (pl v hv) s es).1
    have fD : F1 D = none := W1.sub.free hD
    have A : Alc F1 H1 F1 (upd H1 D (.lst [])) := ⟨Same.refl _, W1.sub.trans (same_upd hD), same_upd hD, fun _ h => .inl h⟩
    have s0 := Ww.alc A
    have now0 : ∀ i, ¬ Ow (wipeR ρ1 vs) (wipe σ vs) i D := fun i o => by
      obtain ⟨_, z, _⟩ := Ww.ow_there o
      rw [hD] at z; cases z
    refine ⟨fun i m H2 => m = xs.length - i ∧ i ≤ xs.length ∧ ∃ ρi Fi acc us, Ste K G (wipeR ρ1 vs) (wipe σ vs) H1 F1 ρi H2 Fi ∧ H2 D = some (.lst us) ∧ Reps K Fi us acc ∧ Fi D = none ∧ (∀ i, ¬ Ow ρi (wipe σ vs) i D) ∧ (∀ v ∈ vs, ∀ s, ρi[v]? = some s → s = .no) ∧ lcM vs g t e (xs.drop i) acc ρi = some (accE, ρE),
      ⟨xs.length, by simp, Nat.zero_le _, wipeR ρ1 vs, F1, [], [], s0, upd_same, .nil, fD, now0, fun v hv s es => wipeR_mem hv es, e2⟩, ?_⟩
    rintro i m H2 ⟨rfl, hi, ρi, Fi, acc, us, si, hDi, ri, fi, oi, pi, hf⟩
    have Wi := si.wd
    by_cases hlt : i < xs.length
    · refine .inr ⟨jr.go i H2 (si.ff.trans Wi.sub) hlt, fun H' => ∃ ρi Fi acc us, Ste K G (wipeR ρ1 vs) (wipe σ vs) H1 F1 ρi H' Fi ∧ H' D = some (.lst us) ∧ Reps K Fi us acc ∧ Fi D = none ∧ (∀ i, ¬ Ow ρi (wipe σ vs) i D) ∧ (∀ v ∈ vs, ∀ s, ρi[v]? = some s → s = .no) ∧ lcM vs g t e (xs.drop (i + 1)) acc ρi = some (accE, ρE),
        fun H' ⟨ρj, Fj, acj, uj, a1, a2, a3, a4, a5, a6, a7⟩ => ⟨xs.length - (i + 1), by omega, rfl, hlt, ρj, Fj, acj, uj, a1, a2, a3, a4, a5, a6, a7⟩, fun x H' y => ?_⟩
      obtain ⟨F3, d, A3, hd, Rd⟩ := jr.yl i H2 Fi x H' hlt si.ff Wi.sub y
      have s3 := Wi.alc A3
      have ed : xs[i] = d := by
        rw [List.getElem?_eq_getElem hlt] at hd
        exact Option.some.inj hd
      rw [List.drop_eq_getElem_cons hlt, ed] at hf
      unfold lcM at hf
      obtain ⟨ρ4, e4, hf⟩ := Option.bind_eq_some_iff.mp hf
      obtain ⟨⟨b5, ρ5⟩, e5, hf⟩ := Option.bind_eq_some_iff.mp hf
      have h3D : H' D = some (.lst us) := s3.kk D _ hDi oi
      have f3D : F3 D = none := by
        cases z : F3 D with
        | none => rfl
        | some o =>
          rcases s3.nf D (by rw [z]; simp) with q | q | ⟨k, q⟩
          · exact absurd fi q
          · rw [hDi] at q; cases q
          · exact absurd q (oi k)
      refine ⟨G, ρi, F3, d, ρ4, s3.wd, Rd, e4, fun σ4 W4 m4 => ⟨wipe_of_mod sub m4, ?_⟩⟩
      obtain ⟨g1, g2⟩ := gok _ _ _ e4
      -- slots of one's own before and behind the target
      have ow4 : ∀ {j : Nat} {a : Addr}, Ow ρ4 σ4 j a → Ow ρi (wipe σ vs) j a := fun {j a} o => by
        obtain ⟨⟨ys, o1⟩, o2⟩ := o
        have nj : j ∉ vs := fun z => by
          rcases o1 with o1 | o1
          · rcases g2 j _ o1 with q | ⟨_, q⟩
            · cases pi j z _ q
            · cases q
          · rcases g2 j _ o1 with q | ⟨_, q⟩
            · cases pi j z _ q
            · cases q
        rw [g1 j fun z => nj (sub j z)] at o1
        exact ⟨⟨ys, o1⟩, by rw [← m4.2 j fun z => nj (sub j z)]; exact o2⟩
      have turn : ∀ {ρ6 : Rho} {H6 F6 : Hp}, Ste K G ρ4 σ4 H' F3 ρ6 H6 F6 → Ste K G (wipeR ρ1 vs) (wipe σ vs) H1 F1 (wipeR ρ6 vs) H6 F6 ∧ H6 D = some (.lst us) ∧ F6 D = none ∧ (∀ i, ¬ Ow (wipeR ρ6 vs) (wipe σ vs) i D) := fun {ρ6 H6 F6} s6 => by
        have ow6 : ∀ {j : Nat} {a : Addr}, Ow (wipeR ρ6 vs) (wipe σ vs) j a → Ow ρi (wipe σ vs) j a := fun {j a} o => by
          obtain ⟨⟨ys, o1⟩, o2⟩ := o
          have nj : j ∉ vs := fun z => by
            rcases o1 with o1 | o1
            · cases wipeR_mem z o1
            · cases wipeR_mem z o1
          rw [wipeR_ne nj] at o1
          exact ow4 (s6.oo j a ⟨⟨ys, o1⟩, by rw [m4.2 j fun z => nj (sub j z)]; exact o2⟩)
        have W6 : Wd K G (wipeR ρ6 vs) (wipe σ vs) H6 F6 := wd_wipe s6.wd (fun j hj => (m4.2 j fun z => hj (sub j z)).symm) m4.1.symm fun v hv s es xs z => by
          subst z
          obtain ⟨a, _, _, _, _, _, e5⟩ := s6.wd.sl v _ es
          obtain ⟨⟨ys, y1⟩, _⟩ := Wi.ai v a e5
          cases pi v hv _ y1
        have d4 : ∀ i, ¬ Ow ρ4 σ4 i D := fun k o => oi k (ow4 o)
        refine ⟨⟨W6, (si.ff.trans A3.ff).trans s6.ff, fun b o hb n => ?_, fun b hb => ?_, fun k a o => si.oo k a (ow6 o), fun b hb => s6.tr b (s3.tr b (si.tr b hb))⟩, s6.kk D _ h3D d4, ?_, fun k o => oi k (ow6 o)⟩
        · exact s6.kk b o (s3.kk b o (si.kk b o hb n) fun k z => n k (si.oo k b z)) fun k z => n k (si.oo k b (ow4 z))
        · have fromF3 : F3 b ≠ none → F1 b ≠ none ∨ H1 b = none ∨ ∃ i, Ow (wipeR ρ1 vs) (wipe σ vs) i b := fun z => by
            rcases s3.nf b z with q | q | ⟨k, q⟩
            · exact si.nf b q
            · exact .inr (.inl (si.back b q))
            · exact .inr (.inr ⟨k, si.oo k b q⟩)
          rcases s6.nf b hb with q | q | ⟨k, q⟩
          · exact fromF3 q
          · exact .inr (.inl (si.back b (s3.back b q)))
          · exact .inr (.inr ⟨k, si.oo k b (ow4 q)⟩)
        · cases z : F6 D with
          | none => rfl
          | some o =>
            rcases s6.nf D (by rw [z]; simp) with q | q | ⟨k, q⟩
            · exact absurd f3D q
            · rw [h3D] at q; cases q
            · exact absurd q (d4 k)
      refine ⟨G, ρ4, F3, b5, ρ5, W4, e5, fun H5 F5 s5 => ?_⟩
      cases b5 with
      | false =>
        simp only [Bool.false_eq_true, if_false] at hf ⊢
        obtain ⟨t1, t2, t3, t4⟩ := turn s5
        exact ⟨wipeR ρ5 vs, F5, acc, us, t1, t2, ri.mono (A3.ff.trans s5.ff), t3, t4, fun v hv s es => wipeR_mem hv es, hf⟩
      | true =>
        simp only [if_true] at hf ⊢
        obtain ⟨⟨r6, ρ6⟩, e6, hf⟩ := Option.bind_eq_some_iff.mp hf
        obtain ⟨⟨x7, ρ7⟩, e7, hf⟩ := Option.bind_eq_some_iff.mp hf
        split at hf
        · rename_i hlen
          refine tm_use s5.wd e6 fun v6 H6 F6 s6 R6 => ?_
          obtain ⟨F7, s7, R7⟩ := frz_ok s6.wd R6 e7
          have s57 := (s5.trans s6).trans s7
          obtain ⟨t1, t2, t3, t4⟩ := turn s57
          have ra : Reps K F7 us acc := ri.mono (A3.ff.trans s57.ff)
          refine ⟨us, t2, lim_lt (by rw [ra.len]; exact hlen), wipeR ρ7 vs, F7, acc ++ [x7], us ++ [v6], ste_upd Ww t1 hD t3 t4, upd_same, ra.append (.cons R7 .nil), t3, t4, fun v hv s es => wipeR_mem hv es, hf⟩
        · cases hf
    · have e : i = xs.length := by omega
      subst e
      rw [List.drop_length] at hf
      cases hf
      refine .inl ⟨jr.st _ H2 (si.ff.trans Wi.sub) (Nat.le_refl _), ?_⟩
      have sU := unwipe W1 pl si
      exact q _ H2 Fi (s1.trans sU) ⟨D, us, rfl, hDi, ri, fi, s1.back D hD, fun k o => by
        obtain ⟨_, z, _⟩ := W1.ow_there (sU.oo k D o)
        rw [hD] at z; cases z⟩
  · cases hm
end
section
variable {X : Cx} {elt tg iter : Expr} {ifs : List Expr} {scope : Scope} {own : List (Str × Nat)} {pos : Pos} {src : M (List D)} {is : List Nat} {g : D → Rho → Option Rho} {t : M Bool} {e : M Vl}
theorem se_lc (hc : X.calm = true) (hN : X.N.Nodup) (hi : SI X tg iter src) (ok : BlkOk X.N X.env.scope scope own) (sub : ∀ i ∈ is, i ∈ own.map (·.2)) (gok : GOk is g)
    (hg : ∀ (s : Shared) (H : Hp) (C : Addr) (cl : List (Str × Addr)) (fp : List Addr), SG (X.blk s H scope (compEnvC scope cl C X.env) fp) tg is g) (ht : ∀ (s : Shared) (H : Hp) (C : Addr) (cl : List (Str × Addr)) (fp : List Addr), STs (X.blk s H scope (compEnvC scope cl C X.env) fp) ifs t)
    (he : ∀ (s : Shared) (H : Hp) (C : Addr) (cl : List (Str × Addr)) (fp : List Addr), SE (X.blk s H scope (compEnvC scope cl C X.env) fp) elt e) (hs : ∀ x, foldedSetIterable iter X.env x = pure x := by intro _; rfl) :
    SE X (.ListComp elt [⟨tg, iter, ifs, 0⟩] scope pos) (eLc (own.map (·.2)) src g t e) :=
  pe_weak (pe_lc hc hN hi ok hg ht he hs) fun _ _ _ h => tlc_of sub gok h
theorem ss_setlc {i : Nat} {y : Str} {py : Pos} {spos : Pos} (hc : X.calm = true) (hN : X.N.Nodup) (hy : X.N[i]? = some y) (hyl : X.env.scope.names.lookup y = some .local)
    (hsw : swapsWith (.ListComp elt [⟨tg, iter, ifs, 0⟩] scope pos) (some (.Name y py)) spos.line X.env = pure true) (hi : SI X tg iter src) (ok : BlkOk X.N X.env.scope scope own) (sub : ∀ i ∈ is, i ∈ own.map (·.2)) (gok : GOk is g)
    (hg : ∀ (s : Shared) (H : Hp) (C : Addr) (cl : List (Str × Addr)) (fp : List Addr), SG (X.blk s H scope (compEnvC scope cl C X.env) fp) tg is g) (ht : ∀ (s : Shared) (H : Hp) (C : Addr) (cl : List (Str × Addr)) (fp : List Addr), STs (X.blk s H scope (compEnvC scope cl C X.env) fp) ifs t)
    (he : ∀ (s : Shared) (H : Hp) (C : Addr) (cl : List (Str × Addr)) (fp : List Addr), SE (X.blk s H scope (compEnvC scope cl C X.env) fp) elt e) (hs : ∀ x, foldedSetIterable iter X.env x = pure x := by intro _; rfl) :
    SSW X Wx (.Assign [.Name y py] (.ListComp elt [⟨tg, iter, ifs, 0⟩] scope pos) spos) (sAsg i (eLc (own.map (·.2)) src g t e)) :=
  ps_weak (ps_setLc hc hN hy hyl hsw hi ok hg ht he hs) fun D σ H h => by
    obtain ⟨G, ρ, F, r, ρ', W, hm, q⟩ := sasg_of h
    exact tlc_of sub gok ⟨G, ρ, F, r, ρ', W, hm, q⟩
end
end Sw
namespace Sw
open PySem PySem.Spec PyProof.Rows L2

theorem vw_int {K : PySem.W.Frag} {H F : Hp} {v : V} {i : Int} (h : Vw K H F v (.int i)) : v = .int i := by
  cases (show Rep K F v (.int i) from h); rfl
theorem vw_bl {K : PySem.W.Frag} {H F : Hp} {v : V} {i : Bool} (h : Vw K H F v (.bl i)) : v = .bl i := by
  cases (show Rep K F v (.bl i) from h); rfl
theorem vw_str {K : PySem.W.Frag} {H F : Hp} {v : V} {s : List Nat} (h : Vw K H F v (.str s)) : v = .str ⟨s.toArray⟩ := by
  cases (show Rep K F v (.str s) from h); rfl
theorem vw_non {K : PySem.W.Frag} {H F : Hp} {v : V} (h : Vw K H F v .non) : v = .non := by
  cases (show Rep K F v .non from h); rfl

section
variable {K : PySem.W.Frag}
/-! ### ints -/
def fInt (g : Int → Int → D) : D → D → Option D
  | .int i, .int j => some (g i j)
  | _, _ => none
def fIntC (C : Int → Int → Bool) (g : Int → Int → D) : D → D → Option D
  | .int i, .int j => if C i j = true then some (g i j) else none
  | _, _ => none
theorem os_int {g : Int → Int → D} {h : Int → Int → V} (r : ∀ i j F, Rep K F (h i j) (g i j)) : OpS K (rI0 h) (fInt g) := by
  intro H F v u x y z s hx hy e Q q
  unfold fInt at e
  split at e
  · cases e
    rw [vw_int hx, vw_int hy]
    exact ⟨_, _, rfl, rfl, q _ H F (Alc.refl s) (r _ _ F)⟩
  · cases e
theorem os_intC {C : Int → Int → Prop} {c : Int → Int → Bool} {g : Int → Int → D} {h : Int → Int → V} (hc : ∀ i j, c i j = true → C i j) (r : ∀ i j F, Rep K F (h i j) (g i j)) : OpS K (rI C h) (fIntC c g) := by
  intro H F v u x y z s hx hy e Q q
  unfold fIntC at e
  split at e
  · split at e
    · rename_i hC
      cases e
      rw [vw_int hx, vw_int hy]
      exact ⟨_, _, rfl, rfl, hc _ _ hC, q _ H F (Alc.refl s) (r _ _ F)⟩
    · cases e
  · cases e
/-! ### texts -/
def fCatS : D → D → Option D
  | .str a, .str b => if a.length + b.length ≤ lim then some (.str (a ++ b)) else none
  | _, _ => none
theorem os_catS : OpS K (fun x y H Q => ∃ i j : Str, x = .str i ∧ y = .str j ∧ i.length + j.length ≤ sizeLine ∧ Q (.str (i ++ j)) H) fCatS := by
  intro H F v u x y z s hx hy e Q q
  unfold fCatS at e
  split at e
  · split at e
    · rename_i hl
      cases e
      rw [vw_str hx, vw_str hy]
      refine ⟨_, _, rfl, rfl, lim_of (by simpa [Str.length] using hl), q _ H F (Alc.refl s) ?_⟩
      have e : ∀ a b : List Nat, ((⟨a.toArray⟩ : Str) ++ ⟨b.toArray⟩) = ⟨(a ++ b).toArray⟩ := fun a b => by
        show (⟨a.toArray ++ b.toArray⟩ : Str) = _
        simp
      rw [e]
      exact .str _
    · cases e
  · cases e
/-! ### lists, tuples joined -/
def fCatL : D → D → Option D
  | .lst a, .lst b => if a.length + b.length ≤ lim then some (.lst (a ++ b)) else none
  | _, _ => none
theorem os_catL : OpS K rCat fCatL := by
  intro H F v u x y z s hx hy e Q q
  unfold fCatL at e
  split at e
  · split at e
    · rename_i hl
      cases e
      obtain ⟨a, vs, rfl, h1, h2⟩ := hx
      obtain ⟨b, us, rfl, h3, h4⟩ := hy
      refine ⟨a, b, vs, us, rfl, rfl, h1, h3, lim_of (by rw [h2.len, h4.len]; exact hl), fun p hp => ?_⟩
      have A := Alc.new (o := HO.lst (vs ++ us)) s hp
      exact q _ _ _ A (.lst upd_same ((h2.append h4).mono A.ff))
    · cases e
  · cases e
def fCatT : D → D → Option D
  | .tup a, .tup b => if a.length + b.length ≤ lim then some (.tup (a ++ b)) else none
  | _, _ => none
theorem os_catT : OpS K (rCatA K) fCatT := by
  intro H F v u x y z s hx hy e Q q
  unfold fCatT at e
  split at e
  · split at e
    · rename_i hl
      cases e
      cases (show Rep K F v (.tup _) from hx) with
      | @tup a vs _ h1 h2 =>
        cases (show Rep K F u (.tup _) from hy) with
        | @tup b us _ h3 h4 =>
          refine ⟨a, b, vs, us, rfl, rfl, same_t s h1, same_t s h3, lim_of (by rw [h2.len, h4.len]; exact hl), fun z => ?_, fun _ z => ?_, fun _ _ p hp => ?_⟩
          · subst z
            cases h2
            exact q _ H F (Alc.refl s) (.tup h3 h4)
          · subst z
            cases h4
            rw [List.append_nil] at q
            exact q _ H F (Alc.refl s) (.tup h1 h2)
          · have A := Alc.new (o := HO.tup (vs ++ us)) s hp
            exact q _ _ _ A (.tup (SqT.of upd_same) ((h2.append h4).mono A.ff))
    · cases e
  · cases e
/-! ### == of scalars -/
def eqS : D → D → Option Bool
  | .int i, .int j => some (decide (i = j))
  | .str i, .str j => some (decide (i = j))
  | .bl i, .bl j => some (decide (i = j))
  | .non, .non => some true
  | .non, .int _ => some false
  | .non, .str _ => some false
  | .non, .bl _ => some false
  | .int _, .non => some false
  | .str _, .non => some false
  | .bl _, .non => some false
  | .int _, .str _ => some false
  | .str _, .int _ => some false
  | .bl _, .str _ => some false
  | .str _, .bl _ => some false
  | _, _ => none
def fEqS : D → D → Option D := fun x y => (eqS x y).bind fun b => some (.bl b)
def fNeS : D → D → Option D := fun x y => (eqS x y).bind fun b => some (.bl (!b))
theorem eqS_ok {H F : Hp} {v u : V} {x y : D} {b : Bool} (hx : Vw K H F v x) (hy : Vw K H F u y) (e : eqS x y = some b) : scal v u = true ∧ decide (v = u) = b := by
  unfold eqS at e
  split at e <;> (first | cases e | skip)
  · rw [vw_int hx, vw_int hy]; exact ⟨rfl, by simp⟩
  · rw [vw_str hx, vw_str hy]; exact ⟨rfl, by simp⟩
  · rw [vw_bl hx, vw_bl hy]; exact ⟨rfl, by simp⟩
  · rw [vw_non hx, vw_non hy]; exact ⟨rfl, by simp⟩
  · rw [vw_non hx, vw_int hy]; exact ⟨rfl, by simp⟩
  · rw [vw_non hx, vw_str hy]; exact ⟨rfl, by simp⟩
  · rw [vw_non hx, vw_bl hy]; exact ⟨rfl, by simp⟩
  · rw [vw_int hx, vw_non hy]; exact ⟨rfl, by simp⟩
  · rw [vw_str hx, vw_non hy]; exact ⟨rfl, by simp⟩
  · rw [vw_bl hx, vw_non hy]; exact ⟨rfl, by simp⟩
  · rw [vw_int hx, vw_str hy]; exact ⟨rfl, by simp⟩
  · rw [vw_str hx, vw_int hy]; exact ⟨rfl, by simp⟩
  · rw [vw_bl hx, vw_str hy]; exact ⟨rfl, by simp⟩
  · rw [vw_str hx, vw_bl hy]; exact ⟨rfl, by simp⟩
theorem os_eq : OpS K rEq fEqS := by
  intro H F v u x y z s hx hy e Q q
  obtain ⟨b, e1, e⟩ := Option.bind_eq_some_iff.mp e
  cases e
  obtain ⟨h1, h2⟩ := eqS_ok hx hy e1
  exact ⟨h1, by rw [h2]; exact q _ H F (Alc.refl s) (.bl b)⟩
theorem os_ne : OpS K rNe fNeS := by
  intro H F v u x y z s hx hy e Q q
  obtain ⟨b, e1, e⟩ := Option.bind_eq_some_iff.mp e
  cases e
  obtain ⟨h1, h2⟩ := eqS_ok hx hy e1
  exact ⟨h1, by rw [h2]; exact q _ H F (Alc.refl s) (.bl _)⟩
/-! ### is None, is True -/
def fIsN : D → D → Option D
  | .non, .non => some (.bl true)
  | _, .non => some (.bl false)
  | _, _ => none
def fNotN : D → D → Option D
  | .non, .non => some (.bl false)
  | _, .non => some (.bl true)
  | _, _ => none
theorem vw_ne_non {H F : Hp} {v : V} {x : D} (h : Vw K H F v x) (n : x ≠ .non) : v ≠ .non := by
  cases x with
  | non => exact absurd rfl n
  | bl b => rw [vw_bl h]; simp
  | int b => rw [vw_int h]; simp
  | str b => rw [vw_str h]; simp
  | lst b => obtain ⟨a, _, rfl, _⟩ := h; simp
  | tup b => cases (show Rep K F v (.tup b) from h); simp
  | scr b => cases (show Rep K F v (.scr b) from h); simp
  | obj c ks xs => cases (show Rep K F v (.obj c ks xs) from h); simp
theorem os_isN : OpS K (fun x y H Q => y = .non ∧ Q (.bl (decide (x = .non))) H) fIsN := by
  intro H F v u x y z s hx hy e Q q
  unfold fIsN at e
  split at e
  · cases e
    rw [vw_non hx, vw_non hy]
    exact ⟨rfl, by simpa using q _ H F (Alc.refl s) (.bl true)⟩
  · rename_i n
    cases e
    rw [vw_non hy]
    have : decide (v = V.non) = false := decide_eq_false (vw_ne_non hx n)
    exact ⟨rfl, by rw [this]; exact q _ H F (Alc.refl s) (.bl false)⟩
  · cases e
theorem os_notN : OpS K (fun x y H Q => y = .non ∧ Q (.bl (!decide (x = .non))) H) fNotN := by
  intro H F v u x y z s hx hy e Q q
  unfold fNotN at e
  split at e
  · cases e
    rw [vw_non hx, vw_non hy]
    exact ⟨rfl, by simpa using q _ H F (Alc.refl s) (.bl false)⟩
  · rename_i n
    cases e
    rw [vw_non hy]
    have : decide (v = V.non) = false := decide_eq_false (vw_ne_non hx n)
    exact ⟨rfl, by rw [this]; exact q _ H F (Alc.refl s) (.bl true)⟩
  · cases e
def fIsB : D → D → Option D
  | .bl a, .bl b => some (.bl (decide (a = b)))
  | _, _ => none
def fNotB : D → D → Option D
  | .bl a, .bl b => some (.bl (!decide (a = b)))
  | _, _ => none
theorem os_isB : OpS K (fun x y H Q => ∃ a b, x = .bl a ∧ y = .bl b ∧ Q (.bl (decide (a = b))) H) fIsB := by
  intro H F v u x y z s hx hy e Q q
  unfold fIsB at e
  split at e
  · cases e
    rw [vw_bl hx, vw_bl hy]
    exact ⟨_, _, rfl, rfl, q _ H F (Alc.refl s) (.bl _)⟩
  · cases e
theorem os_notB : OpS K (fun x y H Q => ∃ a b, x = .bl a ∧ y = .bl b ∧ Q (.bl (!decide (a = b))) H) fNotB := by
  intro H F v u x y z s hx hy e Q q
  unfold fNotB at e
  split at e
  · cases e
    rw [vw_bl hx, vw_bl hy]
    exact ⟨_, _, rfl, rfl, q _ H F (Alc.refl s) (.bl _)⟩
  · cases e
/-! ### in -/
def fInS : D → D → Option D
  | .str [c], .str s => some (.bl (decide (c ∈ s)))
  | _, _ => none
def fNiS : D → D → Option D
  | .str [c], .str s => some (.bl (!decide (c ∈ s)))
  | _, _ => none
theorem os_inS : OpS K (fun x y H Q => ∃ (c : Nat) (z : Str), x = .str ⟨#[c]⟩ ∧ y = .str z ∧ Q (.bl (decide (c ∈ z.cps.toList))) H) fInS := by
  intro H F v u x y z s hx hy e Q q
  unfold fInS at e
  split at e
  · cases e
    rw [vw_str hx, vw_str hy]
    exact ⟨_, _, rfl, rfl, by simpa using q _ H F (Alc.refl s) (.bl _)⟩
  · cases e
theorem os_niS : OpS K (fun x y H Q => ∃ (c : Nat) (z : Str), x = .str ⟨#[c]⟩ ∧ y = .str z ∧ Q (.bl (!decide (c ∈ z.cps.toList))) H) fNiS := by
  intro H F v u x y z s hx hy e Q q
  unfold fNiS at e
  split at e
  · cases e
    rw [vw_str hx, vw_str hy]
    exact ⟨_, _, rfl, rfl, by simpa using q _ H F (Alc.refl s) (.bl _)⟩
  · cases e
/-! ### items -/
def fIxS : D → D → Option D
  | .str s, .int i => if s.length ≤ lim then (atI s i).bind fun c => some (.str [c]) else none
  | _, _ => none
def fIxT : D → D → Option D
  | .tup xs, .int i => atI xs i
  | _, _ => none
def fIxL : D → D → Option D
  | .lst xs, .int i => atI xs i
  | _, _ => none
theorem atI_reps {F : Hp} {vs : List V} {xs : List D} {i : Int} {x : D} (r : Reps K F vs xs) (h : atI xs i = some x) : ∃ v, atI vs i = some v ∧ Rep K F v x := by
  unfold atI at h ⊢
  obtain ⟨j, e1, e2⟩ := Option.bind_eq_some_iff.mp h
  obtain ⟨v, h1, h2⟩ := r.get' e2
  rw [r.len, e1]
  exact ⟨v, h1, h2⟩
theorem os_ixS : OpS K rIxS fIxS := by
  intro H F v u x y z s hx hy e Q q
  unfold fIxS at e
  split at e
  · split at e
    · rename_i hl
      obtain ⟨c, e1, e⟩ := Option.bind_eq_some_iff.mp e
      cases e
      rw [vw_str hx, vw_int hy]
      exact ⟨_, _, c, rfl, rfl, lim_of (by simpa [Str.length] using hl), by simpa using e1, q _ H F (Alc.refl s) (.str [c])⟩
    · cases e
  · cases e
theorem os_ixT : OpS K (rIxT K) fIxT := by
  intro H F v u x y z s hx hy e Q q
  unfold fIxT at e
  split at e
  · cases (show Rep K F v (.tup _) from hx) with
    | tup h1 h2 =>
      rw [vw_int hy]
      obtain ⟨w, e1, r⟩ := atI_reps h2 e
      exact ⟨_, _, _, w, rfl, rfl, same_t s h1, e1, q _ H F (Alc.refl s) r⟩
  · cases e
theorem os_ixL : OpS K (rIxL K) fIxL := by
  intro H F v u x y z s hx hy e Q q
  unfold fIxL at e
  split at e
  · obtain ⟨a, vs, rfl, h1, h2⟩ := hx
    rw [vw_int hy]
    obtain ⟨w, e1, r⟩ := atI_reps h2 e
    exact ⟨_, _, _, w, rfl, rfl, SqL.of h1, e1, q _ H F (Alc.refl s) r⟩
  · cases e
/-! ### slices -/
def cutL {α : Type} (xs : List α) (lo hi : Option Int) : List α := (xs.drop (HT.sIx xs.length 0 lo)).take (HT.sIx xs.length xs.length hi - HT.sIx xs.length 0 lo)
def fSlS : D → Option Int → Option Int → Option D
  | .str s, lo, hi => if s.length ≤ lim then some (.str (cutL s lo hi)) else none
  | _, _, _ => none
def fSlL : D → Option Int → Option Int → Option D
  | .lst s, lo, hi => some (.lst (cutL s lo hi))
  | _, _, _ => none
def orSl (f g : D → Option Int → Option Int → Option D) : D → Option Int → Option Int → Option D := fun x lo hi => match f x lo hi with
  | some z => some z
  | none => g x lo hi
theorem SlS.or {r r' : V → Option Int → Option Int → Hp → VK → Prop} {f g : D → Option Int → Option Int → Option D} (h : SlS K r f) (h' : SlS K r' g) : SlS K (fun x lo hi H Q => r x lo hi H Q ∨ r' x lo hi H Q) (orSl f g) := by
  intro H F v x z lo hi s hx e Q q
  unfold orSl at e
  cases e1 : f x lo hi with
  | some w =>
    simp [e1] at e; subst e
    exact .inl (h H F v x w lo hi s hx e1 Q q)
  | none =>
    simp [e1] at e
    exact .inr (h' H F v x z lo hi s hx e Q q)
theorem sls_str : SlS K rSlS fSlS := by
  intro H F v x z lo hi s hx e Q q
  unfold fSlS at e
  split at e
  · split at e
    · rename_i hl
      cases e
      rw [vw_str hx]
      refine ⟨_, rfl, lim_of (by simpa [Str.length] using hl), ?_⟩
      have e : ∀ s : List Nat, cutS ⟨s.toArray⟩ lo hi = ⟨(cutL s lo hi).toArray⟩ := fun s => by simp [cutS, cutL, Str.length]
      rw [e]
      exact q _ H F (Alc.refl s) (.str _)
    · cases e
  · cases e
theorem cutV_reps {F : Hp} {vs : List V} {xs : List D} {lo hi : Option Int} (r : Reps K F vs xs) : Reps K F (cutV vs lo hi) (cutL xs lo hi) := by
  unfold cutV cutL
  rw [r.len]
  exact (r.drop _).take _
theorem sls_list : SlS K (rSlL K) fSlL := by
  intro H F v x z lo hi s hx e Q q
  unfold fSlL at e
  split at e
  · cases e
    obtain ⟨a, vs, rfl, h1, h2⟩ := hx
    refine ⟨a, vs, rfl, SqL.of h1, fun p hp => ?_⟩
    have A := Alc.new (o := HO.lst (cutV vs lo hi)) s hp
    exact q _ _ _ A (.lst upd_same ((cutV_reps h2).mono A.ff))
  · cases e
/-! ### calls -/
theorem vws1 {H F : Hp} {vs : List V} {x : D} (h : Vws K H F vs [x]) : ∃ v, vs = [v] ∧ Vw K H F v x := by
  match vs, h with
  | [v], h => exact ⟨v, rfl, h.1⟩
theorem vws2 {H F : Hp} {vs : List V} {x y : D} (h : Vws K H F vs [x, y]) : ∃ v u, vs = [v, u] ∧ Vw K H F v x ∧ Vw K H F u y := by
  match vs, h with
  | [v, u], h => exact ⟨v, u, rfl, h.1, h.2.1⟩
def cLen : List D → Option D
  | [.str s] => if s.length ≤ lim then some (.int s.length) else none
  | [.lst xs] => some (.int xs.length)
  | [.tup xs] => some (.int xs.length)
  | [.scr xs] => some (.int xs.length)
  | _ => none
theorem cs_len : CallS K (fun xs H Q => ∃ x n, xs = [x] ∧ LenV K x H n ∧ Q (.int n) H) cLen := by
  intro H F vs xs z s hx e Q q
  unfold cLen at e
  split at e
  · split at e
    · rename_i hl
      cases e
      obtain ⟨v, rfl, hv⟩ := vws1 hx
      rw [vw_str hv]
      refine ⟨_, _, rfl, ⟨lim_of (by simpa [Str.length] using hl), rfl⟩, ?_⟩
      have := q _ H F (Alc.refl s) (.int _)
      simpa [Str.length] using this
    · cases e
  · cases e
    obtain ⟨v, rfl, a, us, rfl, h1, h2⟩ := vws1 hx
    exact ⟨_, _, rfl, .inl ⟨us, SqL.of h1, rfl⟩, by rw [h2.len]; exact q _ H F (Alc.refl s) (.int _)⟩
  · cases e
    obtain ⟨v, rfl, hv⟩ := vws1 hx
    cases (show Rep K F v (.tup _) from hv) with
    | tup h1 h2 => exact ⟨_, _, rfl, .inr ⟨_, same_t s h1, rfl⟩, by rw [h2.len]; exact q _ H F (Alc.refl s) (.int _)⟩
  · cases e
    obtain ⟨v, rfl, hv⟩ := vws1 hx
    cases (show Rep K F v (.scr _) from hv) with
    | scr h1 => exact ⟨_, _, rfl, .inl ⟨_, s.seq h1, rfl⟩, by rw [List.length_map]; exact q _ H F (Alc.refl s) (.int _)⟩
  · cases e
def cInt : List D → Option D
  | [.int i] => some (.int i)
  | [.bl b] => some (.int (if b then 1 else 0))
  | _ => none
theorem cs_int : CallS K (fun xs H Q => (∃ i, xs = [.int i] ∧ Q (.int i) H) ∨ ∃ k, xs = [.bl k] ∧ Q (.int (if k then 1 else 0)) H) cInt := by
  intro H F vs xs z s hx e Q q
  unfold cInt at e
  split at e
  · cases e
    obtain ⟨v, rfl, hv⟩ := vws1 hx
    rw [vw_int hv]
    exact .inl ⟨_, rfl, q _ H F (Alc.refl s) (.int _)⟩
  · cases e
    obtain ⟨v, rfl, hv⟩ := vws1 hx
    rw [vw_bl hv]
    exact .inr ⟨_, rfl, q _ H F (Alc.refl s) (.int _)⟩
  · cases e
end
section
variable {X : Cx}
/-! ### text * int -/
def rMulS : R2 := fun x y H Q => ∃ (z : Str) (n : Int), x = .str z ∧ y = .int n ∧ MulOk z n ∧ Q (.str (Txt.mul z n)) H
theorem op_mulS : OpR X (binaryOp .Mult) rMulS := by
  intro pins s σ H x y v u Q I rx ry h
  obtain ⟨z, n, rfl, rfl, ok, q⟩ := h
  obtain ⟨t, rfl⟩ := rx
  obtain ⟨t', rfl⟩ := ry
  exact SB.mul ok fun t2 k => ⟨.str _, H, I.tok k, ⟨_, rfl⟩, q⟩
/-- one sign, times n -/
def fMulS : D → D → Option D
  | .str [c], .int n => if -1000000 ≤ n ∧ n ≤ 1000000 then some (.str (List.replicate n.toNat c)) else none
  | _, _ => none
theorem fold_rep (c : Nat) : ∀ (n : Nat) (acc : Array Nat), (List.replicate n #[c]).foldl (· ++ ·) acc = acc ++ (List.replicate n c).toArray
  | 0, acc => by simp
  | n + 1, acc => by
    rw [List.replicate_succ, List.foldl_cons, fold_rep c n, List.replicate_succ]
    apply Array.ext'
    simp
theorem mul_txt (c : Nat) (n : Int) : Txt.mul ⟨#[c]⟩ n = ⟨(List.replicate n.toNat c).toArray⟩ := by
  unfold Txt.mul
  by_cases h : n < 1
  · rw [if_pos h, show n.toNat = 0 by omega]
    rfl
  · rw [if_neg h]
    by_cases h1 : n = 1
    · subst h1; rfl
    · rw [if_neg (by simp [h1]; show ¬ (1 = 0); decide)]
      show (⟨(List.replicate n.toNat #[c]).foldl (· ++ ·) #[]⟩ : Str) = _
      rw [fold_rep]
      simp
theorem os_mulS {K : PySem.W.Frag} : OpS K rMulS fMulS := by
  intro H F v u x y z s hx hy e Q q
  unfold fMulS at e
  split at e
  · split at e
    · rename_i hc
      cases e
      rw [vw_str hx, vw_int hy]
      refine ⟨_, _, rfl, rfl, mulOk_of 1 1000000 (Nat.le_refl 1) hc.2 (Int.le_trans (by decide) hc.1) (by decide) (by decide), ?_⟩
      rw [mul_txt]
      exact q _ H F (Alc.refl s) (.str _)
    · cases e
  · cases e
/-! ### text < text -/
def fLtS : D → D → Option D
  | .str a, .str b => some (.bl (decide (a < b)))
  | _, _ => none
theorem os_ltS {K : PySem.W.Frag} : OpS K (fun x y H Q => ∃ i j, x = .str i ∧ y = .str j ∧ Q (.bl (decide (i.cps.toList < j.cps.toList))) H) fLtS := by
  intro H F v u x y z s hx hy e Q q
  unfold fLtS at e
  split at e
  · cases e
    rw [vw_str hx, vw_str hy]
    exact ⟨_, _, rfl, rfl, q _ H F (Alc.refl s) (.bl _)⟩
  · cases e
end
/-! ### == of lists and tuples -/
mutual
def toP : D → PyData
  | .non => .none
  | .bl b => .bool b
  | .int i => .int i
  | .str s => .str ⟨s.toArray⟩
  | .lst xs => .list (toPs xs)
  | .tup xs => .tuple (toPs xs)
  | .scr xs => .list (xs.map .int)
  | .obj _ _ _ => .none
def toPs : List D → List PyData
  | [] => []
  | x :: xs => toP x :: toPs xs
end
mutual
/-- no instance within -/
def plnD : D → Bool
  | .lst xs => plnDs xs
  | .tup xs => plnDs xs
  | .obj _ _ _ => false
  | _ => true
def plnDs : List D → Bool
  | [] => true
  | x :: xs => plnD x && plnDs xs
end
theorem dp_ints {K : PySem.W.Frag} {H : Hp} : ∀ xs : List Int, DpAll K H (xs.map V.int) (xs.map PyData.int)
  | [] => .nil
  | i :: xs => .cons (.int i) (dp_ints xs)
mutual
theorem Rep.dp {K : PySem.W.Frag} {F H : Hp} (s : Same F H) : ∀ {v : V} {d : D}, plnD d = true → Rep K F v d → Dp K H v (toP d)
  | _, _, _, .non => by unfold toP; exact .non
  | _, _, _, .bl b => by unfold toP; exact .bl b
  | _, _, _, .int i => by unfold toP; exact .int i
  | _, _, _, .str x => by unfold toP; exact .str _
  | _, _, p, .lst h r => by unfold toP; unfold plnD at p; exact .lst (SqL.of (s _ _ h)) (Reps.dp s p r)
  | _, _, _, .scr h => by unfold toP; exact .lst (s.seq h) (dp_ints _)
  | _, _, p, .tup h r => by unfold toP; unfold plnD at p; exact .tup (same_t s h) (Reps.dp s p r)
  | _, _, p, .obj _ _ _ _ => by unfold plnD at p; cases p
theorem Reps.dp {K : PySem.W.Frag} {F H : Hp} (s : Same F H) : ∀ {vs : List V} {ds : List D}, plnDs ds = true → Reps K F vs ds → DpAll K H vs (toPs ds)
  | _, _, _, .nil => by unfold toPs; exact .nil
  | _, _, p, .cons h r => by unfold toPs; unfold plnDs at p; rw [Bool.and_eq_true] at p; exact .cons (Rep.dp s p.1 h) (Reps.dp s p.2 r)
end
theorem vw_dp {K : PySem.W.Frag} {F H : Hp} {v : V} {x : D} (s : Same F H) (p : plnD x = true) (h : Vw K H F v x) : Dp K H v (toP x) := by
  cases x with
  | lst xs => obtain ⟨a, vs, rfl, h1, h2⟩ := h; unfold toP; unfold plnD at p; exact .lst (SqL.of h1) (h2.dp s p)
  | non => exact Rep.dp s p h
  | bl b => exact Rep.dp s p h
  | int i => exact Rep.dp s p h
  | str t => exact Rep.dp s p h
  | tup xs => exact Rep.dp s p h
  | scr xs => exact Rep.dp s p h
  | obj c ks xs => exact Rep.dp s p h
def shD (x : D) : Bool := plnD x && SeqAt.shaped (toP x)
theorem shD_pln {x : D} (h : shD x = true) : plnD x = true := by unfold shD at h; rw [Bool.and_eq_true] at h; exact h.1
theorem shD_sh {x : D} (h : shD x = true) : SeqAt.shaped (toP x) = true := by unfold shD at h; rw [Bool.and_eq_true] at h; exact h.2
def fEqD : D → D → Option D := fun x y => if (shD x && shD y) = true then some (.bl (PyData.eqv (toP x) (toP y))) else none
def fNeD : D → D → Option D := fun x y => if (shD x && shD y) = true then some (.bl (!PyData.eqv (toP x) (toP y))) else none
theorem os_eqD {K : PySem.W.Frag} : OpS K (rEqD K) fEqD := by
  intro H F v u x y z s hx hy e Q q
  unfold fEqD at e
  split at e
  · rename_i hc
    cases e
    rw [Bool.and_eq_true] at hc
    exact ⟨_, _, vw_dp s (shD_pln hc.1) hx, vw_dp s (shD_pln hc.2) hy, shD_sh hc.1, shD_sh hc.2, q _ H F (Alc.refl s) (.bl _)⟩
  · cases e
theorem os_neD {K : PySem.W.Frag} : OpS K (rNeD K) fNeD := by
  intro H F v u x y z s hx hy e Q q
  unfold fNeD at e
  split at e
  · rename_i hc
    cases e
    rw [Bool.and_eq_true] at hc
    exact ⟨_, _, vw_dp s (shD_pln hc.1) hx, vw_dp s (shD_pln hc.2) hy, shD_sh hc.1, shD_sh hc.2, q _ H F (Alc.refl s) (.bl _)⟩
  · cases e
end Sw
namespace Sw
open PySem PySem.Spec PyProof.Rows L2

/-! ### the operators as one rule each -/
def Op2 (X : Cx) (fn : Value → Value → Sem Value) (f : D → D → Option D) : Prop := ∃ r, OpR X fn r ∧ OpS X.K r f
theorem Op2.or {X : Cx} {fn : Value → Value → Sem Value} {f g : D → D → Option D} (h : Op2 X fn f) (h' : Op2 X fn g) : Op2 X fn (orF f g) :=
  let ⟨_, a, b⟩ := h
  let ⟨_, a', b'⟩ := h'
  ⟨_, a.or a', b.or b'⟩
section
variable {X : Cx}
def fAdd : D → D → Option D := orF (fInt fun i j => .int (i + j)) (orF fCatS (orF fCatL fCatT))
theorem oAdd : Op2 X (binaryOp .Add) fAdd := Op2.or ⟨_, op_add, os_int fun _ _ _ => .int _⟩ (Op2.or ⟨_, op_add_str, os_catS⟩ (Op2.or ⟨_, op_cat, os_catL⟩ ⟨_, op_catA, os_catT⟩))
def fSub : D → D → Option D := fInt fun i j => .int (i - j)
theorem oSub : Op2 X (binaryOp .Sub) fSub := ⟨_, op_sub, os_int fun _ _ _ => .int _⟩
def cMul (i j : Int) : Bool := decide (-18446744073709551616 < i ∧ i < 18446744073709551616) || decide (-18446744073709551616 < j ∧ j < 18446744073709551616)
def fMul : D → D → Option D := orF (fIntC cMul fun i j => .int (i * j)) fMulS
theorem oMul : Op2 X (binaryOp .Mult) fMul := Op2.or ⟨_, op_mul, os_intC (fun i j h => by
  unfold cMul at h
  rcases (Bool.or_eq_true _ _).mp h with h | h
  · exact .inl (of_decide_eq_true h)
  · exact .inr (of_decide_eq_true h)) fun _ _ _ => .int _⟩ ⟨_, op_mulS, os_mulS⟩
def fDiv : D → D → Option D := fIntC (fun _ j => decide (0 < j ∧ j < 1073741824)) fun i j => .int (i / j)
theorem oDiv : Op2 X (binaryOp .FloorDiv) fDiv := ⟨_, op_fdiv, os_intC (fun i j h => (show CDiv i j from of_decide_eq_true (p := 0 < j ∧ j < 1073741824) h)) fun _ _ _ => .int _⟩
def fMod : D → D → Option D := fIntC (fun _ j => decide (0 < j)) fun i j => .int (i % j)
theorem oMod : Op2 X (binaryOp .Mod) fMod := ⟨_, op_mod, os_intC (fun _ _ h => of_decide_eq_true h) fun _ _ _ => .int _⟩
def fPow : D → D → Option D := fIntC (fun i j => decide (0 ≤ j ∧ j ≤ 1000000 ∧ i.natAbs < 18446744073709551616)) fun i j => .int (i ^ j.toNat)
theorem oPow : Op2 X (binaryOp .Pow) fPow := ⟨_, op_pow, os_intC (fun i j h => (show CPow i j from of_decide_eq_true (p := 0 ≤ j ∧ j ≤ 1000000 ∧ i.natAbs < 18446744073709551616) h)) fun _ _ _ => .int _⟩
def fLt : D → D → Option D := orF (fInt fun i j => .bl (decide (i < j))) fLtS
def fLe : D → D → Option D := fInt fun i j => .bl (decide (i ≤ j))
def fGt : D → D → Option D := fInt fun i j => .bl (decide (j < i))
def fGe : D → D → Option D := fInt fun i j => .bl (decide (j ≤ i))
theorem oLt : Op2 X (compareOp .Lt) fLt := Op2.or ⟨_, op_lt, os_int fun _ _ _ => .bl _⟩ ⟨_, op_lt_str, os_ltS⟩
theorem oLe : Op2 X (compareOp .LtE) fLe := ⟨_, op_le, os_int fun _ _ _ => .bl _⟩
theorem oGt : Op2 X (compareOp .Gt) fGt := ⟨_, op_gt, os_int fun _ _ _ => .bl _⟩
theorem oGe : Op2 X (compareOp .GtE) fGe := ⟨_, op_ge, os_int fun _ _ _ => .bl _⟩
def fEq : D → D → Option D := orF fEqS fEqD
def fNe : D → D → Option D := orF fNeS fNeD
theorem oEq (hu : X.A.units + 64 < cLine) : Op2 X (compareOp .Eq) fEq := Op2.or ⟨_, op_eq, os_eq⟩ ⟨_, op_eqD hu, os_eqD⟩
theorem oNe (hu : X.A.units + 64 < cLine) : Op2 X (compareOp .NotEq) fNe := Op2.or ⟨_, op_ne, os_ne⟩ ⟨_, op_neD hu, os_neD⟩
def fIs : D → D → Option D := orF fIsN fIsB
def fNt : D → D → Option D := orF fNotN fNotB
theorem oIs : Op2 X (compareOp .Is) fIs := Op2.or ⟨_, op_isN, os_isN⟩ ⟨_, op_is_bl, os_isB⟩
theorem oNt : Op2 X (compareOp .IsNot) fNt := Op2.or ⟨_, op_notN, os_notN⟩ ⟨_, op_isnot_bl, os_notB⟩
/-! x in a list or tuple of flat things -/
def flatD : D → Bool
  | .non => true
  | .bl _ => true
  | .int _ => true
  | .str _ => true
  | _ => false
def eqF : D → D → Bool
  | .non, .non => true
  | .bl a, .bl b => a == b
  | .bl a, .int b => (if a then 1 else 0) == b
  | .int a, .bl b => a == (if b then 1 else 0)
  | .int a, .int b => a == b
  | .str a, .str b => decide (a = b)
  | _, _ => false
theorem flat_rep {K : PySem.W.Frag} {F : Hp} {v : V} {x : D} (r : Rep K F v x) (h : flatD x = true) : flatV v = true := by
  cases r <;> first | rfl | cases h
theorem eqF_rep {K : PySem.W.Frag} {F : Hp} {v u : V} {x y : D} (r : Rep K F v x) (r' : Rep K F u y) (h : flatD x = true) (h' : flatD y = true) : eqV v u = eqF x y := by
  have key : ∀ a b : List Nat, ((⟨a.toArray⟩ : Str) == ⟨b.toArray⟩) = decide (a = b) := fun a b => by
    by_cases e : a = b
    · subst e; simp
    · rw [decide_eq_false e]
      have ne : (⟨a.toArray⟩ : Str) ≠ ⟨b.toArray⟩ := fun z => e (by simpa using congrArg (fun s : Str => s.cps.toList) z)
      exact beq_eq_false_iff_ne.mpr ne
  cases r <;> cases r' <;> first | rfl | exact absurd h Bool.false_ne_true | exact absurd h' Bool.false_ne_true | exact key _ _
def inD (x : D) (xs : List D) : Bool := xs.any fun y => eqF y x
theorem inV_reps {K : PySem.W.Frag} {F : Hp} {v : V} {x : D} (r : Rep K F v x) (h : flatD x = true) : ∀ {vs : List V} {xs : List D}, Reps K F vs xs → xs.all flatD = true → inV v vs = inD x xs ∧ vs.all flatV = true
  | _, _, .nil, _ => ⟨rfl, rfl⟩
  | _, _, .cons r1 t, e => by
    rw [List.all_cons, Bool.and_eq_true] at e
    obtain ⟨i1, i2⟩ := inV_reps r h t e.2
    unfold inV inD at i1 ⊢
    rw [List.any_cons, List.any_cons, List.all_cons, i1, i2, eqF_rep r1 r e.1 h, flat_rep r1 e.1]
    exact ⟨rfl, rfl⟩
def fInQ (neg : Bool) : D → D → Option D := fun x y => match y with
  | .lst xs => if (flatD x && xs.all flatD) = true then some (.bl (if neg then !inD x xs else inD x xs)) else none
  | .tup xs => if (flatD x && xs.all flatD) = true then some (.bl (if neg then !inD x xs else inD x xs)) else none
  | _ => none
theorem vw_flat {K : PySem.W.Frag} {H F : Hp} {v : V} {x : D} (h : Vw K H F v x) (f : flatD x = true) : Rep K F v x := by
  cases x <;> first | exact h | cases f
theorem os_inQ {K : PySem.W.Frag} {neg : Bool} : OpS K (rIn K neg) (fInQ neg) := by
  intro H F v u x y z s hx hy e Q q
  unfold fInQ at e
  split at e
  · split at e
    · rename_i hc
      cases e
      rw [Bool.and_eq_true] at hc
      obtain ⟨a, us, rfl, h1, h2⟩ := hy
      have rx := vw_flat hx hc.1
      obtain ⟨i1, i2⟩ := inV_reps rx hc.1 h2 hc.2
      refine ⟨a, us, rfl, .inl (SqL.of h1), flat_rep rx hc.1, i2, ?_⟩
      rw [i1]
      exact q _ H F (Alc.refl s) (.bl _)
    · cases e
  · split at e
    · rename_i hc
      cases e
      rw [Bool.and_eq_true] at hc
      cases (show Rep K F u (.tup _) from hy) with
      | @tup a us _ h1 h2 =>
      have rx := vw_flat hx hc.1
      obtain ⟨i1, i2⟩ := inV_reps rx hc.1 h2 hc.2
      refine ⟨a, us, rfl, .inr (same_t s h1), flat_rep rx hc.1, i2, ?_⟩
      rw [i1]
      exact q _ H F (Alc.refl s) (.bl _)
    · cases e
  · cases e
def fIn : D → D → Option D := orF fInS (fInQ false)
def fNi : D → D → Option D := orF fNiS (fInQ true)
theorem oIn : Op2 X (compareOp .In) fIn := Op2.or ⟨_, op_in_sign, os_inS⟩ ⟨_, op_in_seq, os_inQ⟩
theorem oNi : Op2 X (compareOp .NotIn) fNi := Op2.or ⟨_, op_notIn_sign, os_niS⟩ ⟨_, op_notIn_seq, os_inQ⟩
def fIx : D → D → Option D := orF fIxL (orF fIxT fIxS)
theorem oIx : ∃ r, IxR X r ∧ OpS X.K r fIx := ⟨_, ix_list.or (ix_tup.or ix_str), os_ixL.or (os_ixT.or os_ixS)⟩
def fSl : D → Option Int → Option Int → Option D := orSl fSlL fSlS
theorem oSl : ∃ r, L2.SlR X r ∧ SlS X.K r fSl := ⟨_, sl_list.or sl_str, sls_list.or sls_str⟩
def fNeg : D → Option D
  | .int i => some (.int (-i))
  | _ => none
theorem us_neg : UnS X.K (rU fun i => .int (-i)) fNeg := by
  intro H F v x z s hx e Q q
  unfold fNeg at e
  split at e
  · cases e
    rw [vw_int hx]
    exact ⟨_, rfl, q _ H F (Alc.refl s) (.int _)⟩
  · cases e
end
section
variable {X : Cx} {a b c e : Expr} {ma mb mc me : M Vl} {pos p : Pos} {es : List Expr} {ms : M (List Vl)}
theorem se_b {op : Operator} {f : D → D → Option D} (h : Op2 X (binaryOp op) f) (ha : SE X a ma) (hb : SE X b mb) : SE X (.BinOp a op b pos) (eBin f ma mb) :=
  let ⟨_, h1, h2⟩ := h
  se_bin h1 h2 ha hb
theorem se_c {op : CmpOp} {f : D → D → Option D} (h : Op2 X (compareOp op) f) (ha : SE X a ma) (hb : SE X b mb) (hm : behindInMarks op b = false) : SE X (.Compare a [op] [b] pos) (eBin f ma mb) :=
  let ⟨_, h1, h2⟩ := h
  se_cmp h1 h2 ha hb hm
theorem st_c {op : CmpOp} {f : D → D → Option D} (h : Op2 X (compareOp op) f) (ha : SE X a ma) (hb : SE X b mb) (hm : behindInMarks op b = false) : ST X (.Compare a [op] [b] pos) (tE (eBin f ma mb)) :=
  let ⟨_, h1, h2⟩ := h
  st_cmp h1 h2 ha hb hm
theorem se_cc {op op' : CmpOp} {f g : D → D → Option D} (h : Op2 X (compareOp op) f) (h' : Op2 X (compareOp op') g) (ha : SE X a ma) (hb : SE X b mb) (hc : SE X c mc) (hm : lastMarks [op, op'] [b, c] = false) : SE X (.Compare a [op, op'] [b, c] pos) (eChain f g ma mb mc) :=
  let ⟨_, h1, h2⟩ := h
  let ⟨_, h3, h4⟩ := h'
  se_chain h1 h3 h2 h4 ha hb hc hm
theorem st_cc {op op' : CmpOp} {f g : D → D → Option D} (h : Op2 X (compareOp op) f) (h' : Op2 X (compareOp op') g) (ha : SE X a ma) (hb : SE X b mb) (hc : SE X c mc) (hm : lastMarks [op, op'] [b, c] = false) : ST X (.Compare a [op, op'] [b, c] pos) (tE (eChain f g ma mb mc)) :=
  let ⟨_, h1, h2⟩ := h
  let ⟨_, h3, h4⟩ := h'
  st_chain h1 h3 h2 h4 ha hb hc hm
theorem se_neg (ha : SE X a ma) : SE X (.UnaryOp .USub a pos) (eUn fNeg ma) := se_un un_neg us_neg ha
theorem se_ix (ha : SE X a ma) (hb : SE X b mb) (hs : PlainIx b) : SE X (.Subscript a b pos) (eBin fIx ma mb) :=
  let ⟨_, h1, h2⟩ := oIx (X := X)
  se_ixr h1 h2 ha hb hs
theorem se_slc {lo hi : Option Expr} {ml mu : M (Option Int)} {p2 : Pos} (he : SE X e me) (hl : SO X lo ml) (hu : SO X hi mu) : SE X (.Subscript e (.Slice lo hi none p2) pos) (eSl fSl me ml mu) :=
  let ⟨_, h1, h2⟩ := oSl (X := X)
  se_sl h1 h2 he hl hu
theorem se_len (hm : X.mg "len" = none) (hg : Gl X "len") (ha : SA X [e] ms) (he : starEach [e] X.env = (false, eval e X.env) :: starEach [] X.env := by rfl) (hpl : (backTo pos (starEach [] X.env)).any (·.1) = false := by rfl) : SE X (.Call (.Name "len" p) [e] [] pos) (eBlt cLen ms) :=
  se_blt call_len cs_len hg hm PySem.boot_len ha (by decide) (by decide) he hpl
theorem se_toint (hm : X.mg "int" = none) (hg : Gl X "int") (ha : SA X [e] ms) (he : starEach [e] X.env = (false, eval e X.env) :: starEach [] X.env := by rfl) (hpl : (backTo pos (starEach [] X.env)).any (·.1) = false := by rfl) : SE X (.Call (.Name "int" p) [e] [] pos) (eBlt cInt ms) :=
  se_ty call_int1 cs_int hg hm (by decide +kernel) ha (by decide) (by decide) he hpl
/-! ### sep.join(xs) -/
def strsOf : List D → Option (List (List Nat))
  | [] => some []
  | .str s :: xs => (strsOf xs).bind fun r => some (s :: r)
  | _ => none
def fJoin : D → List D → Option D
  | .str a, [.lst xs] => (strsOf xs).bind fun ys => if (ys.map (·.length)).sum + ys.length * a.length ≤ lim then some (.str (TL.joinL a ys)) else none
  | .str a, [.tup xs] => (strsOf xs).bind fun ys => if (ys.map (·.length)).sum + ys.length * a.length ≤ lim then some (.str (TL.joinL a ys)) else none
  | _, _ => none
theorem strsOf_ok {K : PySem.W.Frag} {F : Hp} : ∀ {vs : List V} {xs : List D} {ys : List (List Nat)}, Reps K F vs xs → strsOf xs = some ys → vs = (ys.map fun y => (⟨y.toArray⟩ : Str)).map V.str
  | _, _, _, .nil, e => by cases e; rfl
  | _, _, ys, .cons r t, e => by
    cases r with
    | str s =>
      unfold strsOf at e
      obtain ⟨zs, e1, e⟩ := Option.bind_eq_some_iff.mp e
      cases e
      rw [strsOf_ok t e1]
      rfl
    | non => cases e
    | bl _ => cases e
    | int _ => cases e
    | lst _ _ => cases e
    | scr _ => cases e
    | tup _ _ => cases e
    | obj _ _ _ _ => cases e
theorem join_txt (a : List Nat) (ys : List (List Nat)) : Txt.join ⟨a.toArray⟩ (ys.map fun y => (⟨y.toArray⟩ : Str)) = (⟨(TL.joinL a ys).toArray⟩ : Str) := by
  have h := TL.tl_join ⟨a.toArray⟩ (ys.map fun y => (⟨y.toArray⟩ : Str))
  rw [TL.join_eq]
  have e : (ys.map fun y => (⟨y.toArray⟩ : Str)).map TL.tl = ys := by
    rw [List.map_map]
    have : (TL.tl ∘ fun y : List Nat => (⟨y.toArray⟩ : Str)) = id := by
      funext y
      simp [TL.tl]
    rw [this, List.map_id]
  rw [e] at h
  have h2 : TL.tl (⟨a.toArray⟩ : Str) = a := by simp [TL.tl]
  rw [h2] at h
  rw [← h]
theorem ms_join {K : PySem.W.Frag} : MetS K (fun x xs H Q => ∃ a p, ∃ ys : List Str, x = .str a ∧ xs = [.ref p] ∧ (SqL K H p (ys.map V.str) ∨ SqT K H p (ys.map V.str)) ∧
    (ys.map (·.length)).sum + ys.length * a.length ≤ 16777216 ∧ Q (.str (Txt.join a ys)) H) fJoin := by
  have len : ∀ ys : List (List Nat), ((ys.map fun y => (⟨y.toArray⟩ : Str)).map (·.length)).sum = (ys.map (·.length)).sum := fun ys => by
    rw [List.map_map]
    congr 1
  intro H F v vs x xs z s hx hxs e Q q
  unfold fJoin at e
  split at e
  · obtain ⟨ys, e1, e⟩ := Option.bind_eq_some_iff.mp e
    split at e
    · rename_i hl
      cases e
      obtain ⟨u, rfl, p, us, rfl, h1, h2⟩ := vws1 hxs
      rw [vw_str hx]
      rw [strsOf_ok h2 e1] at h1
      refine ⟨_, p, _, rfl, rfl, .inl (SqL.of h1), ?_, ?_⟩
      · rw [len, List.length_map]; simpa [Str.length] using hl
      · rw [join_txt]; exact q _ H F (Alc.refl s) (.str _)
    · cases e
  · obtain ⟨ys, e1, e⟩ := Option.bind_eq_some_iff.mp e
    split at e
    · rename_i hl
      cases e
      obtain ⟨u, rfl, hu⟩ := vws1 hxs
      cases (show Rep K F u (.tup _) from hu) with
      | @tup p us _ h1 h2 =>
      rw [vw_str hx]
      rw [strsOf_ok h2 e1] at h1
      refine ⟨_, p, _, rfl, rfl, .inr (same_t s h1), ?_, ?_⟩
      · rw [len, List.length_map]; simpa [Str.length] using hl
      · rw [join_txt]; exact q _ H F (Alc.refl s) (.str _)
    · cases e
  · cases e
theorem se_join {o : Expr} {mo : M Vl} {apos cpos : Pos} (ho : SE X o mo) (ha : SA X [e] ms)
    (hbase : attributeBase o "join" X.env (eval o X.env) = eval o X.env := by rfl)
    (hfew : ((backTo cpos (starEach [e] X.env)).all (fun x => !x.1) && (backToKw cpos (keywordEach [] X.env)).all (fun x => x.1.isSome)
      && decide ([e].length + ([] : List Keyword).length + (if ([] : List Keyword).isEmpty then 0 else 1) < 30)) = true := by rfl)
    (hline : (apos.endLine == cpos.line) = true := by rfl) (hs : starEach [e] X.env = (false, eval e X.env) :: starEach [] X.env := by rfl) (hplain : (backTo cpos (starEach [] X.env)).any (·.1) = false := by rfl) :
    SE X (.Call (.Attribute o "join" apos) [e] [] cpos) (eMet fJoin mo ms) := se_met PySem.F.slot_str_join PySem.F.type_str_join mt_join (fun x xs z h => by
  unfold fJoin at h
  split at h
  · exact ⟨_, rfl⟩
  · exact ⟨_, rfl⟩
  · cases h) ms_join ho ha hbase hfew hline hs hplain
/-- a text of the module -/
theorem se_gstr {x : Str} {u : Value} {cs : List Nat} (hu : ∃ (y : Str) (t : Tok), u = .str y t ∧ y.cps.toList = cs) (hm : X.mg x = some u) (hg : Gl X x) (hd : (x == ("__debug__" : Str)) = false := by decide) : SE X (.Name x pos) (eC (.str cs)) := by
  obtain ⟨y, t, rfl, rfl⟩ := hu
  exact se_glob (v := .str y) hm ⟨t, rfl⟩ (fun _ => rep_str y) hg hd
/-- a number of the module -/
theorem se_gint {x : Str} {u : Value} {i : Int} (hu : ∃ t : Tok, u = .int i t) (hm : X.mg x = some u) (hg : Gl X x) (hd : (x == ("__debug__" : Str)) = false := by decide) : SE X (.Name x pos) (eC (.int i)) := by
  obtain ⟨t, rfl⟩ := hu
  exact se_glob (v := .int i) hm ⟨t, rfl⟩ (fun _ => .int i) hg hd
end
/-- the law's own promise at the script -/
theorem law_sp {K : PySem.W.Frag} {H : Hp} {a : Addr} {ns : List Int} {f : Fn} {E : XK} (hS : SqL K H a (ns.map V.int)) (h : f [.da (.scr ns)] = some (.fz (.bl true), [])) : spF K 1 f [.ref a] H (fun v _ => v = .bl true) E :=
  ⟨rfl, H, [.da (.scr ns)], .fz (.bl true), [], Same.refl _, ⟨.scr hS, trivial⟩, List.nodup_nil, h, fun v H' F' _ _ _ _ _ R => by
    cases (show Rep K F' v (.bl true) from R)
    rfl⟩
end Sw
/-! Sw9: reckoning in the pure semantics. -/
namespace Sw
open L2

def Ev {α : Type} (m : M α) (ρ : Rho) (Q : α → Rho → Prop) : Prop := ∃ a ρ', m ρ = some (a, ρ') ∧ Q a ρ'
abbrev Sv (s : S) (ρ : Rho) (Q : Fl → Rho → Prop) : Prop := ∃ fl ρ', s ρ = some (fl, ρ') ∧ Q fl ρ'

theorem sv_seq {a b : S} {ρ : Rho} {Q : Fl → Rho → Prop} (h : Sv a ρ fun fl ρ' => match fl with
    | .nx => Sv b ρ' Q
    | fl => Q fl ρ') : Sv (sSeq a b) ρ Q := by
  obtain ⟨fl, ρ1, e, h⟩ := h
  have un : sSeq a b ρ = (a ρ).bind fun p => match p.1 with
    | .nx => b p.2
    | fl => some (fl, p.2) := rfl
  cases fl with
  | nx =>
    obtain ⟨f2, ρ2, e2, h⟩ := h
    exact ⟨f2, ρ2, by rw [un, e]; exact e2, h⟩
  | bk => exact ⟨.bk, ρ1, by rw [un, e]; rfl, h⟩
  | ct => exact ⟨.ct, ρ1, by rw [un, e]; rfl, h⟩
  | rt v => exact ⟨.rt v, ρ1, by rw [un, e]; rfl, h⟩
  | ex x => exact ⟨.ex x, ρ1, by rw [un, e]; rfl, h⟩
theorem sv_seq_eq {a b : S} {ρ ρ1 : Rho} {Q : Fl → Rho → Prop} (e : a ρ = some (.nx, ρ1)) (h : Sv b ρ1 Q) : Sv (sSeq a b) ρ Q := sv_seq ⟨.nx, ρ1, e, h⟩
theorem sv_nx {ρ : Rho} {Q : Fl → Rho → Prop} (h : Q .nx ρ) : Sv sNx ρ Q := ⟨_, _, rfl, h⟩
theorem sv_if {t : M Bool} {a b : S} {ρ ρ1 : Rho} {c : Bool} {Q : Fl → Rho → Prop} (e : t ρ = some (c, ρ1)) (h1 : c = true → Sv a ρ1 Q) (h2 : c = false → Sv b ρ1 Q) : Sv (sIf t a b) ρ Q := by
  have un : sIf t a b ρ = (t ρ).bind fun p => if p.1 = true then a p.2 else b p.2 := rfl
  cases c with
  | true => obtain ⟨f, r, e2, h⟩ := h1 rfl; exact ⟨f, r, by rw [un, e]; exact e2, h⟩
  | false => obtain ⟨f, r, e2, h⟩ := h2 rfl; exact ⟨f, r, by rw [un, e]; exact e2, h⟩
theorem forM_inv {g : D → Rho → Option Rho} {b : S} (I : Nat → Rho → Prop) : ∀ (xs : List D) (k : Nat) (ρ : Rho), I k ρ →
    (∀ (i : Nat) (x : D), xs[i]? = some x → ∀ ρ, I (k + i) ρ → ∃ ρ1, g x ρ = some ρ1 ∧ ∃ fl ρ2, b ρ1 = some (fl, ρ2) ∧ (fl = .nx ∨ fl = .ct) ∧ I (k + i + 1) ρ2) → ∃ ρ', forM g b xs ρ = some (.nx, ρ') ∧ I (k + xs.length) ρ'
  | [], k, ρ, h, _ => ⟨ρ, rfl, h⟩
  | x :: xs, k, ρ, h, step => by
    obtain ⟨ρ1, e1, fl, ρ2, e2, hf, h2⟩ := step 0 x rfl ρ h
    obtain ⟨ρ', e3, h3⟩ := forM_inv I xs (k + 1) ρ2 h2 fun i y hy ρ h => by
      have := step (i + 1) y (by simpa using hy) ρ (by rw [show k + (i + 1) = k + 1 + i by omega]; exact h)
      rw [show k + (i + 1) + 1 = k + 1 + i + 1 by omega] at this
      exact this
    refine ⟨ρ', ?_, by rw [List.length_cons, show k + (xs.length + 1) = k + 1 + xs.length by omega]; exact h3⟩
    unfold forM
    rw [e1]
    show (b ρ1).bind _ = _
    rw [e2]
    rcases hf with rfl | rfl <;> exact e3
/-- a for that runs through: an invariant by the turn -/
theorem sFor_inv {src : M (List D)} {g : D → Rho → Option Rho} {b : S} {ρ ρ1 : Rho} {xs : List D} (I : Nat → Rho → Prop) (e : src ρ = some (xs, ρ1)) (h0 : I 0 ρ1)
    (step : ∀ (i : Nat) (x : D), xs[i]? = some x → ∀ ρ, I i ρ → ∃ ρ1, g x ρ = some ρ1 ∧ ∃ fl ρ2, b ρ1 = some (fl, ρ2) ∧ (fl = .nx ∨ fl = .ct) ∧ I (i + 1) ρ2) : ∃ ρ', sFor src g b ρ = some (.nx, ρ') ∧ I xs.length ρ' := by
  obtain ⟨ρ', h1, h2⟩ := forM_inv (g := g) (b := b) I xs 0 ρ1 h0 fun i x hx ρ h => by
    rw [Nat.zero_add] at h ⊢
    exact step i x hx ρ h
  rw [Nat.zero_add] at h2
  exact ⟨ρ', by unfold sFor; rw [e]; exact h1, h2⟩

/-! ### evaluation by simp -/
/-- no slot, or one that may not be stored to -/
def ioQ : Option Sl → Bool
  | none => true
  | some (.io _) => true
  | _ => false
@[simp] theorem ioQ_no : ioQ (some .no) = false := rfl
@[simp] theorem ioQ_d {x : D} : ioQ (some (.d x)) = false := rfl
@[simp] theorem ioQ_ow {x : List D} : ioQ (some (.ow x)) = false := rfl
section
variable {ρ : Rho} {a b c : M Vl} {ms : M (List Vl)} {t u : M Bool} {s s' : S} {f g : D → D → Option D}
@[simp] theorem r_eC {x : D} : eC x ρ = some (.fz x, ρ) := rfl
@[simp] theorem r_eVar {i : Nat} : eVar i ρ = match ρ[i]? with
  | some (.d x) => some (.fz x, ρ)
  | some (.ow _) => some (.bw i, ρ)
  | some (.io _) => some (.bw i, ρ)
  | _ => none := rfl
@[simp] theorem r_eBin : eBin f a b ρ = (a ρ).bind fun p => (b p.2).bind fun q => (look q.2 (stl p.1)).bind fun x => (look q.2 (stl q.1)).bind fun y => (f x y).bind fun z => some (.fz z, q.2) := rfl
@[simp] theorem r_eUn {h : D → Option D} : eUn h a ρ = (a ρ).bind fun p => (look p.2 (stl p.1)).bind fun x => (h x).bind fun z => some (.fz z, p.2) := rfl
@[simp] theorem r_tE : tE a ρ = (a ρ).bind fun p => match p.1 with
  | .fz (.bl b) => some (b, p.2)
  | _ => none := rfl
@[simp] theorem r_tAnd : tAnd t u ρ = (t ρ).bind fun p => if p.1 = true then u p.2 else some (false, p.2) := rfl
@[simp] theorem r_tOr : tOr t u ρ = (t ρ).bind fun p => if p.1 = true then some (true, p.2) else u p.2 := rfl
@[simp] theorem r_tNot : tNot t ρ = (t ρ).bind fun p => some (!p.1, p.2) := rfl
@[simp] theorem r_eAnd : eAnd a b ρ = (a ρ).bind fun p => match p.1 with
  | .fz (.bl true) => b p.2
  | .fz (.bl false) => some (.fz (.bl false), p.2)
  | _ => none := rfl
@[simp] theorem r_eOr : eOr a b ρ = (a ρ).bind fun p => match p.1 with
  | .fz (.bl false) => b p.2
  | .fz (.bl true) => some (.fz (.bl true), p.2)
  | _ => none := rfl
@[simp] theorem r_eNot : eNot a ρ = (a ρ).bind fun p => match p.1 with
  | .fz (.bl b) => some (.fz (.bl (!b)), p.2)
  | _ => none := rfl
@[simp] theorem r_eIf : eIf t a b ρ = (t ρ).bind fun p => if p.1 = true then a p.2 else b p.2 := rfl
@[simp] theorem r_eChain : eChain f g a b c ρ = (a ρ).bind fun p => (b p.2).bind fun q => (look q.2 (stl p.1)).bind fun x => (look q.2 (stl q.1)).bind fun y => (f x y).bind fun z => match z with
  | .bl true => (c q.2).bind fun p3 => (look p3.2 (stl q.1)).bind fun y2 => (look p3.2 (stl p3.1)).bind fun w => (g y2 w).bind fun z2 => some (.fz z2, p3.2)
  | .bl false => some (.fz (.bl false), q.2)
  | _ => none := rfl
@[simp] theorem r_aNil : aNil ρ = some ([], ρ) := rfl
@[simp] theorem r_aCons : aCons a ms ρ = (a ρ).bind fun p => (ms p.2).bind fun q => some (stl p.1 :: q.1, q.2) := rfl
@[simp] theorem r_eTup : eTup ms ρ = (ms ρ).bind fun p => (frzs p.2 p.1).bind fun q => if q.1.length ≤ lim then some (.fz (.tup q.1), q.2) else none := rfl
@[simp] theorem r_eLst : eLst ms ρ = (ms ρ).bind fun p => (frzs p.2 p.1).bind fun q => if q.1.length ≤ lim then some (.fr q.1, q.2) else none := rfl
@[simp] theorem r_eBlt {h : List D → Option D} : eBlt h ms ρ = (ms ρ).bind fun p => (looks p.2 p.1).bind fun xs => (h xs).bind fun z => some (.fz z, p.2) := rfl
@[simp] theorem r_eMet {h : D → List D → Option D} : eMet h a ms ρ = (a ρ).bind fun p => (ms p.2).bind fun q => (look q.2 (stl p.1)).bind fun x => (looks q.2 q.1).bind fun xs => (h x xs).bind fun z => some (.fz z, q.2) := rfl
@[simp] theorem r_oNo : oNo ρ = some (none, ρ) := rfl
@[simp] theorem r_oSome : oSome a ρ = (a ρ).bind fun p => match p.1 with
  | .fz (.int i) => some (some i, p.2)
  | _ => none := rfl
@[simp] theorem r_eSl {h : D → Option Int → Option Int → Option D} {l o : M (Option Int)} : eSl h a l o ρ = (a ρ).bind fun p => (l p.2).bind fun p1 => (o p1.2).bind fun p2 => (look p2.2 (stl p.1)).bind fun x => (h x p1.1 p2.1).bind fun z => some (.fz z, p2.2) := rfl
@[simp] theorem r_eCall {h : Fn} {fs : List Bool} : eCall h fs ms ρ = (ms ρ).bind fun p => (ag1 fs p.1 p.2).bind fun q => (ag2 q.2 q.1).bind fun gs => if (agI q.1).Nodup then (h gs).bind fun z => match z.1 with
  | .bw _ => none
  | w => some (w, puts q.2 (agI q.1) z.2) else none := rfl
@[simp] theorem r_look1 {x : D} : look ρ (.fz x) = some x := rfl
@[simp] theorem r_look2 {x : List D} : look ρ (.fr x) = some (.lst x) := rfl
@[simp] theorem r_look3 {i : Nat} : look ρ (.bw i) = match ρ[i]? with
  | some (.ow xs) => some (.lst xs)
  | some (.io xs) => some (.lst xs)
  | _ => none := rfl
@[simp] theorem r_frz1 {x : D} : frz ρ (.fz x) = some (x, ρ) := rfl
@[simp] theorem r_frz2 {x : List D} : frz ρ (.fr x) = some (.lst x, ρ) := rfl
@[simp] theorem r_frz3 {i : Nat} : frz ρ (.bw i) = match ρ[i]? with
    | some (.ow xs) => some (.lst xs, ρ.set i (.d (.lst xs)))
    | _ => none := rfl
@[simp] theorem r_stl1 {x : D} : stl (.fz x) = .fz x := rfl
@[simp] theorem r_stl2 {x : List D} : stl (.fr x) = .fz (.lst x) := rfl
@[simp] theorem r_stl3 {x : Nat} : stl (.bw x) = .bw x := rfl
@[simp] theorem r_looks0 : looks ρ [] = some [] := rfl
@[simp] theorem r_looks1 {r : Vl} {rs : List Vl} : looks ρ (r :: rs) = (look ρ r).bind fun x => (looks ρ rs).bind fun xs => some (x :: xs) := rfl
@[simp] theorem r_frzs0 : frzs ρ [] = some ([], ρ) := rfl
@[simp] theorem r_frzs1 {r : Vl} {rs : List Vl} : frzs ρ (r :: rs) = (frz ρ r).bind fun p => (frzs p.2 rs).bind fun q => some (p.1 :: q.1, q.2) := rfl
@[simp] theorem r_sNx : sNx ρ = some (.nx, ρ) := rfl
@[simp] theorem r_sBk : sBk ρ = some (.bk, ρ) := rfl
@[simp] theorem r_sCt : sCt ρ = some (.ct, ρ) := rfl
@[simp] theorem r_sSeq : sSeq s s' ρ = (s ρ).bind fun p => match p.1 with
  | .nx => s' p.2
  | fl => some (fl, p.2) := rfl
@[simp] theorem r_sIf : sIf t s s' ρ = (t ρ).bind fun p => if p.1 = true then s p.2 else s' p.2 := rfl
@[simp] theorem r_sRet : sRet a ρ = (a ρ).bind fun p => match p.1 with
  | .bw i => match p.2[i]? with
    | some (.ow xs) => some (.rt (.fr xs), p.2)
    | _ => none
  | r => some (.rt r, p.2) := rfl
@[simp] theorem r_sDrop : sDrop a ρ = (a ρ).bind fun p => some (.nx, p.2) := rfl
@[simp] theorem r_asg {i : Nat} {r : Vl} : asg i r ρ = if ioQ ρ[i]? = true then none else match r with
    | .fz x => some (ρ.set i (.d x))
    | .fr xs => some (ρ.set i (.ow xs))
    | .bw j => (frz ρ (.bw j)).bind fun p => some (p.2.set i (.d p.1)) := by
  unfold asg
  cases h : ρ[i]? with
  | none => rfl
  | some s => cases s <;> rfl
@[simp] theorem r_sAsg {i : Nat} : sAsg i a ρ = (a ρ).bind fun p => (asg i p.1 p.2).bind fun ρ2 => some (.nx, ρ2) := rfl
@[simp] theorem r_own {i : Nat} : own? ρ i = match ρ[i]? with
  | some (.ow xs) => some xs
  | some (.io xs) => some xs
  | _ => none := rfl
@[simp] theorem r_put {i : Nat} {xs : List D} : put ρ i xs = match ρ[i]? with
  | some (.ow _) => ρ.set i (.ow xs)
  | some (.io _) => ρ.set i (.io xs)
  | _ => ρ := rfl
@[simp] theorem r_puts0 {xs : List (List D)} : puts ρ [] xs = ρ := by unfold puts; rfl
@[simp] theorem r_puts1 {i : Nat} {is : List Nat} {x : List D} {xs : List (List D)} : puts ρ (i :: is) (x :: xs) = puts (put ρ i x) is xs := rfl
@[simp] theorem r_sApp {i : Nat} : sApp i a ρ = (own? ρ i).bind fun _ => (a ρ).bind fun p => (frz p.2 (stl p.1)).bind fun q => (own? q.2 i).bind fun xs => if xs.length < lim then some (.nx, put q.2 i (xs ++ [q.1])) else none := rfl
@[simp] theorem r_sSetI {i : Nat} : sSetI i a b ρ = (b ρ).bind fun p => (frz p.2 (stl p.1)).bind fun p1 => (own? p1.2 i).bind fun _ => (a p1.2).bind fun p2 => match p2.1 with
  | .fz (.int k) => (own? p2.2 i).bind fun xs => (ixN xs.length k).bind fun j => some (.nx, put p2.2 i (xs.set j p1.1))
  | _ => none := rfl
@[simp] theorem r_gN {i : Nat} {x : D} : gN i x ρ = asg i (.fz x) ρ := rfl
@[simp] theorem r_ag0 {fs : List Bool} : ag1 fs [] ρ = some ([], ρ) := by unfold ag1; rfl
@[simp] theorem r_ag1 {fs : List Bool} {r : Vl} {rs : List Vl} : ag1 fs (r :: rs) ρ = if fs.headD false = true then (match r with
    | .bw i => (ag1 fs.tail rs ρ).bind fun p => some (.inr i :: p.1, p.2)
    | _ => none) else (frz ρ r).bind fun p => (ag1 fs.tail rs p.2).bind fun q => some (.inl p.1 :: q.1, q.2) := by
  conv => lhs; unfold ag1
  all_goals rfl
@[simp] theorem r_ag20 : ag2 ρ [] = some [] := rfl
@[simp] theorem r_ag21 {x : D} {r : List (D ⊕ Nat)} : ag2 ρ (.inl x :: r) = (ag2 ρ r).bind fun gs => some (.da x :: gs) := rfl
@[simp] theorem r_ag22 {i : Nat} {r : List (D ⊕ Nat)} : ag2 ρ (.inr i :: r) = (own? ρ i).bind fun xs => (ag2 ρ r).bind fun gs => some (.li xs :: gs) := rfl
@[simp] theorem r_agI0 : agI [] = [] := rfl
@[simp] theorem r_agI1 {x : D} {r : List (D ⊕ Nat)} : agI (.inl x :: r) = agI r := rfl
@[simp] theorem r_agI2 {i : Nat} {r : List (D ⊕ Nat)} : agI (.inr i :: r) = i :: agI r := rfl
@[simp] theorem r_iSq : iSq a ρ = (a ρ).bind fun p => (frz p.2 (stl p.1)).bind fun q => (itemsOf q.1).bind fun xs => some (xs, q.2) := rfl
@[simp] theorem r_iR1 : iR1 ms ρ = (ms ρ).bind fun p => match p.1 with
  | [.fz (.int j)] => if -(2 ^ 62) ≤ j ∧ j < 2 ^ 62 then some (rngL 0 j.toNat, p.2) else none
  | _ => none := rfl
@[simp] theorem r_itm1 {xs : List D} : itemsOf (.lst xs) = some xs := rfl
@[simp] theorem r_itm2 {xs : List D} : itemsOf (.tup xs) = some xs := rfl
@[simp] theorem r_itm3 {xs : List Nat} : itemsOf (.str xs) = some (xs.map fun c => .str [c]) := rfl
@[simp] theorem r_itm4 {xs : List Int} : itemsOf (.scr xs) = some (xs.map .int) := rfl
@[simp] theorem r_slOf1 {x : D} : slOf (.da x) = .d x := rfl
@[simp] theorem r_slOf2 {x : List D} : slOf (.li x) = .io x := rfl
@[simp] theorem r_outs0 {r : Rho} : outsOf [] r = [] := by cases r <;> rfl
@[simp] theorem r_outs1 {x : D} {gs : List Ag} {sl : Sl} {r : Rho} : outsOf (.da x :: gs) (sl :: r) = outsOf gs r := by cases sl <;> rfl
@[simp] theorem r_outs2 {x ys : List D} {gs : List Ag} {r : Rho} : outsOf (.li x :: gs) (.io ys :: r) = ys :: outsOf gs r := rfl
theorem r_fnS {n nl : Nat} {gs : List Ag} (h : gs.length = n) : fnS n nl s gs = (s (gs.map slOf ++ List.replicate (nl - n) .no)).bind fun p => (match p.1 with
  | .nx => some (.fz .non, outsOf gs p.2)
  | .rt (.fz x) => some (.fz x, outsOf gs p.2)
  | .rt (.fr x) => some (.fr x, outsOf gs p.2)
  | _ => none) := by
  unfold fnS
  rw [if_pos h]
  all_goals rfl
@[simp] theorem lim_val : lim = 16777216 := rfl
/-! the operators at their kinds -/
@[simp] theorem r_add1 {i j : Int} : fAdd (.int i) (.int j) = some (.int (i + j)) := rfl
@[simp] theorem r_add2 {i j : List Nat} : fAdd (.str i) (.str j) = if i.length + j.length ≤ lim then some (.str (i ++ j)) else none := by
  show orF _ _ _ _ = _
  unfold orF fInt fCatS
  dsimp only
  split
  · rename_i h; exact h.symm
  · rename_i h; rw [h]; rfl
@[simp] theorem r_add3 {i j : List D} : fAdd (.lst i) (.lst j) = if i.length + j.length ≤ lim then some (.lst (i ++ j)) else none := by
  show orF _ _ _ _ = _
  unfold orF fInt fCatS fCatL fCatT
  dsimp only
  split
  · rename_i h; exact h.symm
  · rename_i h; rw [h]
@[simp] theorem r_sub {i j : Int} : fSub (.int i) (.int j) = some (.int (i - j)) := rfl
@[simp] theorem r_mul {i j : Int} : fMul (.int i) (.int j) = if cMul i j = true then some (.int (i * j)) else none := by
  show orF _ _ _ _ = _
  unfold orF fMulS fIntC
  by_cases h : cMul i j = true
  · simp [h]
  · simp [h]
@[simp] theorem r_muls {c : Nat} {n : Int} : fMul (.str [c]) (.int n) = if -1000000 ≤ n ∧ n ≤ 1000000 then some (.str (List.replicate n.toNat c)) else none := rfl
@[simp] theorem r_lts {i j : List Nat} : fLt (.str i) (.str j) = some (.bl (decide (i < j))) := rfl
@[simp] theorem r_div {i j : Int} : fDiv (.int i) (.int j) = if 0 < j ∧ j < 1073741824 then some (.int (i / j)) else none := by
  show (if decide _ = true then _ else _) = _
  simp only [decide_eq_true_eq]
@[simp] theorem r_mod {i j : Int} : fMod (.int i) (.int j) = if 0 < j then some (.int (i % j)) else none := by
  show (if decide _ = true then _ else _) = _
  simp only [decide_eq_true_eq]
@[simp] theorem r_pow {i j : Int} : fPow (.int i) (.int j) = if 0 ≤ j ∧ j ≤ 1000000 ∧ i.natAbs < 18446744073709551616 then some (.int (i ^ j.toNat)) else none := by
  show (if decide _ = true then _ else _) = _
  simp only [decide_eq_true_eq]
@[simp] theorem r_lt {i j : Int} : fLt (.int i) (.int j) = some (.bl (decide (i < j))) := rfl
@[simp] theorem r_le {i j : Int} : fLe (.int i) (.int j) = some (.bl (decide (i ≤ j))) := rfl
@[simp] theorem r_gt {i j : Int} : fGt (.int i) (.int j) = some (.bl (decide (j < i))) := rfl
@[simp] theorem r_ge {i j : Int} : fGe (.int i) (.int j) = some (.bl (decide (j ≤ i))) := rfl
@[simp] theorem r_eqi {i j : Int} : fEq (.int i) (.int j) = some (.bl (decide (i = j))) := rfl
@[simp] theorem r_eqs {i j : List Nat} : fEq (.str i) (.str j) = some (.bl (decide (i = j))) := rfl
@[simp] theorem r_eqb {i j : Bool} : fEq (.bl i) (.bl j) = some (.bl (decide (i = j))) := rfl
@[simp] theorem r_nei {i j : Int} : fNe (.int i) (.int j) = some (.bl (!decide (i = j))) := rfl
@[simp] theorem r_nes {i j : List Nat} : fNe (.str i) (.str j) = some (.bl (!decide (i = j))) := rfl
@[simp] theorem r_neb {i j : Bool} : fNe (.bl i) (.bl j) = some (.bl (!decide (i = j))) := rfl
@[simp] theorem r_isb {i j : Bool} : fIs (.bl i) (.bl j) = some (.bl (decide (i = j))) := rfl
@[simp] theorem r_ntb {i j : Bool} : fNt (.bl i) (.bl j) = some (.bl (!decide (i = j))) := rfl
@[simp] theorem r_ins {c : Nat} {z : List Nat} : fIn (.str [c]) (.str z) = some (.bl (decide (c ∈ z))) := rfl
@[simp] theorem r_nis {c : Nat} {z : List Nat} : fNi (.str [c]) (.str z) = some (.bl (!decide (c ∈ z))) := rfl
@[simp] theorem r_ixl {xs : List D} {i : Int} : fIx (.lst xs) (.int i) = atI xs i := by
  show orF _ _ _ _ = _
  unfold orF fIxL fIxT fIxS
  dsimp only
  split
  · rename_i h; exact h.symm
  · rename_i h; rw [h]
@[simp] theorem r_ixt {xs : List D} {i : Int} : fIx (.tup xs) (.int i) = atI xs i := by
  show orF _ _ _ _ = _
  unfold orF fIxL fIxT fIxS
  dsimp only
  split
  · rename_i h; exact h.symm
  · rename_i h; rw [h]
@[simp] theorem r_ixs {xs : List Nat} {i : Int} : fIx (.str xs) (.int i) = if xs.length ≤ lim then (atI xs i).bind fun c => some (.str [c]) else none := by
  show orF _ _ _ _ = _
  unfold orF fIxL fIxT fIxS
  rfl
@[simp] theorem r_sll {xs : List D} {l u : Option Int} : fSl (.lst xs) l u = some (.lst (cutL xs l u)) := rfl
@[simp] theorem r_sls {xs : List Nat} {l u : Option Int} : fSl (.str xs) l u = if xs.length ≤ lim then some (.str (cutL xs l u)) else none := rfl
@[simp] theorem r_neg {i : Int} : fNeg (.int i) = some (.int (-i)) := rfl
@[simp] theorem r_len1 {xs : List Nat} : cLen [.str xs] = if xs.length ≤ lim then some (.int xs.length) else none := rfl
@[simp] theorem r_len2 {xs : List D} : cLen [.lst xs] = some (.int xs.length) := rfl
@[simp] theorem r_len3 {xs : List D} : cLen [.tup xs] = some (.int xs.length) := rfl
@[simp] theorem r_int1 {i : Int} : cInt [.int i] = some (.int i) := rfl
@[simp] theorem atI_zero {α : Type} {x : α} {xs : List α} : atI (x :: xs) 0 = some x := by
  unfold atI ixN
  simp
@[simp] theorem ixN_lit {n k : Nat} : ixN n (no_index (OfNat.ofNat k : Int)) = if k < n then some k else none := by
  unfold ixN
  show (if (0 : Int) ≤ ((k : Nat) : Int) then (if ((k : Nat) : Int) < n then some ((k : Nat) : Int).toNat else none) else _) = _
  rw [if_pos (by omega)]
  by_cases h : k < n
  · rw [if_pos h, if_pos (by omega)]; simp
  · rw [if_neg h, if_neg (by omega)]
@[simp] theorem ixN_zero {n : Nat} : ixN n 0 = if 0 < n then some 0 else none := ixN_lit (k := 0)
@[simp] theorem ixN_one {n : Nat} : ixN n 1 = if 1 < n then some 1 else none := ixN_lit (k := 1)
theorem atI_lit' {α : Type} {xs : List α} {k : Nat} : atI xs ((k : Nat) : Int) = xs[k]? := by
  unfold atI
  have := ixN_lit (n := xs.length) (k := k)
  rw [show ixN xs.length ((k : Nat) : Int) = if k < xs.length then some k else none from this]
  by_cases h : k < xs.length
  · rw [if_pos h]; rfl
  · rw [if_neg h, List.getElem?_eq_none (by omega)]; rfl
@[simp] theorem atI_lit {α : Type} {xs : List α} {k : Nat} : atI xs (no_index (OfNat.ofNat k : Int)) = xs[k]? := atI_lit' (k := k)
@[simp] theorem atI_one {α : Type} {xs : List α} : atI xs (1 : Int) = xs[1]? := atI_lit' (k := 1)
end

/-! ### the laws' draws -/
def lawNextB : S := (sSeq (sAsg 2 (eBin fIx (eVar 0) (eC (.int 0))))
  (sSeq (sIf (tE (eBin fLt (eVar 2) (eBlt cLen (aCons (eBin fIx (eVar 0) (eC (.int 3))) aNil)))) (sSeq (sSetI 0 (eC (.int 0)) (eBin fAdd (eVar 2) (eC (.int 1))))
  (sRet (eBin fMod (eBlt cInt (aCons (eBin fIx (eBin fIx (eVar 0) (eC (.int 3))) (eVar 2)) aNil)) (eVar 1)))) sNx)
  (sSeq (sSetI 0 (eC (.int 1)) (eBin fMod (eBlt cInt (aCons (eBin fAdd (eBin fMul (eBin fIx (eVar 0) (eC (.int 1))) (eC (.int 48271))) (eC (.int 12345))) aNil)) (eC (.int 2147483647))))
  (sSeq (sSetI 0 (eC (.int 2)) (eBin fMod (eBlt cInt (aCons (eBin fAdd (eBin fMul (eBin fIx (eVar 0) (eC (.int 2))) (eC (.int 69621))) (eC (.int 777))) aNil)) (eC (.int 2147483629))))
  (sRet (eBin fMod (eBlt cInt (aCons (eBin fAdd (eBin fDiv (eBin fIx (eVar 0) (eC (.int 1))) (eC (.int 64))) (eBin fDiv (eBin fIx (eVar 0) (eC (.int 2))) (eC (.int 128)))) aNil)) (eVar 1)))))))
def lawNext : Fn := fnS 2 3 lawNextB
structure DrE (e : Int) (xs : List D) : Prop where
  ex : ∃ (k a b : Int) (ds : List Int), xs = [.int k, .int a, .int b, .lst (ds.map .int), .int e] ∧ 0 ≤ k
def Drw (xs : List D) : Prop := ∃ e, DrE e xs

theorem cMul_r {i j : Int} (h : -18446744073709551616 < j ∧ j < 18446744073709551616) : cMul i j = true := by
  unfold cMul
  rw [decide_eq_true h, Bool.or_true]
theorem ixN_nat {n k : Nat} (h : k < n) : ixN n (k : Int) = some k := by
  unfold ixN
  rw [if_pos (by omega), if_pos (by omega)]
  simp
theorem atI_int {α : Type} {xs : List α} {i : Int} (h0 : 0 ≤ i) (h1 : i < xs.length) : atI xs i = some (xs[i.toNat]'(by omega)) := by
  unfold atI
  have : ixN xs.length i = some i.toNat := by
    unfold ixN
    rw [if_pos h0, if_pos h1]
  rw [this]
  simp
theorem next_okE {xs : List D} {m e : Int} (h : DrE e xs) (hm : 0 < m) : ∃ r ys, lawNext [.li xs, .da (.int m)] = some (.fz (.int r), [ys]) ∧ 0 ≤ r ∧ r < m ∧ DrE e ys := by
  obtain ⟨k, a, b, ds, rfl, hk⟩ := h.ex
  by_cases hlt : k < (ds.length : Int)
  · refine ⟨(ds[k.toNat]'(by omega)) % m, [.int (k + 1), .int a, .int b, .lst (ds.map .int), .int e], ?_, Int.emod_nonneg _ (by omega), Int.emod_lt_of_pos _ hm, ⟨_, _, _, _, rfl, by omega⟩⟩
    have e1 : atI (ds.map D.int) k = some (.int (ds[k.toNat]'(by omega))) := by
      rw [atI_int hk (by simpa using hlt)]
      simp
    rw [lawNext, r_fnS (by rfl)]
    simp [lawNextB, hlt, hm, e1]
  · refine ⟨((a * 48271 + 12345) % 2147483647 / 64 + (b * 69621 + 777) % 2147483629 / 128) % m, [.int k, .int ((a * 48271 + 12345) % 2147483647), .int ((b * 69621 + 777) % 2147483629), .lst (ds.map .int), .int e], ?_, Int.emod_nonneg _ (by omega), Int.emod_lt_of_pos _ hm, ⟨_, _, _, _, rfl, hk⟩⟩
    have c1 : cMul a 48271 = true := cMul_r (by decide)
    have c2 : cMul b 69621 = true := cMul_r (by decide)
    rw [lawNext, r_fnS (by rfl)]
    simp [lawNextB, hlt, hm, c1, c2]

theorem next_ok {xs : List D} {m : Int} (h : Drw xs) (hm : 0 < m) : ∃ r ys, lawNext [.li xs, .da (.int m)] = some (.fz (.int r), [ys]) ∧ 0 ≤ r ∧ r < m ∧ Drw ys := by
  obtain ⟨e, h⟩ := h
  obtain ⟨r, ys, h1, h2, h3, h4⟩ := next_okE h hm
  exact ⟨r, ys, h1, h2, h3, e, h4⟩
def lawDrawI : S := (sIf (tE (eBin fGt (eVar 5) (eC (.int 0)))) (sSeq (sApp 1 (eBin fMod (eBlt cInt (aCons (eVar 5) aNil)) (eC (.int 5040))))
  (sAsg 5 (eBin fDiv (eVar 5) (eC (.int 5040))))) sNx)
def lawDrawL : S := (sSeq (sAsg 2 (eBin fMod (eBlt cInt (aCons (eBin fAdd (eBin fMul (eVar 2) (eC (.int 48271))) (eVar 4)) aNil)) (eC (.int 2147483647))))
  (sSeq (sAsg 3 (eBin fMod (eBlt cInt (aCons (eBin fAdd (eBin fMul (eVar 3) (eC (.int 69621))) (eBin fDiv (eVar 4) (eC (.int 1009)))) aNil)) (eC (.int 2147483629))))
  (sSeq (sAsg 5 (eVar 4))
  (sSeq (sIf (tE (eBin fLt (eVar 4) (eBin fPow (eC (.int 10)) (eC (.int 18))))) (sAsg 5 (eC (.int 0))) sNx)
  (sFor (iR1 (aCons (eC (.int 60)) aNil)) (gN 6) lawDrawI)))))
def lawDrawB : S := (sSeq (sAsg 1 (eLst aNil))
  (sSeq (sAsg 2 (eC (.int 7)))
  (sSeq (sAsg 3 (eC (.int 11)))
  (sSeq (sFor (iSq (eVar 0)) (gN 4) lawDrawL)
  (sRet (eLst (aCons (eC (.int 0)) (aCons (eVar 2) (aCons (eVar 3) (aCons (eVar 1) (aCons (eC (.int 3)) aNil)))))))))))
def lawDraw : Fn := fnS 1 7 lawDrawB
theorem rngL_get {lo : Int} {n i : Nat} {x : D} (h : (rngL lo n)[i]? = some x) : i < n ∧ x = .int (lo + i) := by
  unfold rngL at h
  rw [List.getElem?_map] at h
  cases e : (List.range n)[i]? with
  | none => rw [e] at h; cases h
  | some j =>
    rw [e] at h
    obtain ⟨h1, h2⟩ := List.getElem?_eq_some_iff.mp e
    rw [List.length_range] at h1
    rw [List.getElem_range] at h2
    cases h
    exact ⟨h1, by rw [h2]⟩
theorem rngL_len {lo : Int} {n : Nat} : (rngL lo n).length = n := by unfold rngL; simp
theorem draw_okE {ns : List Int} (h : ns.length ≤ 63) : ∃ xs, lawDraw [.da (.scr ns)] = some (.fr xs, []) ∧ DrE 3 xs := by
  have key : Sv lawDrawB [.d (.scr ns), .no, .no, .no, .no, .no, .no] fun fl ρ' => ∃ xs, fl = .rt (.fr xs) ∧ DrE 3 xs := by
    refine sv_seq_eq (ρ1 := [.d (.scr ns), .ow [], .no, .no, .no, .no, .no]) (by simp) ?_
    refine sv_seq_eq (ρ1 := [.d (.scr ns), .ow [], .d (.int 7), .no, .no, .no, .no]) (by simp) ?_
    refine sv_seq_eq (ρ1 := [.d (.scr ns), .ow [], .d (.int 7), .d (.int 11), .no, .no, .no]) (by simp) ?_
    have hl : ∃ ρ', sFor (iSq (eVar 0)) (gN 4) lawDrawL [.d (.scr ns), .ow [], .d (.int 7), .d (.int 11), .no, .no, .no] = some (.nx, ρ') ∧ ∃ (ds : List Int) (a b : Int) (s4 s5 s6 : Sl), ρ' = [.d (.scr ns), .ow (ds.map .int), .d (.int a), .d (.int b), s4, s5, s6] ∧ ds.length ≤ 60 * (ns.map D.int).length ∧ ioQ (some s4) = false ∧ ioQ (some s5) = false ∧ ioQ (some s6) = false := by
      refine sFor_inv (fun i ρ => ∃ (ds : List Int) (a b : Int) (s4 s5 s6 : Sl), ρ = [.d (.scr ns), .ow (ds.map .int), .d (.int a), .d (.int b), s4, s5, s6] ∧ ds.length ≤ 60 * i ∧ ioQ (some s4) = false ∧ ioQ (some s5) = false ∧ ioQ (some s6) = false) (by simp) ⟨[], 7, 11, .no, .no, .no, rfl, by simp, rfl, rfl, rfl⟩ ?_
      rintro i x hx ρ ⟨ds, a, b, s4, s5, s6, rfl, hd, h4, h5, h6⟩
      rw [List.getElem?_map] at hx
      obtain ⟨n, hn, rfl⟩ : ∃ n, ns[i]? = some n ∧ x = .int n := by
        cases e : ns[i]? with
        | none => rw [e] at hx; cases hx
        | some n => rw [e] at hx; cases hx; exact ⟨n, rfl, rfl⟩
      have hi : i < 63 := by
        have := (List.getElem?_eq_some_iff.mp hn).1
        omega
      refine ⟨[.d (.scr ns), .ow (ds.map .int), .d (.int a), .d (.int b), .d (.int n), s5, s6], by simp [h4], ?_⟩
      have c1 : cMul a 48271 = true := cMul_r (by decide)
      have c2 : cMul b 69621 = true := cMul_r (by decide)
      show Sv _ _ fun fl ρ2 => (fl = .nx ∨ fl = .ct) ∧ _
      refine sv_seq_eq (ρ1 := [.d (.scr ns), .ow (ds.map .int), .d (.int ((a * 48271 + n) % 2147483647)), .d (.int b), .d (.int n), s5, s6]) (by simp [c1]) ?_
      refine sv_seq_eq (ρ1 := [.d (.scr ns), .ow (ds.map .int), .d (.int ((a * 48271 + n) % 2147483647)), .d (.int ((b * 69621 + n / 1009) % 2147483629)), .d (.int n), s5, s6]) (by simp [c2]) ?_
      refine sv_seq_eq (ρ1 := [.d (.scr ns), .ow (ds.map .int), .d (.int ((a * 48271 + n) % 2147483647)), .d (.int ((b * 69621 + n / 1009) % 2147483629)), .d (.int n), .d (.int n), s6]) (by simp [h5]) ?_
      refine sv_seq_eq (ρ1 := [.d (.scr ns), .ow (ds.map .int), .d (.int ((a * 48271 + n) % 2147483647)), .d (.int ((b * 69621 + n / 1009) % 2147483629)), .d (.int n), .d (.int (if n < 10 ^ 18 then 0 else n)), s6]) ?_ ?_
      · by_cases q : n < 1000000000000000000
        · simp [q]
        · simp [q]
      generalize (if n < (10 ^ 18 : Int) then 0 else n) = r0
      generalize (a * 48271 + n) % 2147483647 = a1
      generalize (b * 69621 + n / 1009) % 2147483629 = b1
      have hl2 : ∃ ρ', sFor (iR1 (aCons (eC (.int 60)) aNil)) (gN 6) lawDrawI [.d (.scr ns), .ow (ds.map .int), .d (.int a1), .d (.int b1), .d (.int n), .d (.int r0), s6] = some (.nx, ρ') ∧ ∃ (ds' : List Int) (r : Int) (s6 : Sl), ρ' = [.d (.scr ns), .ow (ds'.map .int), .d (.int a1), .d (.int b1), .d (.int n), .d (.int r), s6] ∧ ds'.length ≤ 60 * i + (rngL 0 60).length ∧ ioQ (some s6) = false := by
        refine sFor_inv (fun j ρ => ∃ (ds' : List Int) (r : Int) (s6 : Sl), ρ = [.d (.scr ns), .ow (ds'.map .int), .d (.int a1), .d (.int b1), .d (.int n), .d (.int r), s6] ∧ ds'.length ≤ 60 * i + j ∧ ioQ (some s6) = false) (by simp) ⟨ds, r0, s6, rfl, by omega, h6⟩ ?_
        rintro j x hx ρ ⟨ds', r, s6, rfl, hd', h6⟩
        obtain ⟨hj, rfl⟩ := rngL_get hx
        have hj : j < 60 := hj
        refine ⟨[.d (.scr ns), .ow (ds'.map .int), .d (.int a1), .d (.int b1), .d (.int n), .d (.int r), .d (.int (0 + j))], by simp [h6], ?_⟩
        have hl : (ds'.map D.int).length < lim := by
          rw [List.length_map]
          show _ < 16777216
          omega
        by_cases q : 0 < r
        · refine ⟨.nx, [.d (.scr ns), .ow ((ds' ++ [r % 5040]).map .int), .d (.int a1), .d (.int b1), .d (.int n), .d (.int (r / 5040)), .d (.int (0 + j))], ?_, .inl rfl, ds' ++ [r % 5040], r / 5040, .d (.int (0 + j)), rfl, by rw [List.length_append]; simp; omega, rfl⟩
          rw [List.length_map] at hl
          simp [lawDrawI, q, hl]
        · refine ⟨.nx, [.d (.scr ns), .ow (ds'.map .int), .d (.int a1), .d (.int b1), .d (.int n), .d (.int r), .d (.int (0 + j))], ?_, .inl rfl, ds', r, .d (.int (0 + j)), rfl, by omega, rfl⟩
          simp [lawDrawI, q]
      obtain ⟨ρ', e, ds', r', s6', rfl, hd', h6'⟩ := hl2
      rw [rngL_len] at hd'
      exact ⟨.nx, _, e, .inl rfl, ds', a1, b1, .d (.int n), .d (.int r'), s6', rfl, by omega, rfl, rfl, h6'⟩
    obtain ⟨ρ', e, ds, a, b, s4, s5, s6, rfl, hd, _⟩ := hl
    refine sv_seq_eq e ?_
    exact ⟨_, _, by simp; rfl, _, rfl, ⟨0, a, b, ds, rfl, by decide⟩⟩
  obtain ⟨fl, ρ', e, xs, rfl, hx⟩ := key
  refine ⟨xs, ?_, hx⟩
  rw [lawDraw, r_fnS (by rfl)]
  show (lawDrawB [.d (.scr ns), .no, .no, .no, .no, .no, .no]).bind _ = _
  rw [e]
  cases ρ' <;> rfl
theorem draw_ok {ns : List Int} (h : ns.length ≤ 63) : ∃ xs, lawDraw [.da (.scr ns)] = some (.fr xs, []) ∧ Drw xs :=
  let ⟨xs, h1, h2⟩ := draw_okE h
  ⟨xs, h1, 3, h2⟩
end Sw
/-! Sw10: comprehensions in the pure semantics; the letters that most laws draw. -/
namespace Sw
open L2

theorem iR1_ok {ms : M (List Vl)} {ρ ρ' : Rho} {j : Int} (h : ms ρ = some ([.fz (.int j)], ρ')) (h0 : -1000000 ≤ j) (h1 : j ≤ 1000000) : iR1 ms ρ = some (rngL 0 j.toNat, ρ') := by
  have q : -(2 ^ 62) ≤ j ∧ j < 2 ^ 62 := ⟨Int.le_trans (by decide) h0, Int.lt_of_le_of_lt h1 (by decide)⟩
  unfold iR1
  rw [h]
  show (if _ then _ else _) = _
  rw [if_pos q]
theorem outs_dn {x : D} {gs : List Ag} (h : ∀ r, outsOf gs r = []) : ∀ r, outsOf (.da x :: gs) r = []
  | [] => rfl
  | s :: r => by rw [r_outs1]; exact h r
@[simp] theorem outs_d1 {x : D} {r : Rho} : outsOf [.da x] r = [] := outs_dn (fun _ => r_outs0) r
@[simp] theorem outs_d2 {x y : D} {r : Rho} : outsOf [.da x, .da y] r = [] := outs_dn (fun _ => outs_d1) r
@[simp] theorem outs_d3 {x y z : D} {r : Rho} : outsOf [.da x, .da y, .da z] r = [] := outs_dn (fun _ => outs_d2) r
@[simp] theorem outs_d4 {x y z w : D} {r : Rho} : outsOf [.da x, .da y, .da z, .da w] r = [] := outs_dn (fun _ => outs_d3) r
/-- a comprehension whose turns change nothing else -/
theorem lcM_pure {vs : List Nat} {g : D → Rho → Option Rho} {t : M Bool} {e : M Vl} {ρ : Rho} (p : D → Bool) (h : D → D) : ∀ (xs acc : List D),
    (∀ x ∈ xs, ∃ ρ1, g x ρ = some ρ1 ∧ t ρ1 = some (p x, ρ1) ∧ (p x = true → e ρ1 = some (.fz (h x), ρ1)) ∧ wipeR ρ1 vs = ρ) → acc.length + xs.length ≤ lim → lcM vs g t e xs acc ρ = some (acc ++ (xs.filter p).map h, ρ)
  | [], acc, _, _ => by simp [lcM]
  | x :: xs, acc, hx, hl => by
    obtain ⟨ρ1, e1, e2, e3, e4⟩ := hx x List.mem_cons_self
    rw [List.length_cons] at hl
    unfold lcM
    rw [e1]
    show (t ρ1).bind _ = _
    rw [e2]
    show (if p x = true then _ else _) = _
    by_cases q : p x = true
    · rw [if_pos q, e3 q]
      show (if acc.length < lim then _ else _) = _
      rw [if_pos (by omega)]
      show lcM vs g t e xs (acc ++ [h x]) (wipeR ρ1 vs) = _
      rw [e4, lcM_pure p h xs _ (fun y hy => hx y (List.mem_cons_of_mem _ hy)) (by rw [List.length_append, List.length_singleton]; omega), List.filter_cons, if_pos q]
      simp
    · rw [if_neg q]
      show lcM vs g t e xs acc (wipeR ρ1 vs) = _
      rw [e4, lcM_pure p h xs _ (fun y hy => hx y (List.mem_cons_of_mem _ hy)) (by omega), List.filter_cons, if_neg q]
/-- .. and one with an invariant of the slots and of the list so far -/
theorem lcM_inv {vs : List Nat} {g : D → Rho → Option Rho} {t : M Bool} {e : M Vl} (I : Nat → List D → Rho → Prop) : ∀ (xs acc : List D) (k : Nat) (ρ : Rho), I k acc ρ →
    (∀ (i : Nat) (x : D), xs[i]? = some x → ∀ acc ρ, I (k + i) acc ρ → ∃ ρ1, g x ρ = some ρ1 ∧ ∃ b ρ2, t ρ1 = some (b, ρ2) ∧ (if b = true then ∃ r ρ3 z ρ4, e ρ2 = some (r, ρ3) ∧ frz ρ3 (stl r) = some (z, ρ4) ∧ acc.length < lim ∧ I (k + i + 1) (acc ++ [z]) (wipeR ρ4 vs) else I (k + i + 1) acc (wipeR ρ2 vs))) →
    ∃ acc' ρ', lcM vs g t e xs acc ρ = some (acc', ρ') ∧ I (k + xs.length) acc' ρ'
  | [], acc, k, ρ, h, _ => ⟨acc, ρ, rfl, h⟩
  | x :: xs, acc, k, ρ, h, step => by
    obtain ⟨ρ1, e1, b, ρ2, e2, h2⟩ := step 0 x rfl acc ρ h
    have next : ∀ (acc : List D) (ρ : Rho), I (k + 1) acc ρ → ∃ acc' ρ', lcM vs g t e xs acc ρ = some (acc', ρ') ∧ I (k + (x :: xs).length) acc' ρ' := fun acc ρ hI => by
      obtain ⟨acc', ρ', h3, h4⟩ := lcM_inv I xs acc (k + 1) ρ hI fun i y hy acc ρ h => by
        have := step (i + 1) y (by simpa using hy) acc ρ (by rw [show k + (i + 1) = k + 1 + i by omega]; exact h)
        rw [show k + (i + 1) + 1 = k + 1 + i + 1 by omega] at this
        exact this
      exact ⟨acc', ρ', h3, by rw [List.length_cons, show k + (xs.length + 1) = k + 1 + xs.length by omega]; exact h4⟩
    have un : lcM vs g t e (x :: xs) acc ρ = (g x ρ).bind fun ρ1 => (t ρ1).bind fun p => if p.1 = true then (e p.2).bind fun q => (frz q.2 (stl q.1)).bind fun z => if acc.length < lim then lcM vs g t e xs (acc ++ [z.1]) (wipeR z.2 vs) else none else lcM vs g t e xs acc (wipeR p.2 vs) := by
      conv => lhs; unfold lcM
    cases b with
    | true =>
      simp only [if_true] at h2
      obtain ⟨r, ρ3, z, ρ4, e3, e4, hl, h5⟩ := h2
      obtain ⟨acc', ρ', h6, h7⟩ := next _ _ h5
      refine ⟨acc', ρ', ?_, h7⟩
      rw [un, e1]
      show (t ρ1).bind _ = _
      rw [e2]
      show (e ρ2).bind _ = _
      rw [e3]
      show (frz ρ3 (stl r)).bind _ = _
      rw [e4]
      show (if acc.length < lim then _ else _) = _
      rw [if_pos hl]
      exact h6
    | false =>
      simp only [Bool.false_eq_true, if_false] at h2
      obtain ⟨acc', ρ', h6, h7⟩ := next _ _ h2
      refine ⟨acc', ρ', ?_, h7⟩
      rw [un, e1]
      show (t ρ1).bind _ = _
      rw [e2]
      exact h6
@[simp] theorem r_wipeR0 {ρ : Rho} : wipeR ρ [] = ρ := rfl
@[simp] theorem r_wipeR1 {ρ : Rho} {v : Nat} {vs : List Nat} : wipeR ρ (v :: vs) = (wipeR ρ vs).set v .no := rfl
@[simp] theorem r_backR0 {ρ0 ρ : Rho} : backR ρ0 ρ [] = ρ := rfl
@[simp] theorem r_backR1 {ρ0 ρ : Rho} {v : Nat} {vs : List Nat} : backR ρ0 ρ (v :: vs) = (backR ρ0 ρ vs).set v ((ρ0[v]?).getD .no) := rfl
@[simp] theorem r_plain1 : plainSl (some .no) = true := rfl
@[simp] theorem r_plain2 {x : D} : plainSl (some (.d x)) = true := rfl
theorem eLc_of {vs : List Nat} {src : M (List D)} {g : D → Rho → Option Rho} {t : M Bool} {e : M Vl} {ρ ρ1 ρ2 : Rho} {xs acc : List D} (h1 : src ρ = some (xs, ρ1)) (h2 : (vs.all fun v => plainSl ρ1[v]?) = true) (h3 : lcM vs g t e xs [] (wipeR ρ1 vs) = some (acc, ρ2)) : eLc vs src g t e ρ = some (.fr acc, backR ρ1 ρ2 vs) := by
  unfold eLc
  rw [h1]
  show (if _ then _ else _) = _
  rw [if_pos h2, h3]
  rfl
/-- join of a list of one-sign texts -/
theorem strsOf_map (cs : List (List Nat)) : strsOf (cs.map D.str) = some cs := by
  induction cs with
  | nil => rfl
  | cons c cs ih =>
    show (strsOf (cs.map D.str)).bind _ = _
    rw [ih]
    rfl
theorem join_nil : ∀ ys : List (List Nat), TL.joinL [] ys = ys.flatten
  | [] => rfl
  | [y] => by simp [TL.joinL]
  | y :: z :: r => by
    show y ++ ([] ++ TL.joinL [] (z :: r)) = _
    rw [join_nil (z :: r)]
    simp
theorem join_empty {cs : List (List Nat)} (h : (cs.map (·.length)).sum ≤ lim) : fJoin (.str []) [.lst (cs.map D.str)] = some (.str cs.flatten) := by
  unfold fJoin
  dsimp only
  rw [strsOf_map]
  show (if _ then _ else _) = _
  rw [if_pos (by simpa using h), join_nil]
/-- the texts of single signs -/
theorem flat1 : ∀ cs : List Nat, (cs.map fun c => [c]).flatten = cs
  | [] => rfl
  | c :: cs => by rw [List.map_cons, List.flatten_cons, flat1 cs]; rfl
theorem sum1 : ∀ cs : List Nat, ((cs.map fun c => [c]).map (·.length)).sum = cs.length
  | [] => rfl
  | c :: cs => by
    rw [List.map_cons, List.map_cons, List.sum_cons, sum1 cs, List.length_cons]
    show 1 + cs.length = cs.length + 1
    omega
theorem join_signs {cs : List Nat} (h : cs.length ≤ lim) : fJoin (.str []) [.lst (cs.map fun c => D.str [c])] = some (.str cs) := by
  have e : (cs.map fun c => D.str [c]) = (cs.map fun c => [c]).map D.str := by rw [List.map_map]; rfl
  rw [e, join_empty (by rw [sum1]; exact h), flat1]
/-! ### three different places -/
theorem cnt3 {a b c : Nat} (hab : a ≠ b) (hac : a ≠ c) (hbc : b ≠ c) : ∀ n : Nat, ((List.range n).filter fun k => decide (k = a) || (decide (k = b) || decide (k = c))).length = (if a < n then 1 else 0) + (if b < n then 1 else 0) + (if c < n then 1 else 0)
  | 0 => by simp
  | n + 1 => by
    rw [List.range_succ, List.filter_append, List.length_append, cnt3 hab hac hbc n]
    by_cases q1 : n = a
    · subst q1; simp; (repeat' split) <;> omega
    · by_cases q2 : n = b
      · subst q2; simp [q1]; (repeat' split) <;> omega
      · by_cases q3 : n = c
        · subst q3; simp [q1, q2]; (repeat' split) <;> omega
        · simp [q1, q2, q3]
          (repeat' split) <;> omega

def lawT1 : List Nat := [9, 10, 32, 33, 34, 35, 36, 38, 39, 40, 41, 42, 43, 44, 45, 46, 47, 48, 49, 50, 51, 52, 53, 54, 55, 56, 57, 58, 59, 60, 61, 62, 63, 64, 65, 66, 67, 68, 69, 70, 71, 72, 73, 74, 75, 76, 77, 78, 79, 80, 81, 82, 83, 84, 85, 86, 87, 88, 89, 90, 91, 92, 93, 94, 95, 96]
def lawT2 : List Nat := [97, 98, 99, 100, 101, 102, 103, 104, 105, 106, 107, 108, 109, 110, 111, 112, 113, 114, 115, 116, 117, 118, 119, 120, 121, 122, 123, 124, 125, 126]
/-- the 96 signs -/
def SGN : List Nat := lawT1 ++ lawT2
theorem SGN_len : SGN.length = 96 := by decide
def lawSignsB : S := (sSeq (sAsg 0 (eC (.str lawT1)))
  (sRet (eBin fAdd (eVar 0) (eC (.str lawT2)))))
def lawSigns : Fn := fnS 0 1 lawSignsB
theorem signs_ok : lawSigns [] = some (.fz (.str SGN), []) := by
  rw [lawSigns, r_fnS (by rfl)]
  simp [lawSignsB, SGN, show lawT1.length + lawT2.length ≤ lim by decide]
def lawLetC : M Vl := (eLc [6] (iR1 (aCons (eC (.int 96)) aNil)) (gN 6) (tOr (tE (eBin fEq (eVar 6) (eVar 3))) (tOr (tE (eBin fEq (eVar 6) (eVar 4))) (tE (eBin fEq (eVar 6) (eVar 5))))) (eBin fIx (eVar 2) (eVar 6)))
def lawLettersB : S := (sSeq (sAsg 1 (eCall lawNext [true, false] (aCons (eVar 0) (aCons (eC (.int 6)) aNil))))
  (sSeq (sIf (tE (eBin fEq (eVar 1) (eC (.int 0)))) (sRet (eC (.str [10, 97, 98]))) sNx)
  (sSeq (sIf (tE (eBin fEq (eVar 1) (eC (.int 1)))) (sRet (eC (.str [32, 97, 98]))) sNx)
  (sSeq (sIf (tE (eBin fEq (eVar 1) (eC (.int 2)))) (sRet (eC (.str [97, 98, 99]))) sNx)
  (sSeq (sAsg 2 (eCall lawSigns [] aNil))
  (sSeq (sAsg 3 (eCall lawNext [true, false] (aCons (eVar 0) (aCons (eC (.int 96)) aNil))))
  (sSeq (sAsg 4 (eBin fMod (eBlt cInt (aCons (eBin fAdd (eBin fAdd (eVar 3) (eC (.int 1))) (eCall lawNext [true, false] (aCons (eVar 0) (aCons (eC (.int 95)) aNil)))) aNil)) (eC (.int 96))))
  (sSeq (sAsg 5 (eBin fMod (eBlt cInt (aCons (eBin fAdd (eBin fAdd (eVar 3) (eC (.int 1))) (eCall lawNext [true, false] (aCons (eVar 0) (aCons (eC (.int 95)) aNil)))) aNil)) (eC (.int 96))))
  (sSeq (sIf (tE (eBin fEq (eVar 5) (eVar 4))) (sAsg 5 (eBin fMod (eBlt cInt (aCons (eBin fAdd (eVar 5) (eC (.int 1))) aNil)) (eC (.int 96)))) sNx)
  (sSeq (sIf (tE (eBin fEq (eVar 5) (eVar 3))) (sAsg 5 (eBin fMod (eBlt cInt (aCons (eBin fAdd (eVar 5) (eC (.int 1))) aNil)) (eC (.int 96)))) sNx)
  (sRet (eMet fJoin (eC (.str [])) (aCons lawLetC aNil)))))))))))))
def lawLetters : Fn := fnS 1 7 lawLettersB
/-- a call of the draw: the slot's list turns, the answer is a number below m -/
theorem draw_call {ρ : Rho} {i : Nat} {xs : List D} {m : Int} (h : Drw xs) (hm : 0 < m) (hi : ρ[i]? = some (.ow xs) ∨ ρ[i]? = some (.io xs)) : ∃ r ys, eCall lawNext [true, false] (aCons (eVar i) (aCons (eC (.int m)) aNil)) ρ = some (.fz (.int r), put ρ i ys) ∧ 0 ≤ r ∧ r < m ∧ Drw ys := by
  obtain ⟨r, ys, e, h1, h2, h3⟩ := next_ok h hm
  refine ⟨r, ys, ?_, h1, h2, h3⟩
  rcases hi with hi | hi
  · simp [hi, e]
  · simp [hi, e]
theorem SGN_at {r : Int} (h0 : 0 ≤ r) (h1 : r < 96) : atI SGN r = some (SGN[r.toNat]'(by rw [SGN_len]; omega)) := atI_int h0 (by rw [SGN_len]; omega)
theorem let_comp {f s t : Nat} {io : List D} {c : D} (hf : f < 96) (hs : s < 96) (ht : t < 96) (n1 : f ≠ s) (n2 : f ≠ t) (n3 : s ≠ t) :
    ∃ cs : List Nat, cs.length = 3 ∧ lawLetC [.io io, .d c, .d (.str SGN), .d (.int f), .d (.int s), .d (.int t), .no] = some (.fr (cs.map fun c => .str [c]), [.io io, .d c, .d (.str SGN), .d (.int f), .d (.int s), .d (.int t), .no]) ∧ cs.Sublist SGN := by
  refine ⟨((List.range 96).filter fun k => decide (k = f) || (decide (k = s) || decide (k = t))).map fun k => SGN.getD k 0, ?_, ?_, ?_⟩
  · rw [List.length_map, cnt3 n1 n2 n3]
    simp [hf, hs, ht]
  · have hl := lcM_pure (vs := [6]) (g := gN 6) (t := (tOr (tE (eBin fEq (eVar 6) (eVar 3))) (tOr (tE (eBin fEq (eVar 6) (eVar 4))) (tE (eBin fEq (eVar 6) (eVar 5)))))) (e := (eBin fIx (eVar 2) (eVar 6))) (ρ := [.io io, .d c, .d (.str SGN), .d (.int f), .d (.int s), .d (.int t), .no])
      (fun x => match x with
        | .int k => decide (k = f) || (decide (k = s) || decide (k = t))
        | _ => false) (fun x => match x with
        | .int k => .str [SGN.getD k.toNat 0]
        | _ => .non) (rngL 0 96) [] (fun x hx => ?_) (by rw [rngL_len]; decide)
    · rw [List.nil_append] at hl
      have e := eLc_of (vs := [6]) (src := iR1 (aCons (eC (.int 96)) aNil)) (ρ := [.io io, .d c, .d (.str SGN), .d (.int f), .d (.int s), .d (.int t), .no]) (ρ1 := [.io io, .d c, .d (.str SGN), .d (.int f), .d (.int s), .d (.int t), .no]) (xs := rngL 0 96) (by simp) (by simp) hl
      unfold lawLetC
      rw [e]
      refine congrArg some (Prod.ext (congrArg Vl.fr ?_) rfl)
      unfold rngL
      rw [List.filter_map, List.map_map, List.map_map]
      have e2 : ((fun x : D => match x with
        | .int k => decide (k = f) || (decide (k = s) || decide (k = t))
        | _ => false) ∘ fun i : Nat => D.int (0 + (i : Int))) = fun k => decide (k = f) || (decide (k = s) || decide (k = t)) := by
        funext k
        show (decide ((0 : Int) + k = f) || (decide ((0 : Int) + k = s) || decide ((0 : Int) + k = t))) = _
        congr 1
        · exact decide_eq_decide.mpr (by omega)
        · congr 1
          · exact decide_eq_decide.mpr (by omega)
          · exact decide_eq_decide.mpr (by omega)
      rw [e2]
      apply List.map_congr_left
      intro k _
      show D.str [SGN.getD ((0 : Int) + k).toNat 0] = _
      rw [show ((0 : Int) + k).toNat = k by omega]
      rfl
    · obtain ⟨i, hi⟩ := List.mem_iff_getElem?.mp hx
      obtain ⟨hi96, rfl⟩ := rngL_get hi
      refine ⟨[.io io, .d c, .d (.str SGN), .d (.int f), .d (.int s), .d (.int t), .d (.int (0 + i))], by simp, ?_, fun _ => ?_, by simp⟩
      · generalize (0 : Int) + i = z
        by_cases q1 : z = f
        · simp [q1]
        · by_cases q2 : z = s
          · simp [q1, q2]
          · simp [q1, q2]
      · have e := SGN_at (r := (0 : Int) + i) (by omega) (by omega)
        have hl : SGN.length ≤ lim := by rw [SGN_len]; decide
        simp only [r_eBin, r_eVar, List.getElem?_cons_succ, List.getElem?_cons_zero, Option.bind_some, r_stl1, r_look1, r_ixs, hl, if_true, e]
        rw [List.getD_eq_getElem?_getD, List.getElem?_eq_getElem (by rw [SGN_len]; omega)]
        rfl
  · have e : (List.range 96).map (fun k => SGN.getD k 0) = SGN := by decide
    have := (List.filter_sublist (p := fun k => decide (k = f) || (decide (k = s) || decide (k = t))) (l := List.range 96)).map (fun k => SGN.getD k 0)
    rw [e] at this
    exact this

theorem sv_seq_rt {a b : S} {ρ ρ1 : Rho} {v : Vl} {Q : Fl → Rho → Prop} (e : a ρ = some (.rt v, ρ1)) (h : Q (.rt v) ρ1) : Sv (sSeq a b) ρ Q := sv_seq ⟨_, _, e, h⟩
theorem letters_sub {xs : List D} (h : Drw xs) : ∃ cs ys, lawLetters [.li xs] = some (.fz (.str cs), [ys]) ∧ cs.length = 3 ∧ cs.Sublist SGN ∧ Drw ys := by
  have key : Sv lawLettersB [.io xs, .no, .no, .no, .no, .no, .no] fun fl ρ' => ∃ cs ys r, fl = .rt (.fz (.str cs)) ∧ ρ' = .io ys :: r ∧ cs.length = 3 ∧ cs.Sublist SGN ∧ Drw ys := by
    obtain ⟨r0, y0, e0, a0, b0, h0⟩ := draw_call (ρ := [.io xs, .no, .no, .no, .no, .no, .no]) (i := 0) (m := 6) h (by decide) (.inr rfl)
    refine sv_seq_eq (ρ1 := [.io y0, .d (.int r0), .no, .no, .no, .no, .no]) (by rw [r_sAsg, e0]; simp) ?_
    by_cases q0 : r0 = 0
    · exact sv_seq_rt (v := .fz (.str [10, 97, 98])) (by simp [q0]; rfl) ⟨_, y0, _, rfl, rfl, rfl, by decide, h0⟩
    refine sv_seq_eq (ρ1 := [.io y0, .d (.int r0), .no, .no, .no, .no, .no]) (by simp [q0]) ?_
    by_cases q1 : r0 = 1
    · exact sv_seq_rt (v := .fz (.str [32, 97, 98])) (by simp [q1]; rfl) ⟨_, y0, _, rfl, rfl, rfl, by decide, h0⟩
    refine sv_seq_eq (ρ1 := [.io y0, .d (.int r0), .no, .no, .no, .no, .no]) (by simp [q1]) ?_
    by_cases q2 : r0 = 2
    · exact sv_seq_rt (v := .fz (.str [97, 98, 99])) (by simp [q2]; rfl) ⟨_, y0, _, rfl, rfl, rfl, by decide, h0⟩
    refine sv_seq_eq (ρ1 := [.io y0, .d (.int r0), .no, .no, .no, .no, .no]) (by simp [q2]) ?_
    refine sv_seq_eq (ρ1 := [.io y0, .d (.int r0), .d (.str SGN), .no, .no, .no, .no]) (by simp [signs_ok]) ?_
    obtain ⟨f, y1, e1, a1, b1, h1⟩ := draw_call (ρ := [.io y0, .d (.int r0), .d (.str SGN), .no, .no, .no, .no]) (i := 0) (m := 96) h0 (by decide) (.inr rfl)
    refine sv_seq_eq (ρ1 := [.io y1, .d (.int r0), .d (.str SGN), .d (.int f), .no, .no, .no]) (by rw [r_sAsg, e1]; simp) ?_
    obtain ⟨s, y2, e2, a2, b2, h2⟩ := draw_call (ρ := [.io y1, .d (.int r0), .d (.str SGN), .d (.int f), .no, .no, .no]) (i := 0) (m := 95) h1 (by decide) (.inr rfl)
    refine sv_seq_eq (ρ1 := [.io y2, .d (.int r0), .d (.str SGN), .d (.int f), .d (.int ((f + 1 + s) % 96)), .no, .no]) ?_ ?_
    · have e3 : eBin fAdd (eBin fAdd (eVar 3) (eC (.int 1))) (eCall lawNext [true, false] (aCons (eVar 0) (aCons (eC (.int 95)) aNil))) [.io y1, .d (.int r0), .d (.str SGN), .d (.int f), .no, .no, .no] = some (.fz (.int (f + 1 + s)), [.io y2, .d (.int r0), .d (.str SGN), .d (.int f), .no, .no, .no]) := by
        rw [r_eBin]
        simp only [r_eBin, r_eVar, r_eC, List.getElem?_cons_succ, List.getElem?_cons_zero, Option.bind_some, r_stl1, r_look1, r_add1, e2]
        rfl
      simp only [r_sAsg, r_eBin (f := fMod), r_eBlt, r_aCons, e3, Option.bind_some, r_aNil]
      simp
    obtain ⟨t, y3, e3, a3, b3, h3⟩ := draw_call (ρ := [.io y2, .d (.int r0), .d (.str SGN), .d (.int f), .d (.int ((f + 1 + s) % 96)), .no, .no]) (i := 0) (m := 95) h2 (by decide) (.inr rfl)
    refine sv_seq_eq (ρ1 := [.io y3, .d (.int r0), .d (.str SGN), .d (.int f), .d (.int ((f + 1 + s) % 96)), .d (.int ((f + 1 + t) % 96)), .no]) ?_ ?_
    · have e4 : eBin fAdd (eBin fAdd (eVar 3) (eC (.int 1))) (eCall lawNext [true, false] (aCons (eVar 0) (aCons (eC (.int 95)) aNil))) [.io y2, .d (.int r0), .d (.str SGN), .d (.int f), .d (.int ((f + 1 + s) % 96)), .no, .no] = some (.fz (.int (f + 1 + t)), [.io y3, .d (.int r0), .d (.str SGN), .d (.int f), .d (.int ((f + 1 + s) % 96)), .no, .no]) := by
        rw [r_eBin]
        simp only [r_eBin, r_eVar, r_eC, List.getElem?_cons_succ, List.getElem?_cons_zero, Option.bind_some, r_stl1, r_look1, r_add1, e3]
        rfl
      simp only [r_sAsg, r_eBin (f := fMod), r_eBlt, r_aCons, e4, Option.bind_some, r_aNil]
      simp
    -- the two exchanges
    generalize hs' : (f + 1 + s) % 96 = s'
    generalize ht' : (f + 1 + t) % 96 = t'
    have ns : s' ≠ f := by omega
    have nt : t' ≠ f := by omega
    have rs : 0 ≤ s' ∧ s' < 96 := by omega
    have rt : 0 ≤ t' ∧ t' < 96 := by omega
    clear hs' ht' e2 e3 e1 e0 a2 b2 a3 b3
    obtain ⟨t1, et1, rt1, nt1, nx1⟩ : ∃ t1, sIf (tE (eBin fEq (eVar 5) (eVar 4))) (sAsg 5 (eBin fMod (eBlt cInt (aCons (eBin fAdd (eVar 5) (eC (.int 1))) aNil)) (eC (.int 96)))) sNx [.io y3, .d (.int r0), .d (.str SGN), .d (.int f), .d (.int s'), .d (.int t'), .no] = some (.nx, [.io y3, .d (.int r0), .d (.str SGN), .d (.int f), .d (.int s'), .d (.int t1), .no]) ∧ (0 ≤ t1 ∧ t1 < 96) ∧ t1 ≠ s' ∧ (t1 = f → f = (s' + 1) % 96) := by
      by_cases q : t' = s'
      · exact ⟨(t' + 1) % 96, by simp [q], by omega, by omega, fun z => by omega⟩
      · exact ⟨t', by simp [q], rt, q, fun z => absurd z nt⟩
    refine sv_seq_eq et1 ?_
    obtain ⟨t2, et2, rt2, nt2, nt3⟩ : ∃ t2, sIf (tE (eBin fEq (eVar 5) (eVar 3))) (sAsg 5 (eBin fMod (eBlt cInt (aCons (eBin fAdd (eVar 5) (eC (.int 1))) aNil)) (eC (.int 96)))) sNx [.io y3, .d (.int r0), .d (.str SGN), .d (.int f), .d (.int s'), .d (.int t1), .no] = some (.nx, [.io y3, .d (.int r0), .d (.str SGN), .d (.int f), .d (.int s'), .d (.int t2), .no]) ∧ (0 ≤ t2 ∧ t2 < 96) ∧ t2 ≠ s' ∧ t2 ≠ f := by
      by_cases q : t1 = f
      · exact ⟨(t1 + 1) % 96, by simp [q], by omega, by have := nx1 q; omega, by omega⟩
      · exact ⟨t1, by simp [q], rt1, nt1, q⟩
    refine sv_seq_eq et2 ?_
    obtain ⟨cs, hl, ec, hm⟩ := let_comp (f := f.toNat) (s := s'.toNat) (t := t2.toNat) (io := y3) (c := .int r0) (by omega) (by omega) (by omega) (by omega) (by omega) (by omega)
    rw [show ((f.toNat : Nat) : Int) = f by omega, show ((s'.toNat : Nat) : Int) = s' by omega, show ((t2.toNat : Nat) : Int) = t2 by omega] at ec
    have ej := join_signs (cs := cs) (by rw [hl]; decide)
    refine ⟨.rt (.fz (.str cs)), [.io y3, .d (.int r0), .d (.str SGN), .d (.int f), .d (.int s'), .d (.int t2), .no], ?_, cs, y3, _, rfl, rfl, hl, hm, h3⟩
    rw [r_sRet, r_eMet, r_eC]
    simp only [Option.bind_some, r_aCons, ec, r_aNil, r_stl1, r_stl2, r_look1, r_looks0, r_looks1, ej]
  obtain ⟨fl, ρ', e, cs, ys, r, rfl, rfl, h1, h2, h3⟩ := key
  refine ⟨cs, ys, ?_, h1, h2, h3⟩
  rw [lawLetters, r_fnS (by rfl)]
  show (lawLettersB [.io xs, .no, .no, .no, .no, .no, .no]).bind _ = _
  rw [e]
  simp
theorem letters_ok {xs : List D} (h : Drw xs) : ∃ cs ys, lawLetters [.li xs] = some (.fz (.str cs), [ys]) ∧ cs.length = 3 ∧ (∀ c ∈ cs, c ∈ SGN) ∧ Drw ys :=
  let ⟨cs, ys, e, h1, h2, h3⟩ := letters_sub h
  ⟨cs, ys, e, h1, fun _ hc => h2.subset hc, h3⟩
end Sw
/-! Sw11: isinstance, find, text * int, text < text, [::-1]. -/
namespace Sw
open PySem PySem.Spec PyProof.Rows L2

/-! ### isinstance(x, T), T a built-in type -/
def tyN : D → String
  | .non => "NoneType"
  | .bl _ => "bool"
  | .int _ => "int"
  | .str _ => "str"
  | .lst _ => "list"
  | .tup _ => "tuple"
  | .scr _ => "list"
  | .obj _ _ _ => "object"
theorem tyx {K : PySem.W.Frag} {H F : Hp} {v : V} {x : D} (no : ∀ c ks xs, x ≠ .obj c ks xs) (s : Same F H) (h : Vw K H F v x) : TyX K H v (.type (tyN x)) := by
  cases x with
  | non => rw [vw_non h]; exact .base .non
  | bl b => rw [vw_bl h]; exact .base (.bl b)
  | int i => rw [vw_int h]; exact .base (.int i)
  | str t => rw [vw_str h]; exact .base (.str _)
  | lst xs => obtain ⟨a, vs, rfl, h1, _⟩ := h; exact .base (.lst h1)
  | tup xs =>
    cases (show Rep K F v (.tup xs) from h) with
    | tup h1 _ =>
      rcases same_t s h1 with (q | ⟨o, q⟩) | ⟨o, its, n, q, c, _⟩
      · exact .base (.tup q)
      · exact .fTuple q
      · exact .kTuple q c
  | scr xs =>
    cases (show Rep K F v (.scr xs) from h) with
    | scr h1 =>
      rcases s.seq h1 with (q | ⟨o, q⟩) | ⟨o, its, n, q, c, _⟩
      · exact .base (.lst q)
      · exact .base (.frz q)
      · exact .kList q c
  | obj c ks xs => exact absurd rfl (no c ks xs)
def isO : D → Bool
  | .obj _ _ _ => true
  | _ => false
def fIsi (T : String) : D → Option D := fun x => if isO x = true then none else (kitB (tyN x) T).bind fun b => some (.bl b)
theorem fIsi_no {T : String} {x z : D} (h : fIsi T x = some z) : (∀ c ks xs, x ≠ .obj c ks xs) ∧ ((kitB (tyN x) T).bind fun b => some (D.bl b)) = some z := by
  unfold fIsi at h
  split at h
  · cases h
  · rename_i n
    exact ⟨fun c ks xs z => n (by rw [z]; rfl), h⟩
section
variable {X : Cx} {a b c e : Expr} {ma mb mc me : M Vl} {pos p : Pos} {es : List Expr} {ms : M (List Vl)}
theorem se_isi {T : String} {y : Str} {p2 : Pos} (hm : X.mg "isinstance" = none) (hg : Gl X "isinstance") (hm2 : X.mg y = none) (hg2 : Gl X y) (hv : bootBuiltins y = some (.type T)) (ha : SE X a ma) (hn : y ≠ "__name__" := by decide) (hdb : (y == ("__debug__" : Str)) = false := by decide)
    (he : starEach [a, .Name y p2] X.env = (false, eval a X.env) :: starEach [.Name y p2] X.env := by rfl) (he2 : starEach [.Name y p2] X.env = (false, eval (.Name y p2) X.env) :: starEach [] X.env := by rfl) (hpl : (backTo pos (starEach [.Name y p2] X.env)).any (·.1) = false := by rfl) :
    SE X (.Call (.Name "isinstance" p) [a, .Name y p2] [] pos) (eUn (fIsi T) ma) := by
  have pT : PE X (.Name y p2) (tC (.ty T)) := pe_bltn hg2 hm2 hv rfl hn hdb
  refine pe_weak (pe_callB call_isi hg hm (by decide +kernel) (pa_cons ha (pa_cons pT pa_nil he2) he) (by decide) (by decide) he hpl) fun σ H Q ⟨G, ρ, F, r0, ρ', W, hm, q⟩ => ?_
  unfold eUn at hm
  obtain ⟨⟨x, ρ1⟩, e1, hm⟩ := Option.bind_eq_some_iff.mp hm
  obtain ⟨dx, e3, hm⟩ := Option.bind_eq_some_iff.mp hm
  obtain ⟨dz, e5, hm⟩ := Option.bind_eq_some_iff.mp hm
  cases hm
  refine tm_use W e1 fun v H1 F1 s1 R1 => ?_
  obtain ⟨no, e5⟩ := fIsi_no e5
  obtain ⟨bb, e6, e7⟩ := Option.bind_eq_some_iff.mp e5
  cases e7
  exact ⟨v, .ty T, _, _, bb, rfl, .ty T, tyx no s1.wd.sub (vw_of s1.wd R1 e3), kit_ty e6, q _ H1 F1 s1 (.bl bb)⟩
theorem st_isi {T : String} {y : Str} {p2 : Pos} (hm : X.mg "isinstance" = none) (hg : Gl X "isinstance") (hm2 : X.mg y = none) (hg2 : Gl X y) (hv : bootBuiltins y = some (.type T)) (ha : SE X a ma)
    (hw : ∀ whole, isTrue (.Call (.Name "isinstance" p) [a, .Name y p2] [] pos) X.env whole = (do let v ← whole; standAt (Expr.pos (.Call (.Name "isinstance" p) [a, .Name y p2] [] pos)); holding [v] (truthy v))) (hn : y ≠ "__name__" := by decide) (hdb : (y == ("__debug__" : Str)) = false := by decide)
    (he : starEach [a, .Name y p2] X.env = (false, eval a X.env) :: starEach [.Name y p2] X.env := by rfl) (he2 : starEach [.Name y p2] X.env = (false, eval (.Name y p2) X.env) :: starEach [] X.env := by rfl) (hpl : (backTo pos (starEach [.Name y p2] X.env)).any (·.1) = false := by rfl) :
    ST X (.Call (.Name "isinstance" p) [a, .Name y p2] [] pos) (tE (eUn (fIsi T) ma)) := st_val (se_isi hm hg hm2 hg2 hv ha hn hdb he he2 hpl) hw

/-! ### text.find(sign) -/
def findC (s : List Nat) (c : Nat) : Int := if c ∈ s then (s.idxOf c : Int) else -1
def fFind : D → List D → Option D
  | .str s, [.str [c]] => some (.int (findC s c))
  | _, _ => none
theorem find_txt (s : List Nat) (c : Nat) : Txt.find ⟨s.toArray⟩ ⟨#[c]⟩ = findC s c := by
  unfold Txt.find findC
  rcases PySem.StrLaws.occ_head ⟨s.toArray⟩ ⟨#[c]⟩ 1 (Nat.le_refl 1) with ⟨h1, h2⟩ | ⟨i, r, h1, h2, h3⟩
  · rw [h1, if_neg]
    intro hc
    obtain ⟨i, hi⟩ := List.mem_iff_getElem?.mp hc
    exact h2 i ((PySem.StrLaws.subAt_one _ c i).mpr (by simpa using hi))
  · rw [h1]
    have hi := (PySem.StrLaws.subAt_one _ c i).mp h2
    have hi : s[i]? = some c := by simpa using hi
    obtain ⟨hlt, hge⟩ := List.getElem?_eq_some_iff.mp hi
    have hm : c ∈ s := by rw [← hge]; exact List.getElem_mem hlt
    rw [if_pos hm]
    show ((i : Nat) : Int) = _
    have : s.idxOf c = i := by
      have hl : s.idxOf c < s.length := List.idxOf_lt_length_of_mem hm
      have hg : s[s.idxOf c] = c := List.getElem_idxOf hl
      by_cases q : s.idxOf c < i
      · exact absurd ((PySem.StrLaws.subAt_one ⟨s.toArray⟩ c (s.idxOf c)).mpr (by simpa [List.getElem?_eq_getElem hl] using hg)) (h3 _ q)
      · by_cases q2 : i < s.idxOf c
        · have := List.not_of_lt_findIdx (p := fun x => x == c) (xs := s) (i := i) (by simpa [List.idxOf] using q2)
          simp [hge] at this
        · omega
    rw [this]
theorem ms_find {K : PySem.W.Frag} : MetS K (fun x xs H Q => ∃ a b, x = .str a ∧ xs = [.str b] ∧ Q (.int (Txt.find a b)) H) fFind := by
  intro H F v vs x xs z s hx hxs e Q q
  unfold fFind at e
  split at e
  · cases e
    obtain ⟨u, rfl, hu⟩ := vws1 hxs
    rw [vw_str hx, vw_str hu]
    refine ⟨_, _, rfl, rfl, ?_⟩
    rw [find_txt]
    exact q _ H F (Alc.refl s) (.int _)
  · cases e
theorem se_find {o : Expr} {mo : M Vl} {apos cpos : Pos} (ho : SE X o mo) (ha : SA X [e] ms)
    (hbase : attributeBase o "find" X.env (eval o X.env) = eval o X.env := by rfl)
    (hfew : ((backTo cpos (starEach [e] X.env)).all (fun x => !x.1) && (backToKw cpos (keywordEach [] X.env)).all (fun x => x.1.isSome)
      && decide ([e].length + ([] : List Keyword).length + (if ([] : List Keyword).isEmpty then 0 else 1) < 30)) = true := by rfl)
    (hline : (apos.endLine == cpos.line) = true := by rfl) (hs : starEach [e] X.env = (false, eval e X.env) :: starEach [] X.env := by rfl) (hplain : (backTo cpos (starEach [] X.env)).any (·.1) = false := by rfl) :
    SE X (.Call (.Attribute o "find" apos) [e] [] cpos) (eMet fFind mo ms) := se_met PySem.F.slot_str_find PySem.F.type_str_find mt_find (fun x xs z h => by
  unfold fFind at h
  split at h
  · exact ⟨_, rfl⟩
  · cases h) ms_find ho ha hbase hfew hline hs hplain

/-! ### x[::-1] -/
def tRevS (te : TE) : TE := fun σ H Q => te σ H fun x H1 => ∃ z : Str, x = .str z ∧ z.length ≤ sizeLine ∧ Q (.str ⟨z.cps.toList.reverse.toArray⟩) H1
theorem rev_picked (z : Str) (st : Tok) : slicePicked z none none (some (-1, st)) = (List.range z.length).reverse := by
  unfold slicePicked Builtin.Str.strSliceIndices
  show sliceRange ((z.length : Int) - 1) (-1) (-1) = _
  rw [PySem.W.krv_sliceRange, PySem.W.krv_range]
theorem pe_revS {e : Expr} {te : TE} {k : Nat} {p1 p2 p3 pos : Pos} (he : PE X e te) : PE X (.Subscript e (.Slice none none (some (.UnaryOp .USub (.Constant (.int 1) k p1) p2)) p3) pos) (fun σ H Q => te σ H fun x H1 => (∃ a xs, x = .ref a ∧ SqL X.K H1 a xs ∧ ∀ p, H1 p = none → Q (.ref p) (upd H1 p (.lst xs.reverse))) ∨ ∃ z : Str, x = .str z ∧ z.length ≤ sizeLine ∧ Q (.str ⟨z.cps.toList.reverse.toArray⟩) H1) := by
  refine ⟨fun pins s σ H Q I h => ?_⟩
  refine Subscript_ (thn (he.run pins s σ H _ I h) fun v s1 ⟨x, H1, I1, r1, q1⟩ => ?_)
  have hst : PO X (some (.UnaryOp .USub (.Constant (.int 1) k p1) p2)) (tPart (tUn (rU fun i => .int (-i)) (tC (.int 1)))) := po_some (pe_un un_neg pe_int)
  refine wpAny_Slice (thn (po_none.run pins s1 σ H1 (fun o H2 => o = none ∧ H2 = H1) I1 ⟨rfl, rfl⟩) fun vl s2 ⟨l, H2, I2, pl, el, e2⟩ => ?_)
  subst el e2
  refine thn (po_none.run pins s2 σ H2 (fun o H3 => o = none ∧ H3 = H2) I2 ⟨rfl, rfl⟩) fun vu s3 ⟨u, H3, I3, pu, eu, e3⟩ => ?_
  subst eu e3
  refine thn (hst.run pins s3 σ H3 (fun o H4 => o = some (-1) ∧ H4 = H3) I3 ⟨1, rfl, -1, rfl, rfl, rfl⟩) fun vs s4 ⟨o, H4, I4, ps, eo, e4⟩ => ?_
  subst eo e4
  have I5 : Inv X pins σ H4 { s4 with heap := s4.heap.push { cls := .type "slice", data := .fields #[vl, vu, vs] } } := I4.kept (t' := s4.toks) fun b ob q => Heap.get?_push_of_some _ q
  rcases q1 with ⟨a, xs, ex, hx, q⟩ | ⟨z, ex, hz, q⟩
  · subst ex
    cases r1
    obtain ⟨its, r, ht, hz⟩ := I5.list hx
    have hlen := r.length
    show wpAny (model X.prog X.w) X.A (subscriptTail e (.Slice none none (some (.UnaryOp .USub (.Constant (.int 1) k p1) p2)) p3) (.ref a) (.ref s4.heap.objs.size)) (EP X pins σ Q) X.xe { s4 with heap := s4.heap.push { cls := .type "slice", data := .fields #[vl, vu, vs] } }
    refine tail_any (ops := [.ref a, .ref s4.heap.objs.size]) ht.isList.typeIs (PySem.slot_list_getitem.lookup) ?_ (by with_unfolding_all rfl)
    refine wpAny_getItem_list_slice ht.isList (Heap.IsSliceOf.new _ vl vu vs) pl pu ps (by decide) ?_ (by rw [List.size_toArray]; omega)
    rw [PySem.W.krv_pick]
    refine ⟨.ref _, _, I5.laid (t' := s4.toks) (o := .lst xs.reverse) (fun b ob q => Heap.get?_push_of_some _ q) (Nat.le_refl _) ?_, rfl, q _ (I5.hok.fresh (Nat.le_refl _))⟩
    exact ⟨by rw [List.length_reverse]; exact hz, _, 0, r.reverse, Heap.get?_push_size _ rfl⟩
  · subst ex
    obtain ⟨t, rfl⟩ := r1
    obtain ⟨l, rfl, hl⟩ := IsPart.raw pl
    obtain ⟨u, rfl, hu⟩ := IsPart.raw pu
    obtain ⟨st, rfl, hst⟩ := IsPart.raw ps
    cases l with
    | some _ => cases hl
    | none =>
    cases u with
    | some _ => cases hu
    | none =>
    cases st with
    | none => cases hst
    | some st =>
    obtain ⟨i, st⟩ := st
    cases hst
    show wpAny (model X.prog X.w) X.A (subscriptTail e (.Slice none none (some (.UnaryOp .USub (.Constant (.int 1) k p1) p2)) p3) (.str z t) (.ref s4.heap.objs.size)) (EP X pins σ Q) X.xe { s4 with heap := s4.heap.push { cls := .type "slice", data := .fields #[_, _, _] } }
    refine tail_any (ops := [.str z t, .ref s4.heap.objs.size]) (typeIs_str _ _ _) (F.slot_str_getitem.lookup) ?_ (by with_unfolding_all rfl)
    refine wpAny_getItem_str_slice (l := none) (u := none) (st := some (-1, st)) ⟨_, Heap.get?_push_size _ rfl, rfl, rfl⟩ rfl ?_
    unfold sliceMade
    rw [rev_picked, if_neg (by simp)]
    have e : (List.range z.length).reverse.filterMap (z.cps[·]?) = z.cps.toList.reverse := by
      rw [List.filterMap_reverse]
      exact congrArg _ (PySem.W.krv_all z.cps)
    rw [e]
    exact ⟨by show _ ≤ sizeLine; simpa [Str.length] using hz, .str _, H4, I5.tok _, ⟨_, rfl⟩, q⟩
def fRev : D → Option D
  | .lst xs => some (.lst xs.reverse)
  | .str s => if s.length ≤ lim then some (.str s.reverse) else none
  | _ => none
theorem se_rev {k : Nat} {p1 p2 p3 : Pos} (he : SE X e me) : SE X (.Subscript e (.Slice none none (some (.UnaryOp .USub (.Constant (.int 1) k p1) p2)) p3) pos) (eUn fRev me) := by
  refine pe_weak (pe_revS he) fun σ H Q ⟨G, ρ, F, r0, ρ', W, hm, q⟩ => ?_
  unfold eUn at hm
  obtain ⟨⟨x, ρ1⟩, e1, hm⟩ := Option.bind_eq_some_iff.mp hm
  obtain ⟨dx, e3, hm⟩ := Option.bind_eq_some_iff.mp hm
  obtain ⟨dz, e5, hm⟩ := Option.bind_eq_some_iff.mp hm
  cases hm
  refine tm_use W e1 fun v H1 F1 s1 R1 => ?_
  have hv := vw_of s1.wd R1 e3
  unfold fRev at e5
  split at e5
  · cases e5
    obtain ⟨a, vs, rfl, h1, h2⟩ := hv
    refine .inl ⟨a, vs, rfl, SqL.of h1, fun p hp => ?_⟩
    have A := Alc.new (o := HO.lst vs.reverse) s1.wd.sub hp
    exact q _ _ _ (s1.trans (s1.wd.alc A)) (.lst upd_same (h2.reverse.mono A.ff))
  · split at e5
    · rename_i hl
      cases e5
      rw [vw_str hv]
      exact .inr ⟨_, rfl, lim_of (by simpa [Str.length] using hl), by simpa using q _ H1 F1 s1 (.str _)⟩
    · cases e5
  · cases e5
end
/-! ### evaluation -/
section
@[simp] theorem r_fIsi1 {b : Bool} : fIsi "bool" (.bl b) = some (.bl true) := by unfold fIsi; rw [show kitB (tyN (.bl b)) "bool" = some true by show kitB "bool" "bool" = _; decide +kernel]; rfl
@[simp] theorem r_fIsi2 {i : Int} : fIsi "int" (.int i) = some (.bl true) := by unfold fIsi; rw [show kitB (tyN (.int i)) "int" = some true by show kitB "int" "int" = _; decide +kernel]; rfl
@[simp] theorem r_fIsi3 {i : Int} : fIsi "bool" (.int i) = some (.bl false) := by unfold fIsi; rw [show kitB (tyN (.int i)) "bool" = some false by show kitB "int" "bool" = _; decide +kernel]; rfl
@[simp] theorem r_fIsi4 {s : List Nat} : fIsi "str" (.str s) = some (.bl true) := by unfold fIsi; rw [show kitB (tyN (.str s)) "str" = some true by show kitB "str" "str" = _; decide +kernel]; rfl
@[simp] theorem r_fIsi5 {s : List D} : fIsi "list" (.lst s) = some (.bl true) := by unfold fIsi; rw [show kitB (tyN (.lst s)) "list" = some true by show kitB "list" "list" = _; decide +kernel]; rfl
@[simp] theorem r_fIsi6 {s : List D} : fIsi "tuple" (.tup s) = some (.bl true) := by unfold fIsi; rw [show kitB (tyN (.tup s)) "tuple" = some true by show kitB "tuple" "tuple" = _; decide +kernel]; rfl
@[simp] theorem r_fFind {s : List Nat} {c : Nat} : fFind (.str s) [.str [c]] = some (.int (findC s c)) := rfl
@[simp] theorem r_rev1 {xs : List D} : fRev (.lst xs) = some (.lst xs.reverse) := rfl
@[simp] theorem r_rev2 {xs : List Nat} : fRev (.str xs) = if xs.length ≤ lim then some (.str xs.reverse) else none := rfl
end
end Sw
/-! Sw12: what holds behind a piece (Ev, Sv, Fv): rules that go by the piece's head, and a lemma go that runs them. -/
namespace Sw
open L2

def Fv (f : Fn) (gs : List Ag) (Q : Vl → List (List D) → Prop) : Prop := ∃ r os, f gs = some (r, os) ∧ Q r os
theorem Fv.mono {f : Fn} {gs : List Ag} {Q Q' : Vl → List (List D) → Prop} (h : Fv f gs Q) (w : ∀ r os, Q r os → Q' r os) : Fv f gs Q' :=
  let ⟨r, os, e, q⟩ := h
  ⟨r, os, e, w r os q⟩
theorem fv_eq {f : Fn} {gs : List Ag} {r : Vl} {os : List (List D)} {Q : Vl → List (List D) → Prop} (h : f gs = some (r, os)) (q : Q r os) : Fv f gs Q := ⟨r, os, h, q⟩
theorem Ev.mono {α : Type} {m : M α} {ρ : Rho} {Q Q' : α → Rho → Prop} (h : Ev m ρ Q) (w : ∀ r ρ', Q r ρ' → Q' r ρ') : Ev m ρ Q' :=
  let ⟨r, os, e, q⟩ := h
  ⟨r, os, e, w r os q⟩
theorem Sv.mono {s : S} {ρ : Rho} {Q Q' : Fl → Rho → Prop} (h : Sv s ρ Q) (w : ∀ r ρ', Q r ρ' → Q' r ρ') : Sv s ρ Q' :=
  let ⟨r, os, e, q⟩ := h
  ⟨r, os, e, w r os q⟩
theorem ev_eq {α : Type} {m : M α} {ρ ρ' : Rho} {r : α} {Q : α → Rho → Prop} (h : m ρ = some (r, ρ')) (q : Q r ρ') : Ev m ρ Q := ⟨r, ρ', h, q⟩
/-- a bool that parts -/
def Brn (c : Bool) (A B : Prop) : Prop := (c = true → A) ∧ (c = false → B)
theorem brn_t {A B : Prop} (h : A) : Brn true A B := ⟨fun _ => h, fun z => Bool.noConfusion z⟩
theorem brn_f {A B : Prop} (h : B) : Brn false A B := ⟨fun z => Bool.noConfusion z, fun _ => h⟩
theorem brn_nT {A B : Prop} (h : B) : Brn (!true) A B := brn_f h
theorem brn_nF {A B : Prop} (h : A) : Brn (!false) A B := brn_t h
theorem brn_nn {c : Bool} {A B : Prop} (h : Brn c A B) : Brn (!!c) A B := by rw [Bool.not_not]; exact h
theorem brn_dt {p : Prop} [Decidable p] {A B : Prop} (hp : p) (h : A) : Brn (decide p) A B := ⟨fun _ => h, fun z => absurd hp (of_decide_eq_false z)⟩
theorem brn_df {p : Prop} [Decidable p] {A B : Prop} (hp : ¬ p) (h : B) : Brn (decide p) A B := ⟨fun z => absurd (of_decide_eq_true z) hp, fun _ => h⟩
theorem brn_nt {p : Prop} [Decidable p] {A B : Prop} (hp : ¬ p) (h : A) : Brn (!decide p) A B := by rw [decide_eq_false hp]; exact brn_t h
theorem brn_nf {p : Prop} [Decidable p] {A B : Prop} (hp : p) (h : B) : Brn (!decide p) A B := by rw [decide_eq_true hp]; exact brn_f h
theorem brn_d {p : Prop} [Decidable p] {A B : Prop} (h1 : p → A) (h2 : ¬ p → B) : Brn (decide p) A B := ⟨fun z => h1 (of_decide_eq_true z), fun z => h2 (of_decide_eq_false z)⟩
theorem brn_nd {p : Prop} [Decidable p] {A B : Prop} (h1 : ¬ p → A) (h2 : p → B) : Brn (!decide p) A B := by
  by_cases q : p
  · exact brn_nf q (h2 q)
  · exact brn_nt q (h1 q)
/-- an operation that gives z -/
def Giv (o : Option D) (Q : D → Prop) : Prop := ∃ z, o = some z ∧ Q z
theorem giv {o : Option D} {z : D} {Q : D → Prop} (h : o = some z) (q : Q z) : Giv o Q := ⟨z, h, q⟩
section
variable {ρ : Rho} {a b c : M Vl} {ms : M (List Vl)} {t u : M Bool} {s s' s'' : S} {f g : D → D → Option D} {Q : Vl → Rho → Prop} {QB : Bool → Rho → Prop} {QS : Fl → Rho → Prop} {QL : List Vl → Rho → Prop} {i : Nat}
theorem ev_c {x : D} (q : Q (.fz x) ρ) : Ev (eC x) ρ Q := ⟨_, _, rfl, q⟩
theorem ev_vd {x : D} (h : ρ[i]? = some (.d x)) (q : Q (.fz x) ρ) : Ev (eVar i) ρ Q := ⟨_, _, by rw [r_eVar, h], q⟩
theorem ev_vo {x : List D} (h : ρ[i]? = some (.ow x)) (q : Q (.bw i) ρ) : Ev (eVar i) ρ Q := ⟨_, _, by rw [r_eVar, h], q⟩
theorem ev_vi {x : List D} (h : ρ[i]? = some (.io x)) (q : Q (.bw i) ρ) : Ev (eVar i) ρ Q := ⟨_, _, by rw [r_eVar, h], q⟩
/-- two values seen -/
def See2 (ρ : Rho) (r r2 : Vl) (P : D → D → Prop) : Prop := ∃ x y, look ρ (stl r) = some x ∧ look ρ (stl r2) = some y ∧ P x y
def See1 (ρ : Rho) (r : Vl) (P : D → Prop) : Prop := ∃ x, look ρ (stl r) = some x ∧ P x
def Sees (ρ : Rho) (rs : List Vl) (P : List D → Prop) : Prop := ∃ xs, looks ρ rs = some xs ∧ P xs
theorem see2 {r r2 : Vl} {P : D → D → Prop} {x y : D} (h1 : look ρ (stl r) = some x) (h2 : look ρ (stl r2) = some y) (h : P x y) : See2 ρ r r2 P := ⟨x, y, h1, h2, h⟩
theorem see1 {r : Vl} {P : D → Prop} {x : D} (h1 : look ρ (stl r) = some x) (h : P x) : See1 ρ r P := ⟨x, h1, h⟩
theorem sees {rs : List Vl} {P : List D → Prop} {xs : List D} (h1 : looks ρ rs = some xs) (h : P xs) : Sees ρ rs P := ⟨xs, h1, h⟩
theorem ev_bin (h : Ev a ρ fun r ρ1 => Ev b ρ1 fun r2 ρ2 => See2 ρ2 r r2 fun x y => Giv (f x y) fun z => Q (.fz z) ρ2) : Ev (eBin f a b) ρ Q := by
  obtain ⟨r, ρ1, e1, r2, ρ2, e2, x, y, e3, e4, z, e5, q⟩ := h
  exact ⟨_, ρ2, by rw [r_eBin, e1]; simp only [Option.bind_some, e2, e3, e4, e5], q⟩
theorem ev_un {h' : D → Option D} (h : Ev a ρ fun r ρ1 => See1 ρ1 r fun x => Giv (h' x) fun z => Q (.fz z) ρ1) : Ev (eUn h' a) ρ Q := by
  obtain ⟨r, ρ1, e1, x, e3, z, e5, q⟩ := h
  exact ⟨_, ρ1, by rw [r_eUn, e1]; simp only [Option.bind_some, e3, e5], q⟩
theorem ev_anil (q : QL [] ρ) : Ev aNil ρ QL := ⟨_, _, rfl, q⟩
theorem ev_acons (h : Ev a ρ fun r ρ1 => Ev ms ρ1 fun rs ρ2 => QL (stl r :: rs) ρ2) : Ev (aCons a ms) ρ QL := by
  obtain ⟨r, ρ1, e1, r2, ρ2, e2, q⟩ := h
  exact ⟨_, ρ2, by rw [r_aCons, e1]; simp only [Option.bind_some, e2], q⟩
theorem ev_blt {h' : List D → Option D} (h : Ev ms ρ fun rs ρ1 => Sees ρ1 rs fun xs => Giv (h' xs) fun z => Q (.fz z) ρ1) : Ev (eBlt h' ms) ρ Q := by
  obtain ⟨r, ρ1, e1, x, e3, z, e5, q⟩ := h
  exact ⟨_, ρ1, by rw [r_eBlt, e1]; simp only [Option.bind_some, e3, e5], q⟩
theorem ev_met {h' : D → List D → Option D} (h : Ev a ρ fun r ρ1 => Ev ms ρ1 fun rs ρ2 => See1 ρ2 r fun x => Sees ρ2 rs fun xs => Giv (h' x xs) fun z => Q (.fz z) ρ2) : Ev (eMet h' a ms) ρ Q := by
  obtain ⟨r, ρ1, e1, rs, ρ2, e2, x, e3, xs, e4, z, e5, q⟩ := h
  exact ⟨_, ρ2, by rw [r_eMet, e1]; simp only [Option.bind_some, e2, e3, e4, e5], q⟩
theorem ev_ono {Q : Option Int → Rho → Prop} (q : Q none ρ) : Ev oNo ρ Q := ⟨_, _, rfl, q⟩
def IsI (r : Vl) (P : Int → Prop) : Prop := ∃ i, r = .fz (.int i) ∧ P i
theorem isI {i : Int} {P : Int → Prop} (h : P i) : IsI (.fz (.int i)) P := ⟨i, rfl, h⟩
theorem ev_osome {Q : Option Int → Rho → Prop} (h : Ev a ρ fun r ρ1 => IsI r fun i => Q (some i) ρ1) : Ev (oSome a) ρ Q := by
  obtain ⟨r, ρ1, e1, i, rfl, q⟩ := h
  exact ⟨_, ρ1, by rw [r_oSome, e1]; rfl, q⟩
theorem ev_sl {h' : D → Option Int → Option Int → Option D} {l o : M (Option Int)} (h : Ev a ρ fun r ρ1 => Ev l ρ1 fun lo ρ2 => Ev o ρ2 fun hi ρ3 => See1 ρ3 r fun x => Giv (h' x lo hi) fun z => Q (.fz z) ρ3) : Ev (eSl h' a l o) ρ Q := by
  obtain ⟨r, ρ1, e1, lo, ρ2, e2, hi, ρ3, e3, x, e4, z, e5, q⟩ := h
  exact ⟨_, ρ3, by rw [r_eSl, e1]; simp only [Option.bind_some, e2, e3, e4, e5], q⟩
def Frzs (ρ : Rho) (rs : List Vl) (P : List D → Rho → Prop) : Prop := ∃ xs ρ1, frzs ρ rs = some (xs, ρ1) ∧ P xs ρ1
theorem frzs' {rs : List Vl} {P : List D → Rho → Prop} {xs : List D} {ρ1 : Rho} (h1 : frzs ρ rs = some (xs, ρ1)) (h : P xs ρ1) : Frzs ρ rs P := ⟨xs, ρ1, h1, h⟩
theorem ev_tup (h : Ev ms ρ fun rs ρ1 => Frzs ρ1 rs fun xs ρ2 => xs.length ≤ lim ∧ Q (.fz (.tup xs)) ρ2) : Ev (eTup ms) ρ Q := by
  obtain ⟨rs, ρ1, e1, xs, ρ2, e2, hl, q⟩ := h
  exact ⟨_, ρ2, by rw [r_eTup, e1]; simp only [Option.bind_some, e2, hl, if_true], q⟩
theorem ev_lst (h : Ev ms ρ fun rs ρ1 => Frzs ρ1 rs fun xs ρ2 => xs.length ≤ lim ∧ Q (.fr xs) ρ2) : Ev (eLst ms) ρ Q := by
  obtain ⟨rs, ρ1, e1, xs, ρ2, e2, hl, q⟩ := h
  exact ⟨_, ρ2, by rw [r_eLst, e1]; simp only [Option.bind_some, e2, hl, if_true], q⟩
def IsB (r : Vl) (P : Bool → Prop) : Prop := ∃ b, r = .fz (.bl b) ∧ P b
theorem isB {i : Bool} {P : Bool → Prop} (h : P i) : IsB (.fz (.bl i)) P := ⟨i, rfl, h⟩
theorem ev_tE (h : Ev a ρ fun r ρ1 => IsB r fun b => QB b ρ1) : Ev (tE a) ρ QB := by
  obtain ⟨r, ρ1, e1, i, rfl, q⟩ := h
  exact ⟨_, ρ1, by rw [r_tE, e1]; rfl, q⟩
theorem ev_tyes (q : QB true ρ) : Ev tYesM ρ QB := ⟨_, _, rfl, q⟩
theorem ev_tAnd (h : Ev t ρ fun v ρ1 => Brn v (Ev u ρ1 QB) (QB false ρ1)) : Ev (tAnd t u) ρ QB := by
  obtain ⟨v, ρ1, e1, h1, h2⟩ := h
  cases v with
  | true => obtain ⟨r, ρ2, e2, q⟩ := h1 rfl; exact ⟨r, ρ2, by rw [r_tAnd, e1]; exact e2, q⟩
  | false => exact ⟨false, ρ1, by rw [r_tAnd, e1]; rfl, h2 rfl⟩
theorem ev_tOr (h : Ev t ρ fun v ρ1 => Brn v (QB true ρ1) (Ev u ρ1 QB)) : Ev (tOr t u) ρ QB := by
  obtain ⟨v, ρ1, e1, h1, h2⟩ := h
  cases v with
  | false => obtain ⟨r, ρ2, e2, q⟩ := h2 rfl; exact ⟨r, ρ2, by rw [r_tOr, e1]; exact e2, q⟩
  | true => exact ⟨true, ρ1, by rw [r_tOr, e1]; rfl, h1 rfl⟩
theorem ev_tNot (h : Ev t ρ fun v ρ1 => QB (!v) ρ1) : Ev (tNot t) ρ QB := by
  obtain ⟨v, ρ1, e1, q⟩ := h
  exact ⟨!v, ρ1, by rw [r_tNot, e1]; rfl, q⟩
theorem ev_eAnd (h : Ev a ρ fun r ρ1 => IsB r fun v => Brn v (Ev b ρ1 Q) (Q (.fz (.bl false)) ρ1)) : Ev (eAnd a b) ρ Q := by
  obtain ⟨r, ρ1, e1, v, rfl, h1, h2⟩ := h
  cases v with
  | true => obtain ⟨r, ρ2, e2, q⟩ := h1 rfl; exact ⟨r, ρ2, by rw [r_eAnd, e1]; exact e2, q⟩
  | false => exact ⟨_, ρ1, by rw [r_eAnd, e1]; rfl, h2 rfl⟩
theorem ev_eOr (h : Ev a ρ fun r ρ1 => IsB r fun v => Brn v (Q (.fz (.bl true)) ρ1) (Ev b ρ1 Q)) : Ev (eOr a b) ρ Q := by
  obtain ⟨r, ρ1, e1, v, rfl, h1, h2⟩ := h
  cases v with
  | false => obtain ⟨r, ρ2, e2, q⟩ := h2 rfl; exact ⟨r, ρ2, by rw [r_eOr, e1]; exact e2, q⟩
  | true => exact ⟨_, ρ1, by rw [r_eOr, e1]; rfl, h1 rfl⟩
theorem ev_eNot (h : Ev a ρ fun r ρ1 => IsB r fun v => Q (.fz (.bl (!v))) ρ1) : Ev (eNot a) ρ Q := by
  obtain ⟨r, ρ1, e1, v, rfl, q⟩ := h
  exact ⟨_, ρ1, by rw [r_eNot, e1]; rfl, q⟩
theorem ev_eIf (h : Ev t ρ fun v ρ1 => Brn v (Ev a ρ1 Q) (Ev b ρ1 Q)) : Ev (eIf t a b) ρ Q := by
  obtain ⟨v, ρ1, e1, h1, h2⟩ := h
  cases v with
  | true => obtain ⟨r, ρ2, e2, q⟩ := h1 rfl; exact ⟨r, ρ2, by rw [r_eIf, e1]; exact e2, q⟩
  | false => obtain ⟨r, ρ2, e2, q⟩ := h2 rfl; exact ⟨r, ρ2, by rw [r_eIf, e1]; exact e2, q⟩
def IsBD (z : D) (P : Bool → Prop) : Prop := ∃ b, z = .bl b ∧ P b
theorem isBD {i : Bool} {P : Bool → Prop} (h : P i) : IsBD (.bl i) P := ⟨i, rfl, h⟩
theorem ev_chain (h : Ev a ρ fun r ρ1 => Ev b ρ1 fun r2 ρ2 => See2 ρ2 r r2 fun x y => Giv (f x y) fun z => IsBD z fun v => Brn v (Ev c ρ2 fun r3 ρ3 => See2 ρ3 r2 r3 fun y2 w => Giv (g y2 w) fun z2 => Q (.fz z2) ρ3) (Q (.fz (.bl false)) ρ2)) : Ev (eChain f g a b c) ρ Q := by
  obtain ⟨r, ρ1, e1, r2, ρ2, e2, x, y, e3, e4, z, e5, v, rfl, h1, h2⟩ := h
  cases v with
  | true =>
    obtain ⟨r3, ρ3, e6, y2, w, e7, e8, z2, e9, q⟩ := h1 rfl
    exact ⟨_, ρ3, by rw [r_eChain, e1]; simp only [Option.bind_some, e2, e3, e4, e5, e6, e7, e8, e9], q⟩
  | false => exact ⟨_, ρ2, by rw [r_eChain, e1]; simp only [Option.bind_some, e2, e3, e4, e5], h2 rfl⟩
/-! calls -/
def Arg (fs : List Bool) (rs : List Vl) (ρ : Rho) (P : List (D ⊕ Nat) → List Ag → Rho → Prop) : Prop := ∃ ts ρ2 gs, ag1 fs rs ρ = some (ts, ρ2) ∧ ag2 ρ2 ts = some gs ∧ (agI ts).Nodup ∧ P ts gs ρ2
theorem arg {fs : List Bool} {rs : List Vl} {P : List (D ⊕ Nat) → List Ag → Rho → Prop} {ts : List (D ⊕ Nat)} {ρ2 : Rho} {gs : List Ag} (h1 : ag1 fs rs ρ = some (ts, ρ2)) (h2 : ag2 ρ2 ts = some gs) (h3 : (agI ts).Nodup) (h : P ts gs ρ2) : Arg fs rs ρ P := ⟨ts, ρ2, gs, h1, h2, h3, h⟩
def noBw : Vl → Prop
  | .bw _ => False
  | _ => True
theorem ev_call {h' : Fn} {fs : List Bool} (h : Ev ms ρ fun rs ρ1 => Arg fs rs ρ1 fun ts gs ρ2 => Fv h' gs fun r os => noBw r ∧ Q r (puts ρ2 (agI ts) os)) : Ev (eCall h' fs ms) ρ Q := by
  obtain ⟨rs, ρ1, e1, ts, ρ2, gs, e2, e3, hn, r, os, e4, nb, q⟩ := h
  refine ⟨r, _, ?_, q⟩
  rw [r_eCall, e1]
  simp only [Option.bind_some, e2, e3, if_pos hn, e4]
  cases r with
  | bw j => exact nb.elim
  | fz x => rfl
  | fr x => rfl
/-! statements -/
theorem sv_asg_s {i : Nat} (h : Ev a ρ fun r ρ1 => ∃ ρ2, asg i r ρ1 = some ρ2 ∧ Sv s ρ2 QS) : Sv (sSeq (sAsg i a) s) ρ QS := by
  obtain ⟨r, ρ1, e1, ρ2, e2, h⟩ := h
  exact sv_seq_eq (ρ1 := ρ2) (by rw [r_sAsg, e1]; simp only [Option.bind_some, e2]) h
theorem sv_asg_l {i : Nat} (h : Ev a ρ fun r ρ1 => ∃ ρ2, asg i r ρ1 = some ρ2 ∧ QS .nx ρ2) : Sv (sAsg i a) ρ QS := by
  obtain ⟨r, ρ1, e1, ρ2, e2, h⟩ := h
  exact ⟨.nx, ρ2, by rw [r_sAsg, e1]; simp only [Option.bind_some, e2], h⟩
theorem asg_z {i : Nat} {x : D} (h : ioQ ρ[i]? = false) : asg i (.fz x) ρ = some (ρ.set i (.d x)) := by
  unfold asg
  cases e : ρ[i]? with
  | none => rw [e] at h; cases h
  | some s => cases s with
    | io xs => rw [e] at h; cases h
    | _ => rfl
theorem asg_r {i : Nat} {x : List D} (h : ioQ ρ[i]? = false) : asg i (.fr x) ρ = some (ρ.set i (.ow x)) := by
  unfold asg
  cases e : ρ[i]? with
  | none => rw [e] at h; cases h
  | some s => cases s with
    | io xs => rw [e] at h; cases h
    | _ => rfl
theorem ex_asg {i : Nat} {x : D} {P : Rho → Prop} (h : ioQ ρ[i]? = false) (q : P (ρ.set i (.d x))) : ∃ ρ2, asg i (.fz x) ρ = some ρ2 ∧ P ρ2 := ⟨_, asg_z h, q⟩
theorem ex_asg' {i : Nat} {x : List D} {P : Rho → Prop} (h : ioQ ρ[i]? = false) (q : P (ρ.set i (.ow x))) : ∃ ρ2, asg i (.fr x) ρ = some ρ2 ∧ P ρ2 := ⟨_, asg_r h, q⟩
theorem ex_asg'' {i j : Nat} {P : Rho → Prop} {ρ2 : Rho} (h : asg i (.bw j) ρ = some ρ2) (q : P ρ2) : ∃ ρ2, asg i (.bw j) ρ = some ρ2 ∧ P ρ2 := ⟨_, h, q⟩
theorem sv_if_s (h : Ev t ρ fun v ρ1 => Brn v (Sv (sSeq s s'') ρ1 QS) (Sv (sSeq s' s'') ρ1 QS)) : Sv (sSeq (sIf t s s') s'') ρ QS := by
  obtain ⟨v, ρ1, e1, h1, h2⟩ := h
  have e : ∀ x, sSeq (sIf t s s') s'' ρ = x ↔ (sSeq (if v = true then s else s') s'') ρ1 = x := fun x => by
    rw [r_sSeq, r_sSeq, r_sIf, e1]
    cases v <;> rfl
  cases v with
  | true => obtain ⟨fl, ρ2, e2, q⟩ := h1 rfl; exact ⟨fl, ρ2, (e _).mpr e2, q⟩
  | false => obtain ⟨fl, ρ2, e2, q⟩ := h2 rfl; exact ⟨fl, ρ2, (e _).mpr e2, q⟩
theorem sv_if_l (h : Ev t ρ fun v ρ1 => Brn v (Sv s ρ1 QS) (Sv s' ρ1 QS)) : Sv (sIf t s s') ρ QS := by
  obtain ⟨v, ρ1, e1, h1, h2⟩ := h
  exact sv_if e1 h1 h2
theorem sv_nx_s (h : Sv s ρ QS) : Sv (sSeq sNx s) ρ QS := sv_seq_eq rfl h
theorem sv_seq_s (h : Sv (sSeq s (sSeq s' s'')) ρ QS) : Sv (sSeq (sSeq s s') s'') ρ QS := by
  obtain ⟨fl, ρ2, e2, q⟩ := h
  refine ⟨fl, ρ2, ?_, q⟩
  rw [r_sSeq] at e2
  rw [r_sSeq, r_sSeq]
  cases e : s ρ with
  | none => rw [e] at e2; cases e2
  | some p =>
    rw [e] at e2
    obtain ⟨f1, ρ1⟩ := p
    cases f1 with
    | nx => exact e2
    | bk => exact e2
    | ct => exact e2
    | rt v => exact e2
    | ex x => exact e2
def Ret (r : Vl) (ρ : Rho) (P : Vl → Prop) : Prop := match r with
  | .fz x => P (.fz x)
  | .fr x => P (.fr x)
  | .bw i => ∃ xs, ρ[i]? = some (.ow xs) ∧ P (.fr xs)
theorem sv_ret_l (h : Ev a ρ fun r ρ1 => Ret r ρ1 fun v => QS (.rt v) ρ1) : Sv (sRet a) ρ QS := by
  obtain ⟨r, ρ1, e1, q⟩ := h
  cases r with
  | fz x => exact ⟨_, ρ1, by rw [r_sRet, e1]; rfl, q⟩
  | fr x => exact ⟨_, ρ1, by rw [r_sRet, e1]; rfl, q⟩
  | bw i => obtain ⟨xs, e2, q⟩ := q; exact ⟨_, ρ1, by rw [r_sRet, e1]; simp only [Option.bind_some, e2], q⟩
theorem sv_ret_s (h : Ev a ρ fun r ρ1 => Ret r ρ1 fun v => QS (.rt v) ρ1) : Sv (sSeq (sRet a) s) ρ QS := sv_seq (sv_ret_l h)
theorem sv_drop_s (h : Ev a ρ fun r ρ1 => Sv s ρ1 QS) : Sv (sSeq (sDrop a) s) ρ QS := by
  obtain ⟨r, ρ1, e1, q⟩ := h
  exact sv_seq_eq (ρ1 := ρ1) (by show (a ρ).bind _ = _; rw [e1]; rfl) q
def App (ρ : Rho) (i : Nat) (r : Vl) (P : Rho → Prop) : Prop := ∃ z ρ1 xs, frz ρ (stl r) = some (z, ρ1) ∧ own? ρ1 i = some xs ∧ xs.length < lim ∧ P (put ρ1 i (xs ++ [z]))
theorem app {r : Vl} {P : Rho → Prop} {z : D} {ρ1 : Rho} {xs : List D} (h1 : frz ρ (stl r) = some (z, ρ1)) (h2 : own? ρ1 i = some xs) (h3 : xs.length < lim) (h : P (put ρ1 i (xs ++ [z]))) : App ρ i r P := ⟨z, ρ1, xs, h1, h2, h3, h⟩
theorem sv_app_l (h0 : (own? ρ i).isSome = true) (h : Ev a ρ fun r ρ1 => App ρ1 i r fun ρ2 => QS .nx ρ2) : Sv (sApp i a) ρ QS := by
  obtain ⟨r, ρ1, e1, z, ρ2, xs, e2, e3, hl, q⟩ := h
  obtain ⟨y, ey⟩ := Option.isSome_iff_exists.mp h0
  refine ⟨.nx, _, ?_, q⟩
  show (own? ρ i).bind _ = _
  rw [ey]
  simp only [Option.bind_some, e1, e2, e3, hl, if_true]
theorem sv_app_s (h0 : (own? ρ i).isSome = true) (h : Ev a ρ fun r ρ1 => App ρ1 i r fun ρ2 => Sv s ρ2 QS) : Sv (sSeq (sApp i a) s) ρ QS := sv_seq (sv_app_l h0 h)
theorem sv_eq {fl : Fl} {ρ1 : Rho} (h : s ρ = some (fl, ρ1)) (q : QS fl ρ1) : Sv s ρ QS := ⟨fl, ρ1, h, q⟩
/-- a function's body -/
def FEnd (Q : Vl → List (List D) → Prop) (gs : List Ag) : Fl → Rho → Prop
  | .nx, ρ => Q (.fz .non) (outsOf gs ρ)
  | .rt (.fz x), ρ => Q (.fz x) (outsOf gs ρ)
  | .rt (.fr x), ρ => Q (.fr x) (outsOf gs ρ)
  | _, _ => False
theorem fv_fn {n nl : Nat} {gs : List Ag} {Q : Vl → List (List D) → Prop} (hn : gs.length = n) (h : Sv s (gs.map slOf ++ List.replicate (nl - n) .no) (FEnd Q gs)) : Fv (fnS n nl s) gs Q := by
  obtain ⟨fl, ρ', e, q⟩ := h
  have un : fnS n nl s gs = if gs.length = n then (s (gs.map slOf ++ List.replicate (nl - n) .no)).bind fun p => (match p.1 with
  | .nx => some (.fz .non, outsOf gs p.2)
  | .rt (.fz x) => some (.fz x, outsOf gs p.2)
  | .rt (.fr x) => some (.fr x, outsOf gs p.2)
  | _ => none) else none := rfl
  unfold Fv
  rw [un, if_pos hn, e]
  cases fl with
  | nx => exact ⟨_, _, rfl, q⟩
  | bk => exact q.elim
  | ct => exact q.elim
  | ex x => exact q.elim
  | rt v => cases v with
    | fz x => exact ⟨_, _, rfl, q⟩
    | fr x => exact ⟨_, _, rfl, q⟩
    | bw j => exact q.elim
/-! loops -/
theorem ev_isq {QD : List D → Rho → Prop} (h : Ev a ρ fun r ρ1 => ∃ z ρ2 xs, frz ρ1 (stl r) = some (z, ρ2) ∧ itemsOf z = some xs ∧ QD xs ρ2) : Ev (iSq a) ρ QD := by
  obtain ⟨r, ρ1, e1, z, ρ2, xs, e2, e3, q⟩ := h
  exact ⟨xs, ρ2, by show (a ρ).bind _ = _; rw [e1]; simp only [Option.bind_some, e2, e3], q⟩
theorem ev_ir1 {QD : List D → Rho → Prop} (h : Ev ms ρ fun rs ρ1 => ∃ j, rs = [.fz (.int j)] ∧ -1000000 ≤ j ∧ j ≤ 1000000 ∧ QD (rngL 0 j.toNat) ρ1) : Ev (iR1 ms) ρ QD := by
  obtain ⟨r, ρ1, e1, j, rfl, h0, h1, q⟩ := h
  exact ⟨_, ρ1, iR1_ok e1 h0 h1, q⟩
/-- a for whose turns may return early: I by the turn, else E -/
theorem forM_sv {g : D → Rho → Option Rho} {b : S} (I : Nat → Rho → Prop) : ∀ (xs : List D) (k : Nat) (ρ : Rho), I k ρ →
    (∀ (i : Nat) (x : D), xs[i]? = some x → ∀ ρ, I (k + i) ρ → ∃ ρ1, g x ρ = some ρ1 ∧ Sv b ρ1 fun fl ρ2 => match fl with
      | .nx => I (k + i + 1) ρ2
      | .ct => I (k + i + 1) ρ2
      | .bk => QS .nx ρ2
      | .rt v => QS (.rt v) ρ2
      | .ex x => QS (.ex x) ρ2) → (∀ ρ', I (k + xs.length) ρ' → QS .nx ρ') → Sv (forM g b xs) ρ QS
  | [], k, ρ, h, _, q => ⟨.nx, ρ, rfl, q ρ h⟩
  | x :: xs, k, ρ, h, step, q => by
    obtain ⟨ρ1, e1, fl, ρ2, e2, hf⟩ := step 0 x rfl ρ h
    have go : I (k + 1) ρ2 → Sv (forM g b xs) ρ2 QS := fun hI => forM_sv I xs (k + 1) ρ2 hI (fun i y hy ρ h => by
      have := step (i + 1) y (by simpa using hy) ρ (by rw [show k + (i + 1) = k + 1 + i by omega]; exact h)
      rw [show k + (i + 1) + 1 = k + 1 + i + 1 by omega] at this
      exact this) fun ρ' h => q ρ' (by rw [List.length_cons, show k + (xs.length + 1) = k + 1 + xs.length by omega]; exact h)
    have un : forM g b (x :: xs) ρ = (g x ρ).bind fun ρ1 => (b ρ1).bind fun p => match p.1 with
      | .nx => forM g b xs p.2
      | .ct => forM g b xs p.2
      | .bk => some (.nx, p.2)
      | .rt v => some (.rt v, p.2)
      | .ex x => some (.ex x, p.2) := rfl
    unfold Sv at go ⊢
    rw [un, e1]
    simp only [Option.bind_some, e2]
    cases fl with
    | nx => exact go hf
    | ct => exact go hf
    | bk => exact ⟨_, _, rfl, hf⟩
    | rt v => exact ⟨_, _, rfl, hf⟩
    | ex x => exact ⟨_, _, rfl, hf⟩
theorem sv_for {src : M (List D)} {g : D → Rho → Option Rho} {b : S} (I : Nat → Rho → Prop) (h : Ev src ρ fun xs ρ1 => I 0 ρ1 ∧
    (∀ (i : Nat) (x : D), xs[i]? = some x → ∀ ρ, I i ρ → ∃ ρ1, g x ρ = some ρ1 ∧ Sv b ρ1 fun fl ρ2 => match fl with
      | .nx => I (i + 1) ρ2
      | .ct => I (i + 1) ρ2
      | .bk => QS .nx ρ2
      | .rt v => QS (.rt v) ρ2
      | .ex x => QS (.ex x) ρ2) ∧ ∀ ρ', I xs.length ρ' → QS .nx ρ') : Sv (sFor src g b) ρ QS := by
  obtain ⟨xs, ρ1, e, h0, step, q⟩ := h
  obtain ⟨fl, ρ2, e2, h2⟩ := forM_sv (QS := QS) I xs 0 ρ1 h0 (fun i x hx ρ h => by
    rw [Nat.zero_add] at h ⊢
    exact step i x hx ρ h) fun ρ' h => q ρ' (by rw [Nat.zero_add] at h; exact h)
  exact ⟨fl, ρ2, by show (src ρ).bind _ = _; rw [e]; exact e2, h2⟩
end
/-- a list comprehension by an invariant -/
theorem ev_lc {ρ : Rho} {vs : List Nat} {src : M (List D)} {g : D → Rho → Option Rho} {t : M Bool} {e : M Vl} {Q : Vl → Rho → Prop} (I : Nat → List D → Rho → Prop) (h : Ev src ρ fun xs ρ1 => (vs.all fun v => plainSl ρ1[v]?) = true ∧ I 0 [] (wipeR ρ1 vs) ∧
    (∀ (i : Nat) (x : D), xs[i]? = some x → ∀ acc ρ, I i acc ρ → ∃ ρ1, g x ρ = some ρ1 ∧ Ev t ρ1 fun b ρ2 => Brn b (Ev e ρ2 fun r ρ3 => ∃ z ρ4, frz ρ3 (stl r) = some (z, ρ4) ∧ acc.length < lim ∧ I (i + 1) (acc ++ [z]) (wipeR ρ4 vs)) (I (i + 1) acc (wipeR ρ2 vs))) ∧
    ∀ acc ρ', I xs.length acc ρ' → Q (.fr acc) (backR ρ1 ρ' vs)) : Ev (eLc vs src g t e) ρ Q := by
  obtain ⟨xs, ρ1, e1, hp, h0, step, q⟩ := h
  obtain ⟨acc, ρ', e2, h2⟩ := lcM_inv (vs := vs) (g := g) (t := t) (e := e) I xs [] 0 (wipeR ρ1 vs) h0 fun i x hx acc ρ hI => by
    rw [Nat.zero_add] at hI ⊢
    obtain ⟨ρ2, e3, b, ρ3, e4, h1, h2⟩ := step i x hx acc ρ hI
    refine ⟨ρ2, e3, b, ρ3, e4, ?_⟩
    cases b with
    | true =>
      rw [if_pos rfl]
      obtain ⟨r, ρ4, e5, z, ρ5, e6, hl, hI⟩ := h1 rfl
      exact ⟨r, ρ4, z, ρ5, e5, e6, hl, hI⟩
    | false =>
      rw [if_neg (by decide)]
      exact h2 rfl
  rw [Nat.zero_add] at h2
  exact ⟨_, _, eLc_of e1 hp e2, q acc ρ' h2⟩
/-- a while by an invariant that goes down -/
theorem sv_while {t : M Bool} {b : S} {QS : Fl → Rho → Prop} (I : Nat → Rho → Prop) (step : ∀ n ρ, I n ρ → Ev t ρ fun v ρ1 => Brn v (Sv b ρ1 fun fl ρ2 => match fl with
      | .nx => ∃ m, m < n ∧ I m ρ2
      | .ct => ∃ m, m < n ∧ I m ρ2
      | .bk => QS .nx ρ2
      | .rt v => QS (.rt v) ρ2
      | .ex x => QS (.ex x) ρ2) (QS .nx ρ1)) : ∀ n ρ, I n ρ → Sv (sWhile t b) ρ QS := by
  have key : ∀ (k n : Nat), n ≤ k → ∀ ρ, I n ρ → ∃ fl ρ', wh t b (k + 1) ρ = some (fl, ρ') ∧ QS fl ρ' := by
    intro k
    induction k with
    | zero =>
      intro n hn ρ hI
      obtain ⟨v, ρ1, e1, h1, h2⟩ := step n ρ hI
      unfold wh
      rw [e1]
      cases v with
      | false => exact ⟨.nx, ρ1, rfl, h2 rfl⟩
      | true =>
        obtain ⟨fl, ρ2, e2, h⟩ := h1 rfl
        simp only [Option.bind_some, if_true, e2]
        cases fl with
        | nx => obtain ⟨m, hm, _⟩ := h; omega
        | ct => obtain ⟨m, hm, _⟩ := h; omega
        | bk => exact ⟨_, _, rfl, h⟩
        | rt v => exact ⟨_, _, rfl, h⟩
        | ex x => exact ⟨_, _, rfl, h⟩
    | succ k ih =>
      intro n hn ρ hI
      obtain ⟨v, ρ1, e1, h1, h2⟩ := step n ρ hI
      unfold wh
      rw [e1]
      cases v with
      | false => exact ⟨.nx, ρ1, rfl, h2 rfl⟩
      | true =>
        obtain ⟨fl, ρ2, e2, h⟩ := h1 rfl
        simp only [Option.bind_some, if_true, e2]
        cases fl with
        | nx => obtain ⟨m, hm, hI⟩ := h; exact ih m (by omega) ρ2 hI
        | ct => obtain ⟨m, hm, hI⟩ := h; exact ih m (by omega) ρ2 hI
        | bk => exact ⟨_, _, rfl, h⟩
        | rt v => exact ⟨_, _, rfl, h⟩
        | ex x => exact ⟨_, _, rfl, h⟩
  intro n ρ hI
  obtain ⟨fl, ρ', e, q⟩ := key n n (Nat.le_refl n) ρ hI
  exact ⟨fl, ρ', sWhile_of e, q⟩
/-- a statement ahead of others: what it leaves, by itself -/
theorem sv_then {ρ : Rho} {s s' : S} {QS : Fl → Rho → Prop} (R : Rho → Prop) (h : Sv s ρ fun fl ρ1 => match fl with
      | .nx => R ρ1
      | fl => QS fl ρ1) (q : ∀ ρ1, R ρ1 → Sv s' ρ1 QS) : Sv (sSeq s s') ρ QS := by
  obtain ⟨fl, ρ1, e, h⟩ := h
  refine sv_seq ⟨fl, ρ1, e, ?_⟩
  cases fl with
  | nx => exact q ρ1 h
  | bk => exact h
  | ct => exact h
  | rt v => exact h
  | ex x => exact h
/-! ### the draws -/
theorem fv_next {xs : List D} {m : Int} {Q : Vl → List (List D) → Prop} (h : Drw xs) (hm : 0 < m) (q : ∀ r ys, 0 ≤ r → r < m → Drw ys → Q (.fz (.int r)) [ys]) : Fv lawNext [.li xs, .da (.int m)] Q := by
  obtain ⟨r, ys, e, h1, h2, h3⟩ := next_ok h hm
  exact ⟨_, _, e, q r ys h1 h2 h3⟩
theorem fv_draw {ns : List Int} {Q : Vl → List (List D) → Prop} (h : ns.length ≤ 63) (q : ∀ xs, Drw xs → Q (.fr xs) []) : Fv lawDraw [.da (.scr ns)] Q := by
  obtain ⟨xs, e, h⟩ := draw_ok h
  exact ⟨_, _, e, q xs h⟩
theorem fv_signs {Q : Vl → List (List D) → Prop} (q : Q (.fz (.str SGN)) []) : Fv lawSigns [] Q := ⟨_, _, signs_ok, q⟩
/-- an operation that wants a side -/
theorem giv_if {p : Prop} [Decidable p] {z : D} {Q : D → Prop} (h : p) (q : Q z) : Giv (if p then some z else none) Q := ⟨z, if_pos h, q⟩
theorem giv_mod {i j : Int} {Q : D → Prop} (h : 0 < j) (q : Q (.int (i % j))) : Giv (fMod (.int i) (.int j)) Q := ⟨_, by rw [r_mod, if_pos h], q⟩
theorem giv_div {i j : Int} {Q : D → Prop} (h : 0 < j ∧ j < 1073741824) (q : Q (.int (i / j))) : Giv (fDiv (.int i) (.int j)) Q := ⟨_, by rw [r_div, if_pos h], q⟩
theorem giv_mul {i j : Int} {Q : D → Prop} (h : cMul i j = true) (q : Q (.int (i * j))) : Giv (fMul (.int i) (.int j)) Q := ⟨_, by rw [r_mul, if_pos h], q⟩
theorem giv_muls {c : Nat} {n : Int} {Q : D → Prop} (h : -1000000 ≤ n ∧ n ≤ 1000000) (q : Q (.str (List.replicate n.toNat c))) : Giv (fMul (.str [c]) (.int n)) Q := ⟨_, by rw [r_muls, if_pos h], q⟩
theorem giv_adds {i j : List Nat} {Q : D → Prop} (h : i.length + j.length ≤ lim) (q : Q (.str (i ++ j))) : Giv (fAdd (.str i) (.str j)) Q := ⟨_, by rw [r_add2, if_pos h], q⟩
theorem giv_addl {i j : List D} {Q : D → Prop} (h : i.length + j.length ≤ lim) (q : Q (.lst (i ++ j))) : Giv (fAdd (.lst i) (.lst j)) Q := ⟨_, by rw [r_add3, if_pos h], q⟩
theorem giv_ixl {xs : List D} {i : Int} {z : D} {Q : D → Prop} (h : atI xs i = some z) (q : Q z) : Giv (fIx (.lst xs) (.int i)) Q := ⟨_, by rw [r_ixl, h], q⟩
theorem giv_ixt {xs : List D} {i : Int} {z : D} {Q : D → Prop} (h : atI xs i = some z) (q : Q z) : Giv (fIx (.tup xs) (.int i)) Q := ⟨_, by rw [r_ixt, h], q⟩
theorem giv_ixs {xs : List Nat} {i : Int} {c : Nat} {Q : D → Prop} (hl : xs.length ≤ lim) (h : atI xs i = some c) (q : Q (.str [c])) : Giv (fIx (.str xs) (.int i)) Q := ⟨_, by rw [r_ixs, if_pos hl, h]; rfl, q⟩
theorem giv_sls {xs : List Nat} {l u : Option Int} {Q : D → Prop} (hl : xs.length ≤ lim) (q : Q (.str (cutL xs l u))) : Giv (fSl (.str xs) l u) Q := ⟨_, by rw [r_sls, if_pos hl], q⟩
theorem giv_sll {xs : List D} {l u : Option Int} {Q : D → Prop} (q : Q (.lst (cutL xs l u))) : Giv (fSl (.lst xs) l u) Q := ⟨_, rfl, q⟩
theorem giv_lens {xs : List Nat} {Q : D → Prop} (hl : xs.length ≤ lim) (q : Q (.int xs.length)) : Giv (cLen [.str xs]) Q := ⟨_, by rw [r_len1, if_pos hl], q⟩
theorem giv_revs {xs : List Nat} {Q : D → Prop} (hl : xs.length ≤ lim) (q : Q (.str xs.reverse)) : Giv (fRev (.str xs)) Q := ⟨_, by rw [r_rev2, if_pos hl], q⟩
theorem giv_isi {T : String} {x : D} {b : Bool} {Q : D → Prop} (h : fIsi T x = some (.bl b)) (q : Q (.bl b)) : Giv (fIsi T x) Q := ⟨_, h, q⟩

theorem ret_z {x : D} {ρ : Rho} {P : Vl → Prop} (h : P (.fz x)) : Ret (.fz x) ρ P := h
theorem ret_r {x : List D} {ρ : Rho} {P : Vl → Prop} (h : P (.fr x)) : Ret (.fr x) ρ P := h
theorem ret_b {i : Nat} {xs : List D} {ρ : Rho} {P : Vl → Prop} (e : ρ[i]? = some (.ow xs)) (h : P (.fr xs)) : Ret (.bw i) ρ P := ⟨xs, e, h⟩
theorem sv_asgT_l {m : M Vl} {g : D → Rho → Option Rho} {ρ : Rho} {QS : Fl → Rho → Prop} (h : Ev m ρ fun r ρ1 => ∃ ρ2, (match r with
    | .fz x => g x ρ1
    | _ => none) = some ρ2 ∧ QS .nx ρ2) : Sv (sAsgT m g) ρ QS := by
  obtain ⟨r, ρ1, e1, ρ2, e2, q⟩ := h
  refine ⟨.nx, ρ2, ?_, q⟩
  show (m ρ).bind _ = _
  rw [e1]
  cases r with
  | fz x => simp only [Option.bind_some]; rw [show g x ρ1 = some ρ2 from e2]; rfl
  | fr x => cases e2
  | bw i => cases e2
theorem sv_asgT_s {m : M Vl} {g : D → Rho → Option Rho} {s : S} {ρ : Rho} {QS : Fl → Rho → Prop} (h : Ev m ρ fun r ρ1 => ∃ ρ2, (match r with
    | .fz x => g x ρ1
    | _ => none) = some ρ2 ∧ Sv s ρ2 QS) : Sv (sSeq (sAsgT m g) s) ρ QS := sv_seq (sv_asgT_l h)
theorem ex_asgT {g : Rho → Option Rho} {P : Rho → Prop} {ρ ρ2 : Rho} (h : g ρ = some ρ2) (q : P ρ2) : ∃ ρ2, g ρ = some ρ2 ∧ P ρ2 := ⟨_, h, q⟩
theorem nodup1 {α : Type} {a : α} : [a].Nodup := by simp
theorem nbw_z {x : D} {P : Prop} (h : P) : noBw (.fz x) ∧ P := ⟨trivial, h⟩
theorem nbw_r {x : List D} {P : Prop} (h : P) : noBw (.fr x) ∧ P := ⟨trivial, h⟩
structure Wr (R : Prop) : Prop where
  out : R
/-- laying out the slots anew -/
theorem nrm {R P : Prop} (q : R) (h : Wr R → P := by
    intro k
    try dsimp only [puts, put, agI, outsOf, slOf, List.map, List.set_cons_zero, List.set_cons_succ, List.getElem?_cons_zero, List.getElem?_cons_succ, wipeR, backR, Option.getD_some, List.replicate, List.cons_append, List.nil_append, List.append_eq, List.append_nil, Nat.reduceSub, FEnd, Ret, noBw, stl]
    exact k.out) : P := h ⟨q⟩
/-- one step at the head -/
theorem go1 {R P : Prop} (q : R) (h : Wr R → P := by
    intro k
    (first
    | with_reducible refine ev_c ?_
    | ((with_reducible refine' ev_vd ?s0 ?_); (case s0 => (rfl)))
    | ((with_reducible refine' ev_vo ?s0 ?_); (case s0 => (rfl)))
    | ((with_reducible refine' ev_vi ?s0 ?_); (case s0 => (rfl)))
    | with_reducible refine ev_bin ?_
    | with_reducible refine ev_un ?_
    | with_reducible refine ev_anil ?_
    | with_reducible refine ev_acons ?_
    | with_reducible refine ev_blt ?_
    | with_reducible refine ev_met ?_
    | with_reducible refine ev_ono ?_
    | with_reducible refine ev_osome ?_
    | with_reducible refine ev_sl ?_
    | with_reducible refine ev_tup ?_
    | with_reducible refine ev_lst ?_
    | with_reducible refine ev_tE ?_
    | with_reducible refine ev_tyes ?_
    | with_reducible refine ev_tAnd ?_
    | with_reducible refine ev_tOr ?_
    | with_reducible refine ev_tNot ?_
    | with_reducible refine ev_eAnd ?_
    | with_reducible refine ev_eOr ?_
    | with_reducible refine ev_eNot ?_
    | with_reducible refine ev_eIf ?_
    | with_reducible refine ev_chain ?_
    | with_reducible refine ev_call ?_
    | with_reducible refine sv_asg_s ?_
    | with_reducible refine sv_nx_s ?_
    | with_reducible refine sv_if_s ?_
    | with_reducible refine sv_ret_s ?_
    | with_reducible refine sv_seq_s ?_
    | with_reducible refine sv_drop_s ?_
    | ((with_reducible refine' sv_app_s ?s0 ?_); (case s0 => (rfl)))
    | ((with_reducible refine' sv_app_l ?s0 ?_); (case s0 => (rfl)))
    | with_reducible refine sv_asg_l ?_
    | with_reducible refine sv_if_l ?_
    | with_reducible refine sv_ret_l ?_
    | with_reducible refine sv_nx ?_
    | with_reducible refine sv_asgT_s ?_
    | with_reducible refine sv_asgT_l ?_
    | with_reducible refine ret_z ?_
    | with_reducible refine ret_r ?_
    | ((with_reducible refine' ret_b ?s0 ?_); (case s0 => (rfl)))
    | ((with_reducible refine' see2 ?s0 ?s1 ?_); (case s0 => (rfl)); (case s1 => (rfl)))
    | ((with_reducible refine' see1 ?s0 ?_); (case s0 => (rfl)))
    | ((with_reducible refine' sees ?s0 ?_); (case s0 => (rfl)))
    | with_reducible refine isI ?_
    | with_reducible refine isB ?_
    | with_reducible refine isBD ?_
    | with_reducible refine brn_t ?_
    | with_reducible refine brn_f ?_
    | with_reducible refine brn_nT ?_
    | with_reducible refine brn_nF ?_
    | with_reducible refine brn_nn ?_
    | ((with_reducible refine' frzs' ?s0 (And.intro ?s1 ?_)); (case s0 => rfl); (case s1 => (first | decide | simp)); (try dsimp only [puts, put, agI, outsOf, slOf, List.set_cons_zero, List.set_cons_succ, List.getElem?_cons_zero, List.getElem?_cons_succ, wipeR, backR, Option.getD_some, stl]))
    | ((with_reducible refine' arg ?s0 ?s1 ?s2 ?_); (case s0 => (rfl)); (case s1 => (rfl)); (case s2 => (first | exact List.nodup_nil | exact nodup1 | simp [agI])); (try dsimp only [puts, put, agI, outsOf, slOf, List.set_cons_zero, List.set_cons_succ, List.getElem?_cons_zero, List.getElem?_cons_succ, wipeR, backR, Option.getD_some, stl]))
    | ((with_reducible refine' ex_asg ?s0 ?_); (case s0 => (first | rfl | assumption)); (try dsimp only [puts, put, agI, outsOf, slOf, List.set_cons_zero, List.set_cons_succ, List.getElem?_cons_zero, List.getElem?_cons_succ, wipeR, backR, Option.getD_some, stl]))
    | ((with_reducible refine' ex_asg' ?s0 ?_); (case s0 => (first | rfl | assumption)); (try dsimp only [puts, put, agI, outsOf, slOf, List.set_cons_zero, List.set_cons_succ, List.getElem?_cons_zero, List.getElem?_cons_succ, wipeR, backR, Option.getD_some, stl]))
    | ((with_reducible refine' ex_asg'' ?s0 ?_); (case s0 => (rfl)); (try dsimp only [puts, put, agI, outsOf, slOf, List.set_cons_zero, List.set_cons_succ, List.getElem?_cons_zero, List.getElem?_cons_succ, wipeR, backR, Option.getD_some, stl]))
    | ((with_reducible refine' ex_asgT ?s0 ?_); (case s0 => (rfl)); (try dsimp only [puts, put, agI, outsOf, slOf, List.set_cons_zero, List.set_cons_succ, List.getElem?_cons_zero, List.getElem?_cons_succ, wipeR, backR, Option.getD_some, stl]))
    | ((with_reducible refine' nbw_z ?_); (try dsimp only [puts, put, agI, outsOf, slOf, List.set_cons_zero, List.set_cons_succ, List.getElem?_cons_zero, List.getElem?_cons_succ, wipeR, backR, Option.getD_some, stl]))
    | ((with_reducible refine' nbw_r ?_); (try dsimp only [puts, put, agI, outsOf, slOf, List.set_cons_zero, List.set_cons_succ, List.getElem?_cons_zero, List.getElem?_cons_succ, wipeR, backR, Option.getD_some, stl]))
    | ((with_reducible refine' giv_mod ?s0 ?_); (case s0 => (first | assumption | decide | omega | (show _ ≤ 16777216; omega) | (show _ < 16777216; omega) | (simp only [List.length_append, List.length_cons, List.length_nil, List.length_replicate]; show _ ≤ 16777216; omega))))
    | ((with_reducible refine' giv_div ?s0 ?_); (case s0 => (first | assumption | decide | omega | (show _ ≤ 16777216; omega) | (show _ < 16777216; omega) | (simp only [List.length_append, List.length_cons, List.length_nil, List.length_replicate]; show _ ≤ 16777216; omega))))
    | ((with_reducible refine' giv_mul ?s0 ?_); (case s0 => (first | assumption | exact cMul_r (by decide) | exact cMul_r (by omega))))
    | ((with_reducible refine' giv_muls ?s0 ?_); (case s0 => (first | assumption | decide | omega | (show _ ≤ 16777216; omega) | (show _ < 16777216; omega) | (simp only [List.length_append, List.length_cons, List.length_nil, List.length_replicate]; show _ ≤ 16777216; omega))))
    | ((with_reducible refine' giv_adds ?s0 ?_); (case s0 => (first | assumption | decide | omega | (show _ ≤ 16777216; omega) | (show _ < 16777216; omega) | (simp only [List.length_append, List.length_cons, List.length_nil, List.length_replicate]; show _ ≤ 16777216; omega))))
    | ((with_reducible refine' giv_addl ?s0 ?_); (case s0 => (first | assumption | decide | omega | (show _ ≤ 16777216; omega) | (show _ < 16777216; omega) | (simp only [List.length_append, List.length_cons, List.length_nil, List.length_replicate]; show _ ≤ 16777216; omega))))
    | ((with_reducible refine' giv_ixl ?s0 ?_); (case s0 => (first | assumption | rfl)))
    | ((with_reducible refine' giv_ixt ?s0 ?_); (case s0 => (first | assumption | rfl)))
    | ((with_reducible refine' giv_ixs ?s0 ?s1 ?_); (case s0 => (first | assumption | decide | omega | (show _ ≤ 16777216; omega) | (show _ < 16777216; omega) | (simp only [List.length_append, List.length_cons, List.length_nil, List.length_replicate]; show _ ≤ 16777216; omega))); (case s1 => (first | assumption | rfl)))
    | ((with_reducible refine' giv_sls ?s0 ?_); (case s0 => (first | assumption | decide | omega | (show _ ≤ 16777216; omega) | (show _ < 16777216; omega) | (simp only [List.length_append, List.length_cons, List.length_nil, List.length_replicate]; show _ ≤ 16777216; omega))))
    | with_reducible refine giv_sll ?_
    | ((with_reducible refine' giv_lens ?s0 ?_); (case s0 => (first | assumption | decide | omega | (show _ ≤ 16777216; omega) | (show _ < 16777216; omega) | (simp only [List.length_append, List.length_cons, List.length_nil, List.length_replicate]; show _ ≤ 16777216; omega))))
    | ((with_reducible refine' giv_revs ?s0 ?_); (case s0 => (first | assumption | decide | omega | (show _ ≤ 16777216; omega) | (show _ < 16777216; omega) | (simp only [List.length_append, List.length_cons, List.length_nil, List.length_replicate]; show _ ≤ 16777216; omega))))
    | with_reducible refine giv r_add1 ?_
    | with_reducible refine giv r_sub ?_
    | with_reducible refine giv r_lt ?_
    | with_reducible refine giv r_lts ?_
    | with_reducible refine giv r_le ?_
    | with_reducible refine giv r_gt ?_
    | with_reducible refine giv r_ge ?_
    | with_reducible refine giv r_eqi ?_
    | with_reducible refine giv r_eqs ?_
    | with_reducible refine giv r_eqb ?_
    | with_reducible refine giv r_nei ?_
    | with_reducible refine giv r_nes ?_
    | with_reducible refine giv r_neb ?_
    | with_reducible refine giv r_isb ?_
    | with_reducible refine giv r_ntb ?_
    | with_reducible refine giv r_ins ?_
    | with_reducible refine giv r_nis ?_
    | with_reducible refine giv r_neg ?_
    | with_reducible refine giv r_len2 ?_
    | with_reducible refine giv r_len3 ?_
    | with_reducible refine giv r_int1 ?_
    | with_reducible refine giv r_fFind ?_
    | with_reducible refine giv r_rev1 ?_
    | with_reducible refine giv r_fIsi1 ?_
    | with_reducible refine giv r_fIsi2 ?_
    | with_reducible refine giv r_fIsi3 ?_
    | with_reducible refine giv r_fIsi4 ?_
    | with_reducible refine giv r_fIsi5 ?_
    | with_reducible refine giv r_fIsi6 ?_)
    exact k.out) : P := h ⟨q⟩
/-- steps at the head as far as they go -/
theorem go {R P : Prop} (q : R) (h : Wr R → P := by
    intro k
    repeat (first
    | with_reducible refine ev_c ?_
    | ((with_reducible refine' ev_vd ?s0 ?_); (case s0 => (rfl)))
    | ((with_reducible refine' ev_vo ?s0 ?_); (case s0 => (rfl)))
    | ((with_reducible refine' ev_vi ?s0 ?_); (case s0 => (rfl)))
    | with_reducible refine ev_bin ?_
    | with_reducible refine ev_un ?_
    | with_reducible refine ev_anil ?_
    | with_reducible refine ev_acons ?_
    | with_reducible refine ev_blt ?_
    | with_reducible refine ev_met ?_
    | with_reducible refine ev_ono ?_
    | with_reducible refine ev_osome ?_
    | with_reducible refine ev_sl ?_
    | with_reducible refine ev_tup ?_
    | with_reducible refine ev_lst ?_
    | with_reducible refine ev_tE ?_
    | with_reducible refine ev_tyes ?_
    | with_reducible refine ev_tAnd ?_
    | with_reducible refine ev_tOr ?_
    | with_reducible refine ev_tNot ?_
    | with_reducible refine ev_eAnd ?_
    | with_reducible refine ev_eOr ?_
    | with_reducible refine ev_eNot ?_
    | with_reducible refine ev_eIf ?_
    | with_reducible refine ev_chain ?_
    | with_reducible refine ev_call ?_
    | with_reducible refine sv_asg_s ?_
    | with_reducible refine sv_nx_s ?_
    | with_reducible refine sv_if_s ?_
    | with_reducible refine sv_ret_s ?_
    | with_reducible refine sv_seq_s ?_
    | with_reducible refine sv_drop_s ?_
    | ((with_reducible refine' sv_app_s ?s0 ?_); (case s0 => (rfl)))
    | ((with_reducible refine' sv_app_l ?s0 ?_); (case s0 => (rfl)))
    | with_reducible refine sv_asg_l ?_
    | with_reducible refine sv_if_l ?_
    | with_reducible refine sv_ret_l ?_
    | with_reducible refine sv_nx ?_
    | with_reducible refine sv_asgT_s ?_
    | with_reducible refine sv_asgT_l ?_
    | with_reducible refine ret_z ?_
    | with_reducible refine ret_r ?_
    | ((with_reducible refine' ret_b ?s0 ?_); (case s0 => (rfl)))
    | ((with_reducible refine' see2 ?s0 ?s1 ?_); (case s0 => (rfl)); (case s1 => (rfl)))
    | ((with_reducible refine' see1 ?s0 ?_); (case s0 => (rfl)))
    | ((with_reducible refine' sees ?s0 ?_); (case s0 => (rfl)))
    | with_reducible refine isI ?_
    | with_reducible refine isB ?_
    | with_reducible refine isBD ?_
    | with_reducible refine brn_t ?_
    | with_reducible refine brn_f ?_
    | with_reducible refine brn_nT ?_
    | with_reducible refine brn_nF ?_
    | with_reducible refine brn_nn ?_
    | ((with_reducible refine' frzs' ?s0 (And.intro ?s1 ?_)); (case s0 => rfl); (case s1 => (first | decide | simp)); (try dsimp only [puts, put, agI, outsOf, slOf, List.set_cons_zero, List.set_cons_succ, List.getElem?_cons_zero, List.getElem?_cons_succ, wipeR, backR, Option.getD_some, stl]))
    | ((with_reducible refine' arg ?s0 ?s1 ?s2 ?_); (case s0 => (rfl)); (case s1 => (rfl)); (case s2 => (first | exact List.nodup_nil | exact nodup1 | simp [agI])); (try dsimp only [puts, put, agI, outsOf, slOf, List.set_cons_zero, List.set_cons_succ, List.getElem?_cons_zero, List.getElem?_cons_succ, wipeR, backR, Option.getD_some, stl]))
    | ((with_reducible refine' ex_asg ?s0 ?_); (case s0 => (first | rfl | assumption)); (try dsimp only [puts, put, agI, outsOf, slOf, List.set_cons_zero, List.set_cons_succ, List.getElem?_cons_zero, List.getElem?_cons_succ, wipeR, backR, Option.getD_some, stl]))
    | ((with_reducible refine' ex_asg' ?s0 ?_); (case s0 => (first | rfl | assumption)); (try dsimp only [puts, put, agI, outsOf, slOf, List.set_cons_zero, List.set_cons_succ, List.getElem?_cons_zero, List.getElem?_cons_succ, wipeR, backR, Option.getD_some, stl]))
    | ((with_reducible refine' ex_asg'' ?s0 ?_); (case s0 => (rfl)); (try dsimp only [puts, put, agI, outsOf, slOf, List.set_cons_zero, List.set_cons_succ, List.getElem?_cons_zero, List.getElem?_cons_succ, wipeR, backR, Option.getD_some, stl]))
    | ((with_reducible refine' ex_asgT ?s0 ?_); (case s0 => (rfl)); (try dsimp only [puts, put, agI, outsOf, slOf, List.set_cons_zero, List.set_cons_succ, List.getElem?_cons_zero, List.getElem?_cons_succ, wipeR, backR, Option.getD_some, stl]))
    | ((with_reducible refine' nbw_z ?_); (try dsimp only [puts, put, agI, outsOf, slOf, List.set_cons_zero, List.set_cons_succ, List.getElem?_cons_zero, List.getElem?_cons_succ, wipeR, backR, Option.getD_some, stl]))
    | ((with_reducible refine' nbw_r ?_); (try dsimp only [puts, put, agI, outsOf, slOf, List.set_cons_zero, List.set_cons_succ, List.getElem?_cons_zero, List.getElem?_cons_succ, wipeR, backR, Option.getD_some, stl]))
    | ((with_reducible refine' giv_mod ?s0 ?_); (case s0 => (first | assumption | decide | omega | (show _ ≤ 16777216; omega) | (show _ < 16777216; omega) | (simp only [List.length_append, List.length_cons, List.length_nil, List.length_replicate]; show _ ≤ 16777216; omega))))
    | ((with_reducible refine' giv_div ?s0 ?_); (case s0 => (first | assumption | decide | omega | (show _ ≤ 16777216; omega) | (show _ < 16777216; omega) | (simp only [List.length_append, List.length_cons, List.length_nil, List.length_replicate]; show _ ≤ 16777216; omega))))
    | ((with_reducible refine' giv_mul ?s0 ?_); (case s0 => (first | assumption | exact cMul_r (by decide) | exact cMul_r (by omega))))
    | ((with_reducible refine' giv_muls ?s0 ?_); (case s0 => (first | assumption | decide | omega | (show _ ≤ 16777216; omega) | (show _ < 16777216; omega) | (simp only [List.length_append, List.length_cons, List.length_nil, List.length_replicate]; show _ ≤ 16777216; omega))))
    | ((with_reducible refine' giv_adds ?s0 ?_); (case s0 => (first | assumption | decide | omega | (show _ ≤ 16777216; omega) | (show _ < 16777216; omega) | (simp only [List.length_append, List.length_cons, List.length_nil, List.length_replicate]; show _ ≤ 16777216; omega))))
    | ((with_reducible refine' giv_addl ?s0 ?_); (case s0 => (first | assumption | decide | omega | (show _ ≤ 16777216; omega) | (show _ < 16777216; omega) | (simp only [List.length_append, List.length_cons, List.length_nil, List.length_replicate]; show _ ≤ 16777216; omega))))
    | ((with_reducible refine' giv_ixl ?s0 ?_); (case s0 => (first | assumption | rfl)))
    | ((with_reducible refine' giv_ixt ?s0 ?_); (case s0 => (first | assumption | rfl)))
    | ((with_reducible refine' giv_ixs ?s0 ?s1 ?_); (case s0 => (first | assumption | decide | omega | (show _ ≤ 16777216; omega) | (show _ < 16777216; omega) | (simp only [List.length_append, List.length_cons, List.length_nil, List.length_replicate]; show _ ≤ 16777216; omega))); (case s1 => (first | assumption | rfl)))
    | ((with_reducible refine' giv_sls ?s0 ?_); (case s0 => (first | assumption | decide | omega | (show _ ≤ 16777216; omega) | (show _ < 16777216; omega) | (simp only [List.length_append, List.length_cons, List.length_nil, List.length_replicate]; show _ ≤ 16777216; omega))))
    | with_reducible refine giv_sll ?_
    | ((with_reducible refine' giv_lens ?s0 ?_); (case s0 => (first | assumption | decide | omega | (show _ ≤ 16777216; omega) | (show _ < 16777216; omega) | (simp only [List.length_append, List.length_cons, List.length_nil, List.length_replicate]; show _ ≤ 16777216; omega))))
    | ((with_reducible refine' giv_revs ?s0 ?_); (case s0 => (first | assumption | decide | omega | (show _ ≤ 16777216; omega) | (show _ < 16777216; omega) | (simp only [List.length_append, List.length_cons, List.length_nil, List.length_replicate]; show _ ≤ 16777216; omega))))
    | with_reducible refine giv r_add1 ?_
    | with_reducible refine giv r_sub ?_
    | with_reducible refine giv r_lt ?_
    | with_reducible refine giv r_lts ?_
    | with_reducible refine giv r_le ?_
    | with_reducible refine giv r_gt ?_
    | with_reducible refine giv r_ge ?_
    | with_reducible refine giv r_eqi ?_
    | with_reducible refine giv r_eqs ?_
    | with_reducible refine giv r_eqb ?_
    | with_reducible refine giv r_nei ?_
    | with_reducible refine giv r_nes ?_
    | with_reducible refine giv r_neb ?_
    | with_reducible refine giv r_isb ?_
    | with_reducible refine giv r_ntb ?_
    | with_reducible refine giv r_ins ?_
    | with_reducible refine giv r_nis ?_
    | with_reducible refine giv r_neg ?_
    | with_reducible refine giv r_len2 ?_
    | with_reducible refine giv r_len3 ?_
    | with_reducible refine giv r_int1 ?_
    | with_reducible refine giv r_fFind ?_
    | with_reducible refine giv r_rev1 ?_
    | with_reducible refine giv r_fIsi1 ?_
    | with_reducible refine giv r_fIsi2 ?_
    | with_reducible refine giv r_fIsi3 ?_
    | with_reducible refine giv r_fIsi4 ?_
    | with_reducible refine giv r_fIsi5 ?_
    | with_reducible refine giv r_fIsi6 ?_)
    exact k.out) : P := h ⟨q⟩
/-- the same, but not into an if with statements behind it -/
theorem goS {R P : Prop} (q : R) (h : Wr R → P := by
    intro k
    repeat (first
    | with_reducible refine ev_c ?_
    | ((with_reducible refine' ev_vd ?s0 ?_); (case s0 => (rfl)))
    | ((with_reducible refine' ev_vo ?s0 ?_); (case s0 => (rfl)))
    | ((with_reducible refine' ev_vi ?s0 ?_); (case s0 => (rfl)))
    | with_reducible refine ev_bin ?_
    | with_reducible refine ev_un ?_
    | with_reducible refine ev_anil ?_
    | with_reducible refine ev_acons ?_
    | with_reducible refine ev_blt ?_
    | with_reducible refine ev_met ?_
    | with_reducible refine ev_ono ?_
    | with_reducible refine ev_osome ?_
    | with_reducible refine ev_sl ?_
    | with_reducible refine ev_tup ?_
    | with_reducible refine ev_lst ?_
    | with_reducible refine ev_tE ?_
    | with_reducible refine ev_tyes ?_
    | with_reducible refine ev_tAnd ?_
    | with_reducible refine ev_tOr ?_
    | with_reducible refine ev_tNot ?_
    | with_reducible refine ev_eAnd ?_
    | with_reducible refine ev_eOr ?_
    | with_reducible refine ev_eNot ?_
    | with_reducible refine ev_eIf ?_
    | with_reducible refine ev_chain ?_
    | with_reducible refine ev_call ?_
    | with_reducible refine sv_asg_s ?_
    | with_reducible refine sv_nx_s ?_
    | with_reducible refine sv_ret_s ?_
    | with_reducible refine sv_seq_s ?_
    | with_reducible refine sv_drop_s ?_
    | ((with_reducible refine' sv_app_s ?s0 ?_); (case s0 => (rfl)))
    | ((with_reducible refine' sv_app_l ?s0 ?_); (case s0 => (rfl)))
    | with_reducible refine sv_asg_l ?_
    | with_reducible refine sv_if_l ?_
    | with_reducible refine sv_ret_l ?_
    | with_reducible refine sv_nx ?_
    | with_reducible refine sv_asgT_s ?_
    | with_reducible refine sv_asgT_l ?_
    | with_reducible refine ret_z ?_
    | with_reducible refine ret_r ?_
    | ((with_reducible refine' ret_b ?s0 ?_); (case s0 => (rfl)))
    | ((with_reducible refine' see2 ?s0 ?s1 ?_); (case s0 => (rfl)); (case s1 => (rfl)))
    | ((with_reducible refine' see1 ?s0 ?_); (case s0 => (rfl)))
    | ((with_reducible refine' sees ?s0 ?_); (case s0 => (rfl)))
    | with_reducible refine isI ?_
    | with_reducible refine isB ?_
    | with_reducible refine isBD ?_
    | with_reducible refine brn_t ?_
    | with_reducible refine brn_f ?_
    | with_reducible refine brn_nT ?_
    | with_reducible refine brn_nF ?_
    | with_reducible refine brn_nn ?_
    | ((with_reducible refine' frzs' ?s0 (And.intro ?s1 ?_)); (case s0 => rfl); (case s1 => (first | decide | simp)); (try dsimp only [puts, put, agI, outsOf, slOf, List.set_cons_zero, List.set_cons_succ, List.getElem?_cons_zero, List.getElem?_cons_succ, wipeR, backR, Option.getD_some, stl]))
    | ((with_reducible refine' arg ?s0 ?s1 ?s2 ?_); (case s0 => (rfl)); (case s1 => (rfl)); (case s2 => (first | exact List.nodup_nil | exact nodup1 | simp [agI])); (try dsimp only [puts, put, agI, outsOf, slOf, List.set_cons_zero, List.set_cons_succ, List.getElem?_cons_zero, List.getElem?_cons_succ, wipeR, backR, Option.getD_some, stl]))
    | ((with_reducible refine' ex_asg ?s0 ?_); (case s0 => (first | rfl | assumption)); (try dsimp only [puts, put, agI, outsOf, slOf, List.set_cons_zero, List.set_cons_succ, List.getElem?_cons_zero, List.getElem?_cons_succ, wipeR, backR, Option.getD_some, stl]))
    | ((with_reducible refine' ex_asg' ?s0 ?_); (case s0 => (first | rfl | assumption)); (try dsimp only [puts, put, agI, outsOf, slOf, List.set_cons_zero, List.set_cons_succ, List.getElem?_cons_zero, List.getElem?_cons_succ, wipeR, backR, Option.getD_some, stl]))
    | ((with_reducible refine' ex_asg'' ?s0 ?_); (case s0 => (rfl)); (try dsimp only [puts, put, agI, outsOf, slOf, List.set_cons_zero, List.set_cons_succ, List.getElem?_cons_zero, List.getElem?_cons_succ, wipeR, backR, Option.getD_some, stl]))
    | ((with_reducible refine' ex_asgT ?s0 ?_); (case s0 => (rfl)); (try dsimp only [puts, put, agI, outsOf, slOf, List.set_cons_zero, List.set_cons_succ, List.getElem?_cons_zero, List.getElem?_cons_succ, wipeR, backR, Option.getD_some, stl]))
    | ((with_reducible refine' nbw_z ?_); (try dsimp only [puts, put, agI, outsOf, slOf, List.set_cons_zero, List.set_cons_succ, List.getElem?_cons_zero, List.getElem?_cons_succ, wipeR, backR, Option.getD_some, stl]))
    | ((with_reducible refine' nbw_r ?_); (try dsimp only [puts, put, agI, outsOf, slOf, List.set_cons_zero, List.set_cons_succ, List.getElem?_cons_zero, List.getElem?_cons_succ, wipeR, backR, Option.getD_some, stl]))
    | ((with_reducible refine' giv_mod ?s0 ?_); (case s0 => (first | assumption | decide | omega | (show _ ≤ 16777216; omega) | (show _ < 16777216; omega) | (simp only [List.length_append, List.length_cons, List.length_nil, List.length_replicate]; show _ ≤ 16777216; omega))))
    | ((with_reducible refine' giv_div ?s0 ?_); (case s0 => (first | assumption | decide | omega | (show _ ≤ 16777216; omega) | (show _ < 16777216; omega) | (simp only [List.length_append, List.length_cons, List.length_nil, List.length_replicate]; show _ ≤ 16777216; omega))))
    | ((with_reducible refine' giv_mul ?s0 ?_); (case s0 => (first | assumption | exact cMul_r (by decide) | exact cMul_r (by omega))))
    | ((with_reducible refine' giv_muls ?s0 ?_); (case s0 => (first | assumption | decide | omega | (show _ ≤ 16777216; omega) | (show _ < 16777216; omega) | (simp only [List.length_append, List.length_cons, List.length_nil, List.length_replicate]; show _ ≤ 16777216; omega))))
    | ((with_reducible refine' giv_adds ?s0 ?_); (case s0 => (first | assumption | decide | omega | (show _ ≤ 16777216; omega) | (show _ < 16777216; omega) | (simp only [List.length_append, List.length_cons, List.length_nil, List.length_replicate]; show _ ≤ 16777216; omega))))
    | ((with_reducible refine' giv_addl ?s0 ?_); (case s0 => (first | assumption | decide | omega | (show _ ≤ 16777216; omega) | (show _ < 16777216; omega) | (simp only [List.length_append, List.length_cons, List.length_nil, List.length_replicate]; show _ ≤ 16777216; omega))))
    | ((with_reducible refine' giv_ixl ?s0 ?_); (case s0 => (first | assumption | rfl)))
    | ((with_reducible refine' giv_ixt ?s0 ?_); (case s0 => (first | assumption | rfl)))
    | ((with_reducible refine' giv_ixs ?s0 ?s1 ?_); (case s0 => (first | assumption | decide | omega | (show _ ≤ 16777216; omega) | (show _ < 16777216; omega) | (simp only [List.length_append, List.length_cons, List.length_nil, List.length_replicate]; show _ ≤ 16777216; omega))); (case s1 => (first | assumption | rfl)))
    | ((with_reducible refine' giv_sls ?s0 ?_); (case s0 => (first | assumption | decide | omega | (show _ ≤ 16777216; omega) | (show _ < 16777216; omega) | (simp only [List.length_append, List.length_cons, List.length_nil, List.length_replicate]; show _ ≤ 16777216; omega))))
    | with_reducible refine giv_sll ?_
    | ((with_reducible refine' giv_lens ?s0 ?_); (case s0 => (first | assumption | decide | omega | (show _ ≤ 16777216; omega) | (show _ < 16777216; omega) | (simp only [List.length_append, List.length_cons, List.length_nil, List.length_replicate]; show _ ≤ 16777216; omega))))
    | ((with_reducible refine' giv_revs ?s0 ?_); (case s0 => (first | assumption | decide | omega | (show _ ≤ 16777216; omega) | (show _ < 16777216; omega) | (simp only [List.length_append, List.length_cons, List.length_nil, List.length_replicate]; show _ ≤ 16777216; omega))))
    | with_reducible refine giv r_add1 ?_
    | with_reducible refine giv r_sub ?_
    | with_reducible refine giv r_lt ?_
    | with_reducible refine giv r_lts ?_
    | with_reducible refine giv r_le ?_
    | with_reducible refine giv r_gt ?_
    | with_reducible refine giv r_ge ?_
    | with_reducible refine giv r_eqi ?_
    | with_reducible refine giv r_eqs ?_
    | with_reducible refine giv r_eqb ?_
    | with_reducible refine giv r_nei ?_
    | with_reducible refine giv r_nes ?_
    | with_reducible refine giv r_neb ?_
    | with_reducible refine giv r_isb ?_
    | with_reducible refine giv r_ntb ?_
    | with_reducible refine giv r_ins ?_
    | with_reducible refine giv r_nis ?_
    | with_reducible refine giv r_neg ?_
    | with_reducible refine giv r_len2 ?_
    | with_reducible refine giv r_len3 ?_
    | with_reducible refine giv r_int1 ?_
    | with_reducible refine giv r_fFind ?_
    | with_reducible refine giv r_rev1 ?_
    | with_reducible refine giv r_fIsi1 ?_
    | with_reducible refine giv r_fIsi2 ?_
    | with_reducible refine giv r_fIsi3 ?_
    | with_reducible refine giv r_fIsi4 ?_
    | with_reducible refine giv r_fIsi5 ?_
    | with_reducible refine giv r_fIsi6 ?_)
    exact k.out) : P := h ⟨q⟩
end Sw
/-! Sw13: str of an int, min and max of two, tuple and list of a sequence. -/
namespace Sw
open PySem PySem.Spec PyProof.Rows L2

section
variable {X : Cx} {a b c e : Expr} {ma mb mc me : M Vl} {pos p : Pos} {es : List Expr} {ms : M (List Vl)} {K : PySem.W.Frag}
/-- the decimals of an int -/
def decS (i : Int) : List Nat := (Str.ofString (toString i)).cps.toList
def cStr : List D → Option D
  | [.int i] => if -1000000000 < i ∧ i < 1000000000 then some (.str (decS i)) else none
  | _ => none
theorem cs_str : CallS K (fun xs H Q => ∃ i, xs = [.int i] ∧ i.natAbs.log2 < 1920 ∧ Q (.str (toString i)) H) cStr := by
  intro H F vs xs z s hx e Q q
  unfold cStr at e
  split at e
  · split at e
    · rename_i i hc
      cases e
      obtain ⟨v, rfl, hv⟩ := vws1 hx
      rw [vw_int hv]
      refine ⟨_, rfl, ?_, q _ H F (Alc.refl s) (rep_str _)⟩
      by_cases z : i.natAbs = 0
      · rw [z]; decide
      · exact (Nat.log2_lt z).mpr (Nat.lt_of_lt_of_le (show i.natAbs < 2 ^ 30 by omega) (Nat.pow_le_pow_right (by decide) (by decide)))
    · cases e
  · cases e
theorem se_tostr (hm : X.mg "str" = none) (hg : Gl X "str") (ha : SA X [e] ms) (he : starEach [e] X.env = (false, eval e X.env) :: starEach [] X.env := by rfl) (hpl : (backTo pos (starEach [] X.env)).any (·.1) = false := by rfl) : SE X (.Call (.Name "str" p) [e] [] pos) (eBlt cStr ms) :=
  se_ty call_str_int cs_str hg hm (by decide +kernel) ha (by decide) (by decide) he hpl
def cMin : List D → Option D
  | [.int i, .int j] => some (.int (if j < i then j else i))
  | _ => none
def cMax : List D → Option D
  | [.int i, .int j] => some (.int (if j > i then j else i))
  | _ => none
theorem cs_min : CallS K (fun xs H Q => ∃ i j, xs = [.int i, .int j] ∧ Q (.int (if j < i then j else i)) H) cMin := by
  intro H F vs xs z s hx e Q q
  unfold cMin at e
  split at e
  · cases e
    obtain ⟨v, u, rfl, hv, hu⟩ := vws2 hx
    rw [vw_int hv, vw_int hu]
    exact ⟨_, _, rfl, q _ H F (Alc.refl s) (.int _)⟩
  · cases e
theorem cs_max : CallS K (fun xs H Q => ∃ i j, xs = [.int i, .int j] ∧ Q (.int (if j > i then j else i)) H) cMax := by
  intro H F vs xs z s hx e Q q
  unfold cMax at e
  split at e
  · cases e
    obtain ⟨v, u, rfl, hv, hu⟩ := vws2 hx
    rw [vw_int hv, vw_int hu]
    exact ⟨_, _, rfl, q _ H F (Alc.refl s) (.int _)⟩
  · cases e
theorem se_min2 (hm : X.mg "min" = none) (hg : Gl X "min") (hc : X.calm = true) (ha : SA X [a, b] ms) (he : starEach [a, b] X.env = (false, eval a X.env) :: starEach [b] X.env := by rfl) (hpl : (backTo pos (starEach [b] X.env)).any (·.1) = false := by rfl) : SE X (.Call (.Name "min" p) [a, b] [] pos) (eBlt cMin ms) :=
  se_blt (call_min2 hc) cs_min hg hm (by decide +kernel) ha (by decide) (by decide) he hpl
theorem se_max2 (hm : X.mg "max" = none) (hg : Gl X "max") (hc : X.calm = true) (ha : SA X [a, b] ms) (he : starEach [a, b] X.env = (false, eval a X.env) :: starEach [b] X.env := by rfl) (hpl : (backTo pos (starEach [b] X.env)).any (·.1) = false := by rfl) : SE X (.Call (.Name "max" p) [a, b] [] pos) (eBlt cMax ms) :=
  se_blt (call_max2 hc) cs_max hg hm (by decide +kernel) ha (by decide) (by decide) he hpl
/-! ### tuple(xs) -/
def cTup : List D → Option D
  | [.lst xs] => some (.tup xs)
  | [.tup xs] => some (.tup xs)
  | _ => none
theorem cs_tup : CallS K (fun xs H Q => ∃ p ys, xs = [.ref p] ∧ ((SqL K H p ys ∧ ∀ l, H l = none → Q (.ref l) (upd H l (.tup ys))) ∨ (SqT K H p ys ∧ Q (.ref p) H))) cTup := by
  intro H F vs xs z s hx e Q q
  unfold cTup at e
  split at e
  · cases e
    obtain ⟨v, rfl, a, us, rfl, h1, h2⟩ := vws1 hx
    refine ⟨a, us, rfl, .inl ⟨SqL.of h1, fun l hl => ?_⟩⟩
    have A := Alc.new (o := HO.tup us) s hl
    exact q _ _ _ A (.tup (SqT.of upd_same) (h2.mono A.ff))
  · cases e
    obtain ⟨v, rfl, hv⟩ := vws1 hx
    cases (show Rep K F v (.tup _) from hv) with
    | @tup a us _ h1 h2 => exact ⟨a, us, rfl, .inr ⟨same_t s h1, q _ H F (Alc.refl s) (.tup h1 h2)⟩⟩
  · cases e
theorem se_totup (hm : X.mg "tuple" = none) (hg : Gl X "tuple") (ha : SA X [e] ms) (he : starEach [e] X.env = (false, eval e X.env) :: starEach [] X.env := by rfl) (hpl : (backTo pos (starEach [] X.env)).any (·.1) = false := by rfl) : SE X (.Call (.Name "tuple" p) [e] [] pos) (eBlt cTup ms) :=
  se_ty call_tuple_of cs_tup hg hm (by decide +kernel) ha (by decide) (by decide) he hpl
/-! ### list(xs) -/
def itemsQ : D → Option (List D)
  | .lst xs => some xs
  | .tup xs => some xs
  | _ => none
def eNew (m : M Vl) : M Vl := fun ρ => (m ρ).bind fun p => (look p.2 (stl p.1)).bind fun x => (itemsQ x).bind fun xs => some (.fr xs, p.2)
theorem se_tolist (hm : X.mg "list" = none) (hg : Gl X "list") (ha : SE X e me) (he : starEach [e] X.env = (false, eval e X.env) :: starEach [] X.env := by rfl) (hpl : (backTo pos (starEach [] X.env)).any (·.1) = false := by rfl) : SE X (.Call (.Name "list" p) [e] [] pos) (eNew me) := by
  refine pe_weak (pe_callTy call_list_of hg hm (by decide +kernel) (pa_cons ha pa_nil he) (by decide) (by decide) he hpl) fun σ H Q ⟨G, ρ, F, r0, ρ', W, hm, q⟩ => ?_
  unfold eNew at hm
  obtain ⟨⟨x, ρ1⟩, e1, hm⟩ := Option.bind_eq_some_iff.mp hm
  obtain ⟨dx, e3, hm⟩ := Option.bind_eq_some_iff.mp hm
  obtain ⟨xs, e5, hm⟩ := Option.bind_eq_some_iff.mp hm
  cases hm
  refine tm_use W e1 fun v H1 F1 s1 R1 => ?_
  have hv := vw_of s1.wd R1 e3
  have fin : ∀ (us : List V), Reps X.K F1 us xs → ∀ l, H1 l = none → Q (.ref l) (upd H1 l (.lst us)) := fun us r l hl => by
    have A : Alc F1 H1 F1 (upd H1 l (.lst us)) := ⟨Same.refl _, s1.wd.sub.trans (same_upd hl), same_upd hl, fun _ h => .inl h⟩
    refine q _ _ _ (s1.trans (s1.wd.alc A)) ⟨l, us, rfl, upd_same, r, s1.wd.sub.free hl, s1.back l hl, fun i o => ?_⟩
    obtain ⟨_, z, _⟩ := s1.wd.ow_there o
    rw [hl] at z; cases z
  unfold itemsQ at e5
  split at e5
  · cases e5
    obtain ⟨a, us, rfl, h1, h2⟩ := hv
    exact ⟨a, us, rfl, .inl (SqL.of h1), fin us h2⟩
  · cases e5
    cases (show Rep X.K F1 v (.tup _) from hv) with
    | @tup a us _ h1 h2 => exact ⟨a, us, rfl, .inr (same_t s1.wd.sub h1), fin us h2⟩
  · cases e5
end
end Sw
/-! Sw14: small facts that the laws' mathematics share. -/
namespace Sw
open L2

abbrev AscL (cs : List Nat) : Prop := cs.Pairwise (· < ·)
theorem sgn_asc : AscL SGN := by decide
theorem ascl_nodup {cs : List Nat} (h : AscL cs) : cs.Nodup := List.Pairwise.imp (fun h => Nat.ne_of_lt h) h
theorem map_get {t : List Nat} {i : Nat} {x : D} (h : (t.map fun c => D.str [c])[i]? = some x) : ∃ c, t[i]? = some c ∧ x = .str [c] := by
  rw [List.getElem?_map] at h
  cases e : t[i]? with
  | none => rw [e] at h; cases h
  | some c => rw [e] at h; cases h; exact ⟨c, rfl, rfl⟩
theorem mapS_get {t : List (List Nat)} {i : Nat} {x : D} (h : (t.map D.str)[i]? = some x) : ∃ c, t[i]? = some c ∧ x = .str c := by
  rw [List.getElem?_map] at h
  cases e : t[i]? with
  | none => rw [e] at h; cases h
  | some c => rw [e] at h; cases h; exact ⟨c, rfl, rfl⟩
theorem take_s {α : Type} {t : List α} {i : Nat} {c : α} (h : t[i]? = some c) : t.take (i + 1) = t.take i ++ [c] := by rw [List.take_add_one, h]; rfl
theorem findC_in {s : List Nat} {c : Nat} (h : c ∈ s) : findC s c = (s.idxOf c : Int) := if_pos h
theorem findC_at {i : Nat} (h : i < SGN.length) : findC SGN (SGN[i]'h) = (i : Int) := by rw [findC_in (List.getElem_mem _), (ascl_nodup sgn_asc).idxOf_getElem i h]
def lastC (cs : List Nat) : Nat := cs.getD (cs.length - 1) 0
theorem lastC_app {cs : List Nat} {c : Nat} : lastC (cs ++ [c]) = c := by
  unfold lastC
  rw [List.length_append, List.getD_eq_getElem?_getD]
  simp
theorem atI_lastD {xs : List D} {x : D} : atI (xs ++ [x]) (-1) = some x := by
  unfold atI ixN
  rw [if_neg (by decide), if_pos (by rw [List.length_append, List.length_singleton]; omega)]
  show (xs ++ [x])[_]? = _
  rw [show (-1 + ((xs ++ [x]).length : Int)).toNat = xs.length by rw [List.length_append, List.length_singleton]; omega]
  simp
theorem atI_last {cs : List Nat} (hn : cs ≠ []) : atI cs (-1) = some (lastC cs) := by
  have hp : 0 < cs.length := List.length_pos_iff.mpr hn
  unfold atI ixN
  rw [if_neg (by decide), if_pos (by omega)]
  show cs[((cs.length : Int) + -1).toNat]? = _
  rw [show ((cs.length : Int) + -1).toNat = cs.length - 1 by omega, List.getElem?_eq_getElem (by omega), lastC, List.getD_eq_getElem?_getD, List.getElem?_eq_getElem (by omega)]
  rfl
theorem lastC_in {cs : List Nat} (hn : cs ≠ []) : lastC cs ∈ cs := by
  have hp : 0 < cs.length := List.length_pos_iff.mpr hn
  rw [lastC, List.getD_eq_getElem?_getD, List.getElem?_eq_getElem (by omega)]
  exact List.getElem_mem _
theorem atI_first {cs : List Nat} (hn : cs ≠ []) : atI cs 0 = some (cs.getD 0 0) := by
  have hp : 0 < cs.length := List.length_pos_iff.mpr hn
  rw [atI_int (by decide) (by omega), List.getD_eq_getElem?_getD, List.getElem?_eq_getElem hp]
  rfl
theorem cut_sub {α : Type} {t : List α} {l u : Option Int} : (cutL t l u).Sublist t := (List.take_sublist _ _).trans (List.drop_sublist _ _)
theorem cut_len {α : Type} {t : List α} {l u : Option Int} : (cutL t l u).length ≤ t.length := cut_sub.length_le
theorem sub_take {i c : Nat} {ts : List Nat} (h : ts.Sublist (SGN.take i)) (hi : SGN[i]? = some c) : (ts ++ [c]).Sublist (SGN.take (i + 1)) := by
  rw [take_s hi]
  exact h.append (List.Sublist.refl _)
theorem sub_take' {i c : Nat} {ts : List Nat} (h : ts.Sublist (SGN.take i)) (hi : SGN[i]? = some c) : ts.Sublist (SGN.take (i + 1)) := by
  rw [take_s hi]
  exact h.trans (List.sublist_append_left _ _)
theorem filter_sub : ∀ {l cs : List Nat}, cs.Sublist l → l.Nodup → l.filter (fun c => decide (c ∈ cs)) = cs
  | _, _, .slnil, _ => rfl
  | a :: l, cs, .cons _ h, nd => by
    obtain ⟨n1, n2⟩ := List.nodup_cons.mp nd
    rw [List.filter_cons, if_neg (by simpa using fun z => n1 (h.subset z))]
    exact filter_sub h n2
  | a :: l, _ :: cs, .cons_cons _ h, nd => by
    obtain ⟨n1, n2⟩ := List.nodup_cons.mp nd
    rw [List.filter_cons, if_pos (by simp)]
    congr 1
    have e : l.filter (fun c => decide (c ∈ a :: cs)) = l.filter (fun c => decide (c ∈ cs)) := List.filter_congr fun x hx => by
      have ne : x ≠ a := fun z => n1 (z ▸ hx)
      exact decide_eq_decide.mpr ⟨fun z => (List.mem_cons.mp z).resolve_left ne, List.mem_cons_of_mem _⟩
    rw [e]
    exact filter_sub h n2
section
variable {ρ : Rho} {a b : M Vl} {s : S} {QS : Fl → Rho → Prop} {i : Nat}
theorem sv_seti_l (h : Ev b ρ fun r ρ1 => ∃ z ρ2, frz ρ1 (stl r) = some (z, ρ2) ∧ (own? ρ2 i).isSome = true ∧ Ev a ρ2 fun r2 ρ3 => IsI r2 fun k => ∃ xs j, own? ρ3 i = some xs ∧ ixN xs.length k = some j ∧ QS .nx (put ρ3 i (xs.set j z))) : Sv (sSetI i a b) ρ QS := by
  obtain ⟨r, ρ1, e1, z, ρ2, e2, e3, r2, ρ3, e4, k, rfl, xs, j, e5, e6, q⟩ := h
  obtain ⟨y, ey⟩ := Option.isSome_iff_exists.mp e3
  refine ⟨.nx, _, ?_, q⟩
  show (b ρ).bind _ = _
  rw [e1]
  simp only [Option.bind_some, e2, ey, e4, e5, e6]
theorem sv_seti_s (h : Ev b ρ fun r ρ1 => ∃ z ρ2, frz ρ1 (stl r) = some (z, ρ2) ∧ (own? ρ2 i).isSome = true ∧ Ev a ρ2 fun r2 ρ3 => IsI r2 fun k => ∃ xs j, own? ρ3 i = some xs ∧ ixN xs.length k = some j ∧ Sv s (put ρ3 i (xs.set j z)) QS) : Sv (sSeq (sSetI i a b) s) ρ QS := sv_seq (sv_seti_l h)
end
theorem fv_letters {xs : List D} {Q : Vl → List (List D) → Prop} (h : Drw xs) (q : ∀ cs ys, cs.length = 3 → cs.Sublist SGN → Drw ys → Q (.fz (.str cs)) [ys]) : Fv lawLetters [.li xs] Q := by
  obtain ⟨cs, ys, e, h1, h2, h3⟩ := letters_sub h
  exact ⟨_, _, e, q cs ys h1 h2 h3⟩
/-- a join without anything between -/
theorem giv_join {cs : List (List Nat)} {Q : D → Prop} (h : (cs.map (·.length)).sum ≤ lim) (q : Q (.str cs.flatten)) : Giv (fJoin (.str []) [.lst (cs.map D.str)]) Q := giv (join_empty h) q
theorem sum_le {cs : List (List Nat)} {k : Nat} (h : ∀ c ∈ cs, c.length ≤ k) : (cs.map (·.length)).sum ≤ k * cs.length := by
  induction cs with
  | nil => simp
  | cons c cs ih =>
    have h1 := h c List.mem_cons_self
    have h2 := ih fun x hx => h x (List.mem_cons_of_mem _ hx)
    rw [List.map_cons, List.sum_cons, List.length_cons, Nat.mul_add, Nat.mul_one]
    omega
end Sw
/-! Sw15: == of nested data. -/
namespace Sw
open L2 PySem
mutual
theorem eqv_refl : ∀ d : PyData, d.canLay0 = true → PyData.eqv d d = true
  | .none, _ => by simp [PyData.eqv]
  | .bool b, _ => by simp [PyData.eqv]
  | .int i, _ => by simp [PyData.eqv]
  | .str x, _ => by simp [PyData.eqv]
  | .list xs, h => by simp only [PyData.eqv]; exact eqvAll_refl xs (by simpa [PyData.canLay0] using h)
  | .tuple xs, h => by simp only [PyData.eqv]; exact eqvAll_refl xs (by simpa [PyData.canLay0] using h)
  | .dict _, h => by simp [PyData.canLay0] at h
theorem eqvAll_refl : ∀ ds : List PyData, PyData.canLayAll0 ds = true → PyData.eqvAll ds ds = true
  | [], _ => by simp [PyData.eqvAll]
  | d :: ds, h => by
    simp only [PyData.canLayAll0, Bool.and_eq_true] at h
    simp only [PyData.eqvAll, Bool.and_eq_true]
    exact ⟨eqv_refl d h.1, eqvAll_refl ds h.2⟩
end
theorem eqD_same {x : D} (h : shD x = true) : fEqD x x = some (.bl true) := by
  unfold fEqD
  rw [h]
  show (if true = true then _ else _) = _
  rw [if_pos rfl, eqv_refl _ (SeqAt.canLay_of_shaped (shD_sh h))]
theorem eq_tup {xs : List D} (h : shD (.tup xs) = true) : fEq (.tup xs) (.tup xs) = some (.bl true) := by
  show orF fEqS fEqD _ _ = _
  unfold orF
  rw [show fEqS (.tup xs) (.tup xs) = none from rfl]
  exact eqD_same h
theorem eq_lst {xs : List D} (h : shD (.lst xs) = true) : fEq (.lst xs) (.lst xs) = some (.bl true) := by
  show orF fEqS fEqD _ _ = _
  unfold orF
  rw [show fEqS (.lst xs) (.lst xs) = none from rfl]
  exact eqD_same h
/-! what may be compared: texts of signs, at most 64 deep -/
mutual
def okD : D → Bool
  | .str s => s.all fun c => decide (c < 55296)
  | .lst xs => okDs xs
  | .tup xs => okDs xs
  | .obj _ _ _ => false
  | _ => true
def okDs : List D → Bool
  | [] => true
  | x :: xs => okD x && okDs xs
end
mutual
def dpD : D → Nat
  | .lst xs => dpDs xs + 1
  | .tup xs => dpDs xs + 1
  | .scr _ => 1
  | _ => 0
def dpDs : List D → Nat
  | [] => 0
  | x :: xs => max (dpD x) (dpDs xs)
end
theorem ints_can : ∀ xs : List Int, PyData.canLayAll0 (xs.map PyData.int) = true
  | [] => by simp [PyData.canLayAll0]
  | i :: xs => by simp only [List.map_cons, PyData.canLayAll0, PyData.canLay0, Bool.true_and]; exact ints_can xs
theorem ints_dp : ∀ xs : List Int, PyData.depthAll (xs.map PyData.int) = 0
  | [] => by simp [PyData.depthAll]
  | i :: xs => by simp only [List.map_cons, PyData.depthAll, PyData.depth, ints_dp xs]; rfl
mutual
theorem can_of : ∀ x : D, okD x = true → (toP x).canLay0 = true
  | .non, _ => by simp [toP, PyData.canLay0]
  | .bl b, _ => by simp [toP, PyData.canLay0]
  | .int i, _ => by simp [toP, PyData.canLay0]
  | .str t, h => by
    simp only [okD, List.all_eq_true, decide_eq_true_eq] at h
    simp only [toP, PyData.canLay0, PyData.strOk, List.all_toArray, List.all_eq_true, decide_eq_true_eq]
    intro c hc
    have := h c hc
    omega
  | .lst xs, h => by simp only [toP, PyData.canLay0]; exact cans_of xs (by simpa [okD] using h)
  | .tup xs, h => by simp only [toP, PyData.canLay0]; exact cans_of xs (by simpa [okD] using h)
  | .scr xs, _ => by simp only [toP, PyData.canLay0]; exact ints_can xs
  | .obj _ _ _, h => by simp [okD] at h
theorem cans_of : ∀ xs : List D, okDs xs = true → PyData.canLayAll0 (toPs xs) = true
  | [], _ => by simp [toPs, PyData.canLayAll0]
  | x :: xs, h => by
    simp only [okDs, Bool.and_eq_true] at h
    simp only [toPs, PyData.canLayAll0, Bool.and_eq_true]
    exact ⟨can_of x h.1, cans_of xs h.2⟩
end
mutual
theorem dep_of : ∀ x : D, (toP x).depth = dpD x
  | .non => by simp [toP, PyData.depth, dpD]
  | .bl b => by simp [toP, PyData.depth, dpD]
  | .int i => by simp [toP, PyData.depth, dpD]
  | .str t => by simp [toP, PyData.depth, dpD]
  | .lst xs => by simp only [toP, PyData.depth, dpD, deps_of xs]
  | .tup xs => by simp only [toP, PyData.depth, dpD, deps_of xs]
  | .scr xs => by simp only [toP, PyData.depth, dpD, ints_dp xs]
  | .obj _ _ _ => by simp [toP, PyData.depth, dpD]
theorem deps_of : ∀ xs : List D, PyData.depthAll (toPs xs) = dpDs xs
  | [] => by simp [toPs, PyData.depthAll, dpDs]
  | x :: xs => by simp only [toPs, PyData.depthAll, dpDs, dep_of x, deps_of xs]
end
mutual
theorem pln_of : ∀ x : D, okD x = true → plnD x = true
  | .non, _ => rfl
  | .bl b, _ => rfl
  | .int i, _ => rfl
  | .str t, _ => rfl
  | .lst xs, h => by unfold okD at h; unfold plnD; exact plns_of xs h
  | .tup xs, h => by unfold okD at h; unfold plnD; exact plns_of xs h
  | .scr xs, _ => rfl
  | .obj _ _ _, h => by simp [okD] at h
theorem plns_of : ∀ xs : List D, okDs xs = true → plnDs xs = true
  | [], _ => rfl
  | x :: xs, h => by
    unfold okDs at h
    rw [Bool.and_eq_true] at h
    unfold plnDs
    rw [pln_of x h.1, plns_of xs h.2]; rfl
end
theorem shD_of {x : D} (h : okD x = true) (hd : dpD x ≤ 64) : shD x = true := by
  unfold shD SeqAt.shaped
  rw [pln_of x h, can_of x h, dep_of x, decide_eq_true hd]
  rfl
end Sw
/-! Sw16: min of three. -/
namespace Sw
open PySem PySem.Spec PyProof.Rows L2
section
variable {X : Cx} {a b c e : Expr} {pos p : Pos} {es : List Expr} {ms : M (List Vl)} {K : PySem.W.Frag}
def cMin3 : List D → Option D
  | [.int i, .int j, .int k] => some (.int (min (min i j) k))
  | _ => none
theorem min_if (i j : Int) : (if j < i then j else i) = min i j := by
  split <;> omega
theorem nuMin_int (i j : Int) : nuMin2 (.int i) (.int j) = some (.int (min i j)) := by
  show some (if decide (j < i) = true then V.int j else V.int i) = _
  by_cases h : j < i
  · rw [decide_eq_true h, if_pos rfl, show min i j = j by omega]
  · rw [decide_eq_false h, if_neg (by decide), show min i j = i by omega]
theorem cs_min3 : CallS K (rNuC3 nuMin3) cMin3 := by
  intro H F vs xs z s hx e Q q
  unfold cMin3 at e
  split at e
  · rename_i i j k
    cases e
    match vs, hx with
    | [v, u, w], ⟨hv, hu, hw, _⟩ =>
      rw [vw_int hv, vw_int hu, vw_int hw]
      refine ⟨_, _, _, .int (min (min i j) k), rfl, ?_, q _ H F (Alc.refl s) (.int _)⟩
      unfold nuMin3
      rw [nuMin_int, Option.bind_some, nuMin_int]
  · cases e
theorem se_min3 (hm : X.mg "min" = none) (hg : Gl X "min") (hc : X.calm = true) (ha : SA X [a, b, c] ms) (he : starEach [a, b, c] X.env = (false, eval a X.env) :: starEach [b, c] X.env := by rfl) (hpl : (backTo pos (starEach [b, c] X.env)).any (·.1) = false := by rfl) : SE X (.Call (.Name "min" p) [a, b, c] [] pos) (eBlt cMin3 ms) :=
  se_blt (call_min3Nu hc) cs_min3 hg hm (by decide +kernel) ha (by decide) (by decide) he hpl
@[simp] theorem r_min2 {i j : Int} : cMin [.int i, .int j] = some (.int (min i j)) := by show some (D.int _) = _; rw [min_if]
theorem max_if (i j : Int) : (if j > i then j else i) = max i j := by
  split <;> omega
@[simp] theorem r_max2 {i j : Int} : cMax [.int i, .int j] = some (.int (max i j)) := by show some (D.int _) = _; rw [max_if]
@[simp] theorem r_min3 {i j k : Int} : cMin3 [.int i, .int j, .int k] = some (.int (min (min i j) k)) := rfl
/-! ### str of an int, a text, a bool, None -/
theorem call_str_any : CallR X (.type "str") (fun xs H Q => (∃ i, xs = [.int i] ∧ i.natAbs.log2 < 1920 ∧ Q (.str (toString i)) H) ∨ (∃ a, xs = [.str a] ∧ Q (.str a) H) ∨ (∃ b, xs = [.bl b] ∧ Q (.str (if b then "True" else "False")) H) ∨ (xs = [.non] ∧ Q (.str "None") H)) := by
  intro pins s σ H xs us Q I r h
  rcases h with ⟨i, rfl, hz, q⟩ | ⟨a, rfl, q⟩ | ⟨b, rfl, q⟩ | ⟨rfl, q⟩
  · obtain ⟨u, rfl, t, rfl⟩ := vals1 r
    exact PySem.P.str_of_int hz ⟨.str _, H, I.tok _, ⟨_, rfl⟩, q⟩
  · obtain ⟨u, rfl, t, rfl⟩ := vals1 r
    exact PySem.P.str_of_str ⟨.str a, H, I, ⟨t, rfl⟩, q⟩
  · obtain ⟨u, rfl, rfl⟩ := vals1 r
    exact PySem.P.str_of_bool ⟨.str _, H, I.tok _, ⟨_, rfl⟩, q⟩
  · obtain ⟨u, rfl, rfl⟩ := vals1 r
    exact PySem.P.str_of_none ⟨.str _, H, I.tok _, ⟨_, rfl⟩, q⟩
def cStrA : List D → Option D
  | [.int i] => if -1000000000 < i ∧ i < 1000000000 then some (.str (decS i)) else none
  | [.str s] => some (.str s)
  | [.bl b] => some (.str (if b then [84, 114, 117, 101] else [70, 97, 108, 115, 101]))
  | [.non] => some (.str [78, 111, 110, 101])
  | _ => none
theorem cs_strA : CallS K (fun xs H Q => (∃ i, xs = [.int i] ∧ i.natAbs.log2 < 1920 ∧ Q (.str (toString i)) H) ∨ (∃ a, xs = [.str a] ∧ Q (.str a) H) ∨ (∃ b, xs = [.bl b] ∧ Q (.str (if b then "True" else "False")) H) ∨ (xs = [.non] ∧ Q (.str "None") H)) cStrA := by
  intro H F vs xs z s hx e Q q
  unfold cStrA at e
  split at e
  · split at e
    · rename_i i hc
      cases e
      obtain ⟨v, rfl, hv⟩ := vws1 hx
      rw [vw_int hv]
      refine .inl ⟨_, rfl, ?_, q _ H F (Alc.refl s) (rep_str _)⟩
      by_cases z : i.natAbs = 0
      · rw [z]; decide
      · exact (Nat.log2_lt z).mpr (Nat.lt_of_lt_of_le (show i.natAbs < 2 ^ 30 by omega) (Nat.pow_le_pow_right (by decide) (by decide)))
    · cases e
  · rename_i t
    cases e
    obtain ⟨v, rfl, hv⟩ := vws1 hx
    cases (show Rep K F v (.str t) from hv)
    exact .inr (.inl ⟨_, rfl, q _ H F (Alc.refl s) (.str t)⟩)
  · rename_i b
    cases e
    obtain ⟨v, rfl, hv⟩ := vws1 hx
    cases (show Rep K F v (.bl b) from hv)
    refine .inr (.inr (.inl ⟨_, rfl, q _ H F (Alc.refl s) ?_⟩))
    cases b
    · exact rep_str (Str.ofString "False")
    · exact rep_str (Str.ofString "True")
  · cases e
    obtain ⟨v, rfl, hv⟩ := vws1 hx
    cases (show Rep K F v .non from hv)
    exact .inr (.inr (.inr ⟨rfl, q _ H F (Alc.refl s) (rep_str (Str.ofString "None"))⟩))
  · cases e
theorem se_tostrA (hm : X.mg "str" = none) (hg : Gl X "str") (ha : SA X [e] ms) (he : starEach [e] X.env = (false, eval e X.env) :: starEach [] X.env := by rfl) (hpl : (backTo pos (starEach [] X.env)).any (·.1) = false := by rfl) : SE X (.Call (.Name "str" p) [e] [] pos) (eBlt cStrA ms) :=
  se_ty call_str_any cs_strA hg hm (by decide +kernel) ha (by decide) (by decide) he hpl
end
end Sw
/-! Sw17: the draws with the fifth cell, items of written lists, the fifth cell read and stored. -/
namespace Sw
open L2
theorem fv_nextE {xs : List D} {m e : Int} {Q : Vl → List (List D) → Prop} (h : DrE e xs) (hm : 0 < m) (q : ∀ r ys, 0 ≤ r → r < m → DrE e ys → Q (.fz (.int r)) [ys]) : Fv lawNext [.li xs, .da (.int m)] Q := by
  obtain ⟨r, ys, e, h1, h2, h3⟩ := next_okE h hm
  exact ⟨_, _, e, q r ys h1 h2 h3⟩
theorem fv_drawE {ns : List Int} {Q : Vl → List (List D) → Prop} (h : ns.length ≤ 63) (q : ∀ xs, DrE 3 xs → Q (.fr xs) []) : Fv lawDraw [.da (.scr ns)] Q := by
  obtain ⟨xs, e, h⟩ := draw_okE h
  exact ⟨_, _, e, q xs h⟩
theorem atI_mem {α : Type} {xs : List α} {r : Int} (h0 : 0 ≤ r) (h1 : r < xs.length) : ∃ x, x ∈ xs ∧ atI xs r = some x := ⟨_, List.getElem_mem _, atI_int h0 h1⟩
theorem giv_ixl_all {xs : List D} {r : Int} {Q : D → Prop} (h0 : 0 ≤ r) (h1 : r < xs.length) (q : ∀ x ∈ xs, Q x) : Giv (fIx (.lst xs) (.int r)) Q := by
  obtain ⟨x, hx, e⟩ := atI_mem h0 h1
  exact giv_ixl e (q x hx)
theorem giv_ixt_all {xs : List D} {r : Int} {Q : D → Prop} (h0 : 0 ≤ r) (h1 : r < xs.length) (q : ∀ x ∈ xs, Q x) : Giv (fIx (.tup xs) (.int r)) Q := by
  obtain ⟨x, hx, e⟩ := atI_mem h0 h1
  exact giv_ixt e (q x hx)
theorem giv_ixs_all {xs : List Nat} {r : Int} {Q : D → Prop} (hl : xs.length ≤ lim) (h0 : 0 ≤ r) (h1 : r < xs.length) (q : ∀ c ∈ xs, Q (.str [c])) : Giv (fIx (.str xs) (.int r)) Q := by
  obtain ⟨x, hx, e⟩ := atI_mem h0 h1
  exact giv_ixs hl e (q x hx)
theorem all_nil {α : Type} {Q : α → Prop} : ∀ x ∈ ([] : List α), Q x := fun _ h => by cases h
theorem all_cons {α : Type} {Q : α → Prop} {a : α} {xs : List α} (h : Q a) (t : ∀ x ∈ xs, Q x) : ∀ x ∈ a :: xs, Q x := fun x hx => by
  rcases List.mem_cons.mp hx with rfl | hx
  · exact h
  · exact t x hx
theorem giv_dr4 {xs : List D} {e : Int} {Q : D → Prop} (h : DrE e xs) (q : Q (.int e)) : Giv (fIx (.lst xs) (.int 4)) Q := by
  obtain ⟨k, a, b, ds, rfl, hk⟩ := h.ex
  exact giv_ixl rfl q
theorem DrE.set4 {xs : List D} {e : Int} (h : DrE e xs) (e' : Int) : xs.length = 5 ∧ DrE e' (xs.set 4 (.int e')) := by
  obtain ⟨k, a, b, ds, rfl, hk⟩ := h.ex
  exact ⟨rfl, ⟨k, a, b, ds, rfl, hk⟩⟩
section
variable {ρ : Rho} {b : M Vl} {s : S} {QS : Fl → Rho → Prop} {i : Nat}
/-- the fifth cell is stored -/
theorem sv_set4_s (h : Ev b ρ fun r ρ1 => IsI r fun e' => ∃ xs, own? ρ1 i = some xs ∧ (∃ e, DrE e xs) ∧ ∀ ys, DrE e' ys → Sv s (put ρ1 i ys) QS) : Sv (sSeq (sSetI i (eC (.int 4)) b) s) ρ QS := by
  obtain ⟨r, ρ1, e1, e', rfl, xs, e5, ⟨e, hd⟩, q⟩ := h
  refine sv_seti_s ⟨_, ρ1, e1, .int e', ρ1, rfl, by rw [e5]; rfl, ?_⟩
  exact ev_c (isI ⟨xs, 4, e5, by rw [(hd.set4 e').1]; rfl, q _ (hd.set4 e').2⟩)
end
theorem own_at {ρ : Rho} {i : Nat} {xs : List D} {P : List D → Prop} (h : own? ρ i = some xs) (q : P xs) : ∃ xs, own? ρ i = some xs ∧ P xs := ⟨xs, h, q⟩
theorem giv_tup {xs : List D} {Q : D → Prop} (q : Q (.tup xs)) : Giv (cTup [.lst xs]) Q := ⟨_, rfl, q⟩
theorem giv_tupt {xs : List D} {Q : D → Prop} (q : Q (.tup xs)) : Giv (cTup [.tup xs]) Q := ⟨_, rfl, q⟩
theorem giv_str {i : Int} {Q : D → Prop} (h : -1000000000 < i ∧ i < 1000000000) (q : Q (.str (decS i))) : Giv (cStrA [.int i]) Q := ⟨_, by show (if _ then _ else _) = _; rw [if_pos h], q⟩
theorem giv_strN {Q : D → Prop} (q : Q (.str [78, 111, 110, 101])) : Giv (cStrA [.non]) Q := ⟨_, rfl, q⟩
theorem giv_strS {s : List Nat} {Q : D → Prop} (q : Q (.str s)) : Giv (cStrA [.str s]) Q := ⟨_, rfl, q⟩
@[simp] theorem r_isn1 {i : Int} : fIs (.int i) .non = some (.bl false) := rfl
@[simp] theorem r_isn2 : fIs .non .non = some (.bl true) := rfl
@[simp] theorem r_isn3 {s : List Nat} : fIs (.str s) .non = some (.bl false) := rfl
@[simp] theorem r_isn4 {s : List D} : fIs (.tup s) .non = some (.bl false) := rfl
@[simp] theorem r_isn5 {s : List D} : fIs (.lst s) .non = some (.bl false) := rfl
@[simp] theorem r_ntn1 {i : Int} : fNt (.int i) .non = some (.bl true) := rfl
@[simp] theorem r_ntn2 : fNt .non .non = some (.bl false) := rfl
@[simp] theorem r_ntn3 {s : List Nat} : fNt (.str s) .non = some (.bl true) := rfl
@[simp] theorem r_ntn4 {s : List D} : fNt (.tup s) .non = some (.bl true) := rfl
@[simp] theorem r_ntn5 {s : List D} : fNt (.lst s) .non = some (.bl true) := rfl
@[simp] theorem r_eqn1 {i : Int} : fEq (.int i) .non = some (.bl false) := rfl
@[simp] theorem r_eqn2 {i : Int} : fEq .non (.int i) = some (.bl false) := rfl
/-- the decimals of a small number are few -/
theorem decS_len {i : Int} (h0 : 0 ≤ i) (h1 : i < 1000) : (decS i).length ≤ 3 := by
  obtain ⟨n, rfl⟩ := Int.eq_ofNat_of_zero_le h0
  have hn : n < 1000 := by omega
  have all : (List.range 1000).all (fun n => decide ((decS (n : Int)).length ≤ 3)) = true := by decide +kernel
  rw [List.all_eq_true] at all
  exact of_decide_eq_true (all n (List.mem_range.mpr hn))
theorem gEv {α : Type} {m : M α} {ρ : Rho} {Q : α → Rho → Prop} (h : Ev m ρ Q) : Ev m ρ Q := h
theorem gSv {s : S} {ρ : Rho} {Q : Fl → Rho → Prop} (h : Sv s ρ Q) : Sv s ρ Q := h
theorem gGiv {o : Option D} {Q : D → Prop} (h : Giv o Q) : Giv o Q := h
theorem gFv {f : Fn} {gs : List Ag} {Q : Vl → List (List D) → Prop} (h : Fv f gs Q) : Fv f gs Q := h
theorem gBrn {c : Bool} {A B : Prop} (h : Brn c A B) : Brn c A B := h
theorem brn_c {c : Bool} {A B : Prop} (h1 : c = true → A) (h2 : c = false → B) : Brn c A B := ⟨h1, h2⟩
/-! ### comprehensions that change nothing -/
theorem set_back {ρ : Rho} {v : Nat} (hv : plainSl ρ[v]? = true) : (ρ.set v .no).set v ((ρ[v]?).getD .no) = ρ := by
  rw [List.set_set]
  cases e : ρ[v]? with
  | none => rw [e] at hv; cases hv
  | some s =>
    obtain ⟨h, rfl⟩ := List.getElem?_eq_some_iff.mp e
    exact List.set_getElem_self h
theorem plain_io {ρ : Rho} {v : Nat} (hv : plainSl ρ[v]? = true) : v < ρ.length := by
  cases e : ρ[v]? with
  | none => rw [e] at hv; cases hv
  | some s => exact (List.getElem?_eq_some_iff.mp e).1
theorem ev_lcf {α : Type} {ρ : Rho} {v : Nat} {src : M (List D)} {t : M Bool} {e : M Vl} {Q : Vl → Rho → Prop} (xs : List α) (d : α → D) (p : α → Bool) (h : α → D)
    (hv : plainSl ρ[v]? = true) (hl : xs.length ≤ lim) (hs : ∀ {Q' : List D → Rho → Prop}, Q' (xs.map d) ρ → Ev src ρ Q')
    (ht : ∀ x ∈ xs, ∀ {Q' : Bool → Rho → Prop}, Q' (p x) (ρ.set v (.d (d x))) → Ev t (ρ.set v (.d (d x))) Q')
    (he : ∀ x ∈ xs, p x = true → ∀ {Q' : Vl → Rho → Prop}, Q' (.fz (h x)) (ρ.set v (.d (d x))) → Ev e (ρ.set v (.d (d x))) Q')
    (q : Q (.fr ((xs.filter p).map h)) ρ) : Ev (eLc [v] src (gN v) t e) ρ Q := by
  have hvl := plain_io hv
  refine ev_lc (fun i acc ρ' => acc = ((xs.take i).filter p).map h ∧ ρ' = ρ.set v .no) (hs ?_)
  refine ⟨by simp only [List.all_cons, hv, List.all_nil]; rfl, ⟨by simp, rfl⟩, ?_, ?_⟩
  · rintro i y hy acc ρ' ⟨rfl, rfl⟩
    rw [List.getElem?_map] at hy
    cases hi : xs[i]? with
    | none => rw [hi] at hy; cases hy
    | some x =>
      rw [hi] at hy
      cases hy
      have hx := List.mem_of_getElem? hi
      have hi' : i < xs.length := (List.getElem?_eq_some_iff.mp hi).1
      refine ⟨ρ.set v (.d (d x)), ?_, ht x hx ?_⟩
      · show asg v (.fz (d x)) _ = _
        rw [asg_z (by rw [List.getElem?_set_self hvl]; rfl), List.set_set]
      · refine ⟨fun hp => he x hx hp ⟨h x, _, rfl, ?_, ?_, ?_⟩, fun hp => ⟨?_, ?_⟩⟩
        · rw [List.length_map]
          have := List.length_filter_le p (xs.take i)
          rw [List.length_take] at this
          omega
        · rw [take_s hi, List.filter_append, List.map_append]; simp [hp]
        · show (ρ.set v (.d (d x))).set v .no = _
          rw [List.set_set]
        · rw [take_s hi, List.filter_append, List.map_append]; simp [hp]
        · show (ρ.set v (.d (d x))).set v .no = _
          rw [List.set_set]
  · rintro acc ρ' ⟨rfl, rfl⟩
    rw [List.length_map, List.take_length]
    show Q _ ((ρ.set v .no).set v ((ρ[v]?).getD .no))
    rw [set_back hv]
    exact q
theorem ev_lcm {α : Type} {ρ : Rho} {v : Nat} {src : M (List D)} {e : M Vl} {Q : Vl → Rho → Prop} (xs : List α) (d : α → D) (h : α → D)
    (hv : plainSl ρ[v]? = true) (hl : xs.length ≤ lim) (hs : ∀ {Q' : List D → Rho → Prop}, Q' (xs.map d) ρ → Ev src ρ Q')
    (he : ∀ x ∈ xs, ∀ {Q' : Vl → Rho → Prop}, Q' (.fz (h x)) (ρ.set v (.d (d x))) → Ev e (ρ.set v (.d (d x))) Q')
    (q : Q (.fr (xs.map h)) ρ) : Ev (eLc [v] src (gN v) tYesM e) ρ Q :=
  ev_lcf xs d (fun _ => true) h hv hl hs (fun x _ Q' q => ev_tyes q) (fun x hx _ => he x hx) (by rw [List.filter_eq_self.mpr (fun _ _ => rfl)]; exact q)
/-- what is walked is a datum's items -/
theorem ev_isqd {ρ : Rho} {a : M Vl} {xs : List D} {Q : List D → Rho → Prop} (h : Ev a ρ fun r ρ1 => ∃ z, r = .fz z ∧ itemsOf z = some xs ∧ Q xs ρ1) : Ev (iSq a) ρ Q := by
  obtain ⟨r, ρ1, e1, z, rfl, e2, q⟩ := h
  exact ev_isq ⟨_, _, e1, z, ρ1, xs, rfl, e2, q⟩
theorem giv_joinb {cs : List (List Nat)} {s : List Nat} {Q : D → Prop} (h : (cs.map (·.length)).sum + cs.length * s.length ≤ lim) (q : Q (.str (TL.joinL s cs))) : Giv (fJoin (.str s) [.lst (cs.map D.str)]) Q := by
  refine giv ?_ q
  unfold fJoin
  dsimp only
  rw [strsOf_map]
  show (if _ then _ else _) = _
  rw [if_pos h]
theorem joinL_len {s : List Nat} : ∀ cs : List (List Nat), (TL.joinL s cs).length ≤ (cs.map (·.length)).sum + cs.length * s.length
  | [] => by simp [TL.joinL]
  | [c] => by simp [TL.joinL]
  | c :: d :: r => by
    have := joinL_len (s := s) (d :: r)
    simp only [TL.joinL, List.length_append, List.map_cons, List.sum_cons, List.length_cons, Nat.add_mul, Nat.one_mul] at this ⊢
    omega
/-! ### slices -/
theorem sIx_ge {n d : Nat} {r : Int} (h : 0 ≤ r) : HT.sIx n d (some r) = min r.toNat n := by
  obtain ⟨k, rfl⟩ := Int.eq_ofNat_of_zero_le h
  rw [HT.sIx_nat]; rfl
theorem cut_take {α : Type} {xs : List α} {r : Int} (h : 0 ≤ r) : cutL xs none (some r) = xs.take r.toNat := by
  unfold cutL
  rw [sIx_ge h]
  show (xs.drop 0).take (min r.toNat xs.length - 0) = _
  rw [List.drop_zero, Nat.sub_zero, Nat.min_comm, ← List.take_take]
  rw [List.take_take, Nat.min_comm]
  by_cases hl : r.toNat ≤ xs.length
  · rw [Nat.min_eq_left hl]
  · rw [Nat.min_eq_right (by omega), List.take_length, List.take_of_length_le (by omega)]
theorem cut_drop {α : Type} {xs : List α} {r : Int} (h : 0 ≤ r) : cutL xs (some r) none = xs.drop r.toNat := by
  unfold cutL
  rw [sIx_ge h]
  show (xs.drop (min r.toNat xs.length)).take (xs.length - min r.toNat xs.length) = _
  by_cases hl : r.toNat ≤ xs.length
  · rw [Nat.min_eq_left hl, List.take_of_length_le (by rw [List.length_drop]; omega)]
  · rw [Nat.min_eq_right (by omega), List.drop_length, List.drop_of_length_le (by omega), List.take_nil]
theorem cut_mid {α : Type} {xs : List α} {r u : Int} (h : 0 ≤ r) (h2 : 0 ≤ u) : cutL xs (some r) (some u) = (xs.drop r.toNat).take (u.toNat - r.toNat) := by
  unfold cutL
  rw [sIx_ge h, sIx_ge h2]
  by_cases hl : r.toNat ≤ xs.length
  · rw [Nat.min_eq_left hl]
    by_cases hu : u.toNat ≤ xs.length
    · rw [Nat.min_eq_left hu]
    · rw [Nat.min_eq_right (by omega), List.take_of_length_le (by rw [List.length_drop]; omega), List.take_of_length_le (by rw [List.length_drop]; omega)]
  · rw [show min r.toNat xs.length = xs.length by omega, List.drop_length, List.drop_of_length_le (by omega), List.take_nil, List.take_nil]
theorem cut_m1 {α : Type} {xs : List α} : cutL xs none (some (-1)) = xs.dropLast := by
  unfold cutL
  have e : HT.sIx xs.length xs.length (some (-1)) = xs.length - 1 := by
    unfold HT.sIx
    simp
    omega
  rw [e]
  show (xs.drop 0).take (xs.length - 1 - 0) = _
  rw [List.drop_zero, Nat.sub_zero, List.dropLast_eq_take]
theorem giv_slt {xs : List Nat} {r : Int} {Q : D → Prop} (hl : xs.length ≤ lim) (h : 0 ≤ r) (q : Q (.str (xs.take r.toNat))) : Giv (fSl (.str xs) none (some r)) Q := giv_sls hl (by rw [cut_take h]; exact q)
theorem giv_sld {xs : List Nat} {r : Int} {Q : D → Prop} (hl : xs.length ≤ lim) (h : 0 ≤ r) (q : Q (.str (xs.drop r.toNat))) : Giv (fSl (.str xs) (some r) none) Q := giv_sls hl (by rw [cut_drop h]; exact q)
theorem giv_slm {xs : List Nat} {r u : Int} {Q : D → Prop} (hl : xs.length ≤ lim) (h : 0 ≤ r) (h2 : 0 ≤ u) (q : Q (.str ((xs.drop r.toNat).take (u.toNat - r.toNat)))) : Giv (fSl (.str xs) (some r) (some u)) Q := giv_sls hl (by rw [cut_mid h h2]; exact q)
theorem giv_slm1 {xs : List Nat} {Q : D → Prop} (hl : xs.length ≤ lim) (q : Q (.str xs.dropLast)) : Giv (fSl (.str xs) none (some (-1))) Q := giv_sls hl (by rw [cut_m1]; exact q)
theorem giv_sltl {xs : List D} {r : Int} {Q : D → Prop} (h : 0 ≤ r) (q : Q (.lst (xs.take r.toNat))) : Giv (fSl (.lst xs) none (some r)) Q := giv_sll (by rw [cut_take h]; exact q)
theorem giv_sldl {xs : List D} {r : Int} {Q : D → Prop} (h : 0 ≤ r) (q : Q (.lst (xs.drop r.toNat))) : Giv (fSl (.lst xs) (some r) none) Q := giv_sll (by rw [cut_drop h]; exact q)
/-- what stands behind a return -/
theorem sv_rets {a : M Vl} {ρ : Rho} {s : S} {QS : Fl → Rho → Prop} (h : Sv (sRet a) ρ QS) : Sv (sSeq (sRet a) s) ρ QS := by
  obtain ⟨fl, ρ1, e, q⟩ := h
  have : ∃ v, fl = .rt v := by
    rw [r_sRet] at e
    obtain ⟨⟨r, ρ2⟩, e1, e2⟩ := Option.bind_eq_some_iff.mp e
    cases r with
    | fz x => cases e2; exact ⟨_, rfl⟩
    | fr x => cases e2; exact ⟨_, rfl⟩
    | bw i =>
      dsimp only at e2
      split at e2
      · cases e2; exact ⟨_, rfl⟩
      · cases e2
  obtain ⟨v, rfl⟩ := this
  exact sv_seq_rt e q
/-! ### tests that change nothing, as one question -/
theorem ev_tAnd_d {t u : M Bool} {ρ : Rho} {QB : Bool → Rho → Prop} {p q : Prop} {ip : Decidable p} {iq : Decidable q} (ht : ∀ Q : Bool → Rho → Prop, Q (@decide p ip) ρ → Ev t ρ Q) (hu : p → ∀ Q : Bool → Rho → Prop, Q (@decide q iq) ρ → Ev u ρ Q) (h : QB (decide (p ∧ q)) ρ) : Ev (tAnd t u) ρ QB := by
  refine ev_tAnd (ht _ ?_)
  refine brn_d (fun hp => hu hp _ ?_) (fun hp => ?_)
  · rw [show decide q = decide (p ∧ q) by simp [hp]]; exact h
  · rw [show false = decide (p ∧ q) by simp [hp]]; exact h
theorem ev_tOr_d {t u : M Bool} {ρ : Rho} {QB : Bool → Rho → Prop} {p q : Prop} {ip : Decidable p} {iq : Decidable q} (ht : ∀ Q : Bool → Rho → Prop, Q (@decide p ip) ρ → Ev t ρ Q) (hu : ¬ p → ∀ Q : Bool → Rho → Prop, Q (@decide q iq) ρ → Ev u ρ Q) (h : QB (decide (p ∨ q)) ρ) : Ev (tOr t u) ρ QB := by
  refine ev_tOr (ht _ ?_)
  refine brn_d (fun hp => ?_) (fun hp => hu hp _ ?_)
  · rw [show true = decide (p ∨ q) by simp [hp]]; exact h
  · rw [show decide q = decide (p ∨ q) by simp [hp]]; exact h
theorem toD_t {Q : Bool → Rho → Prop} {ρ : Rho} (q : Q (decide ((0 : Int) = 0)) ρ) : Q true ρ := q
theorem toD_f {Q : Bool → Rho → Prop} {ρ : Rho} (q : Q (decide ((0 : Int) = 1)) ρ) : Q false ρ := q
theorem toD_b {Q : Bool → Rho → Prop} {ρ : Rho} {o : Bool} (q : Q (decide (o = true)) ρ) : Q o ρ := by rw [Bool.decide_eq_true] at q; exact q
theorem toD_n {Q : Bool → Rho → Prop} {ρ : Rho} {p : Prop} {ip : Decidable p} (q : Q (decide (¬ p)) ρ) : Q (!@decide p ip) ρ := by rw [decide_not] at q; exact q
end Sw
/-! Sw18: any, all, sum, max, min of a list; pop, insert, reverse, extend, clear of a list of one's own; index. -/
namespace Sw
open PySem PySem.Spec PyProof.Rows L2
section
variable {X : Cx} {a b c e : Expr} {pos p : Pos} {es : List Expr} {ms : M (List Vl)} {me : M Vl} {K : PySem.W.Frag}
def bools : List D → Option (List Bool)
  | [] => some []
  | .bl b :: xs => (bools xs).bind fun r => some (b :: r)
  | _ => none
def intsD : List D → Option (List Int)
  | [] => some []
  | .int i :: xs => (intsD xs).bind fun r => some (i :: r)
  | _ => none
theorem bools_ok {F : Hp} : ∀ {vs : List V} {xs : List D} {bs : List Bool}, Reps K F vs xs → bools xs = some bs → vs = bs.map V.bl
  | _, _, _, .nil, e => by cases e; rfl
  | _, _, _, .cons r t, e => by
    cases r with
    | bl b =>
      unfold bools at e
      obtain ⟨zs, e1, e⟩ := Option.bind_eq_some_iff.mp e
      cases e
      rw [bools_ok t e1]; rfl
    | _ => cases e
theorem intsD_ok {F : Hp} : ∀ {vs : List V} {xs : List D} {bs : List Int}, Reps K F vs xs → intsD xs = some bs → vs = bs.map V.int
  | _, _, _, .nil, e => by cases e; rfl
  | _, _, _, .cons r t, e => by
    cases r with
    | int b =>
      unfold intsD at e
      obtain ⟨zs, e1, e⟩ := Option.bind_eq_some_iff.mp e
      cases e
      rw [intsD_ok t e1]; rfl
    | _ => cases e
theorem bools_map : ∀ bs : List Bool, bools (bs.map D.bl) = some bs
  | [] => rfl
  | b :: bs => by rw [List.map_cons, bools, bools_map bs]; rfl
theorem intsD_map : ∀ bs : List Int, intsD (bs.map D.int) = some bs
  | [] => rfl
  | b :: bs => by rw [List.map_cons, intsD, intsD_map bs]; rfl
def cAny : List D → Option D
  | [.lst xs] => (bools xs).bind fun bs => some (.bl (bs.any id))
  | _ => none
def cAll : List D → Option D
  | [.lst xs] => (bools xs).bind fun bs => some (.bl (bs.all id))
  | _ => none
def cSum : List D → Option D
  | [.lst xs] => (intsD xs).bind fun ns => some (.int ns.sum)
  | _ => none
def cMaxL : List D → Option D
  | [.lst xs] => (intsD xs).bind fun ns => ns.max?.bind fun m => some (.int m)
  | _ => none
def cMinL : List D → Option D
  | [.lst xs] => (intsD xs).bind fun ns => ns.min?.bind fun m => some (.int m)
  | _ => none
theorem cs_any : CallS K (rAny K) cAny := by
  intro H F vs xs z s hx e Q q
  unfold cAny at e
  split at e
  · obtain ⟨bs, e1, e⟩ := Option.bind_eq_some_iff.mp e
    cases e
    obtain ⟨v, rfl, a, us, rfl, h1, h2⟩ := vws1 hx
    refine ⟨a, bs, rfl, ?_, q _ H F (Alc.refl s) (.bl _)⟩
    rw [← bools_ok h2 e1]; exact SqL.of h1
  · cases e
theorem cs_all : CallS K (rAll K) cAll := by
  intro H F vs xs z s hx e Q q
  unfold cAll at e
  split at e
  · obtain ⟨bs, e1, e⟩ := Option.bind_eq_some_iff.mp e
    cases e
    obtain ⟨v, rfl, a, us, rfl, h1, h2⟩ := vws1 hx
    refine ⟨a, bs, rfl, ?_, q _ H F (Alc.refl s) (.bl _)⟩
    rw [← bools_ok h2 e1]; exact SqL.of h1
  · cases e
theorem cs_sum : CallS K (rSum K) cSum := by
  intro H F vs xs z s hx e Q q
  unfold cSum at e
  split at e
  · obtain ⟨bs, e1, e⟩ := Option.bind_eq_some_iff.mp e
    cases e
    obtain ⟨v, rfl, a, us, rfl, h1, h2⟩ := vws1 hx
    refine ⟨a, bs, rfl, ?_, q _ H F (Alc.refl s) (.int _)⟩
    rw [← intsD_ok h2 e1]; exact SqL.of h1
  · cases e
theorem max_uniq {ns : List Int} {m k : Int} (h : ns.max? = some m) (hk : k ∈ ns) (hle : ∀ y, y ∈ ns → y ≤ k) : k = m := by
  have h2 := (List.max?_eq_some_iff (xs := ns) (a := m)).mp h
  have := hle m h2.1
  have := h2.2 k hk
  omega
theorem min_uniq {ns : List Int} {m k : Int} (h : ns.min? = some m) (hk : k ∈ ns) (hle : ∀ y, y ∈ ns → k ≤ y) : k = m := by
  have h2 := (List.min?_eq_some_iff (xs := ns) (a := m)).mp h
  have := hle m h2.1
  have := h2.2 k hk
  omega
theorem cs_maxL : CallS K (rMax K) cMaxL := by
  intro H F vs xs z s hx e Q q
  unfold cMaxL at e
  split at e
  · obtain ⟨bs, e1, e⟩ := Option.bind_eq_some_iff.mp e
    obtain ⟨m, e2, e⟩ := Option.bind_eq_some_iff.mp e
    cases e
    obtain ⟨v, rfl, a, us, rfl, h1, h2⟩ := vws1 hx
    refine ⟨a, bs, rfl, ?_, ?_, fun k hk hle => ?_⟩
    · rw [← intsD_ok h2 e1]; exact SqL.of h1
    · cases bs with
      | nil => cases e2
      | cons x r => simp
    · rw [max_uniq e2 hk hle]; exact q _ H F (Alc.refl s) (.int _)
  · cases e
theorem cs_minL : CallS K (rMin K) cMinL := by
  intro H F vs xs z s hx e Q q
  unfold cMinL at e
  split at e
  · obtain ⟨bs, e1, e⟩ := Option.bind_eq_some_iff.mp e
    obtain ⟨m, e2, e⟩ := Option.bind_eq_some_iff.mp e
    cases e
    obtain ⟨v, rfl, a, us, rfl, h1, h2⟩ := vws1 hx
    refine ⟨a, bs, rfl, ?_, ?_, fun k hk hle => ?_⟩
    · rw [← intsD_ok h2 e1]; exact SqL.of h1
    · cases bs with
      | nil => cases e2
      | cons x r => simp
    · rw [min_uniq e2 hk hle]; exact q _ H F (Alc.refl s) (.int _)
  · cases e
theorem se_any (hm : X.mg "any" = none) (hg : Gl X "any") (hc : X.calm = true) (ha : SA X [e] ms) (he : starEach [e] X.env = (false, eval e X.env) :: starEach [] X.env := by rfl) (hpl : (backTo pos (starEach [] X.env)).any (·.1) = false := by rfl) : SE X (.Call (.Name "any" p) [e] [] pos) (eBlt cAny ms) :=
  se_blt (cr_any hc) cs_any hg hm (by decide +kernel) ha (by decide) (by decide) he hpl
theorem se_all (hm : X.mg "all" = none) (hg : Gl X "all") (hc : X.calm = true) (ha : SA X [e] ms) (he : starEach [e] X.env = (false, eval e X.env) :: starEach [] X.env := by rfl) (hpl : (backTo pos (starEach [] X.env)).any (·.1) = false := by rfl) : SE X (.Call (.Name "all" p) [e] [] pos) (eBlt cAll ms) :=
  se_blt (cr_all hc) cs_all hg hm (by decide +kernel) ha (by decide) (by decide) he hpl
theorem se_sum (hm : X.mg "sum" = none) (hg : Gl X "sum") (hc : X.calm = true) (ha : SA X [e] ms) (he : starEach [e] X.env = (false, eval e X.env) :: starEach [] X.env := by rfl) (hpl : (backTo pos (starEach [] X.env)).any (·.1) = false := by rfl) : SE X (.Call (.Name "sum" p) [e] [] pos) (eBlt cSum ms) :=
  se_blt (cr_sum hc) cs_sum hg hm (by decide +kernel) ha (by decide) (by decide) he hpl
theorem se_max1 (hm : X.mg "max" = none) (hg : Gl X "max") (hc : X.calm = true) (ha : SA X [e] ms) (he : starEach [e] X.env = (false, eval e X.env) :: starEach [] X.env := by rfl) (hpl : (backTo pos (starEach [] X.env)).any (·.1) = false := by rfl) : SE X (.Call (.Name "max" p) [e] [] pos) (eBlt cMaxL ms) :=
  se_blt (cr_max hc) cs_maxL hg hm (by decide +kernel) ha (by decide) (by decide) he hpl
theorem se_min1 (hm : X.mg "min" = none) (hg : Gl X "min") (hc : X.calm = true) (ha : SA X [e] ms) (he : starEach [e] X.env = (false, eval e X.env) :: starEach [] X.env := by rfl) (hpl : (backTo pos (starEach [] X.env)).any (·.1) = false := by rfl) : SE X (.Call (.Name "min" p) [e] [] pos) (eBlt cMinL ms) :=
  se_blt (cr_min hc) cs_minL hg hm (by decide +kernel) ha (by decide) (by decide) he hpl
/-! ### lists of one's own: methods that change them -/
def sMut (i : Nat) (f : List D → List D → Option (List D)) (m : M (List Vl)) : S := fun ρ => (own? ρ i).bind fun _ => (m ρ).bind fun p => (frzs p.2 p.1).bind fun q => (own? q.2 i).bind fun xs => (f xs q.1).bind fun ys => some (.nx, put q.2 i ys)
def MutS (K : PySem.W.Frag) (r : V → List V → Hp → VK → Prop) (f : List D → List D → Option (List D)) : Prop :=
  ∀ (H F : Hp) (a : Addr) (us vs : List V) (xs zs ys : List D), Same F H → H a = some (.lst us) → Reps K F us xs → Reps K F vs zs → f xs zs = some ys → ∀ Q : VK, (∀ us' w, Reps K F us' ys → Q w (upd H a (.lst us'))) → r (.ref a) vs H Q
theorem smut_of {i : Nat} {f : List D → List D → Option (List D)} {r : V → List V → Hp → VK → Prop} (hf : MutS X.K r f) {E : Ends} {σ : L2.St} {H : Hp} (h : tSW X.K Wx (sMut i f ms) E σ H) : ∃ v, σ[i]? = some (some v) ∧ tyV X.K "list" v H ∧ tMA X.K ms σ H fun vs H1 => r v vs H1 fun _ H2 => E.nx σ H2 := by
  obtain ⟨G, ρ, F, fl, ρ', W, hm, q⟩ := h
  unfold sMut at hm
  obtain ⟨xs0, e0, hm⟩ := Option.bind_eq_some_iff.mp hm
  obtain ⟨⟨rs, ρ1⟩, e1, hm⟩ := Option.bind_eq_some_iff.mp hm
  obtain ⟨⟨zs, ρ2⟩, e2, hm⟩ := Option.bind_eq_some_iff.mp hm
  obtain ⟨xs, e3, hm⟩ := Option.bind_eq_some_iff.mp hm
  obtain ⟨ys, e4, hm⟩ := Option.bind_eq_some_iff.mp hm
  cases hm
  obtain ⟨a, ha, vs0, hv0⟩ := W.own_at e0
  refine ⟨.ref a, ha, .inl ⟨rfl, _, SqL.of hv0⟩, G, ρ, F, rs, ρ1, W, e1, fun vs H1 F1 s1 R1 => ?_⟩
  obtain ⟨F2, s2, R2⟩ := frzs_ok s1.wd R1 e2
  obtain ⟨b, hb, us, hu, ru⟩ := s2.wd.own_at' e3
  rw [ha] at hb; cases hb
  refine hf H1 F2 a us vs xs zs ys s2.wd.sub hu ru R2 e4 _ fun us' w r' => ?_
  obtain ⟨W3, _⟩ := s2.wd.put (a := a) e3 ha r'
  exact q σ _ F2 W3 (s1.ff.trans s2.ff)
theorem ss_mut {i : Nat} {o : Expr} {name : Str} {id : String} {apos cpos : Pos} {f : List D → List D → Option (List D)} {r : V → List V → Hp → VK → Prop} (slot : Slot "list" name id) (hty : typeOf (.builtin id) = pure (.type "method_descriptor")) (hmt : MtR X id r) (hf : MutS X.K r f) (ho : PE X o (tVar i)) (ha : SA X (e :: es) ms)
    (hbase : attributeBase o name X.env (eval o X.env) = eval o X.env := by rfl)
    (hfew : ((backTo cpos (starEach (e :: es) X.env)).all (fun x => !x.1) && (backToKw cpos (keywordEach [] X.env)).all (fun x => x.1.isSome)
      && decide ((e :: es).length + ([] : List Keyword).length + (if ([] : List Keyword).isEmpty then 0 else 1) < 30)) = true := by rfl)
    (hline : (apos.endLine == cpos.line) = true := by rfl) (hst : starEach (e :: es) X.env = (false, eval e X.env) :: starEach es X.env := by rfl) (hplain : (backTo cpos (starEach es X.env)).any (·.1) = false := by rfl)
    (hs : swapsWith (.Call (.Attribute o name apos) (e :: es) [] cpos) none pos.line X.env = pure false := by rfl) :
    SSW X Wx (.Expr (.Call (.Attribute o name apos) (e :: es) [] cpos) pos) (sMut i f ms) := by
  refine ps_weak (ps_expr (pe_bm PySem.F.plainAttrs_list slot hty hmt ho ha hbase hfew hline hst hplain) hs) fun E σ H h => ?_
  obtain ⟨v, hv, ty, h⟩ := smut_of hf h
  exact ⟨v, hv, ty, h⟩
theorem ss_mut0 {i : Nat} {o : Expr} {name : Str} {id : String} {apos cpos : Pos} {f : List D → List D → Option (List D)} {r : V → List V → Hp → VK → Prop} (slot : Slot "list" name id) (hty : typeOf (.builtin id) = pure (.type "method_descriptor")) (hmt : MtR X id r) (hf : MutS X.K r f) (ho : PE X o (tVar i))
    (hbase : attributeBase o name X.env (eval o X.env) = eval o X.env := by rfl) (hline : (apos.endLine == cpos.line) = true := by rfl)
    (hs : swapsWith (.Call (.Attribute o name apos) [] [] cpos) none pos.line X.env = pure false := by rfl) :
    SSW X Wx (.Expr (.Call (.Attribute o name apos) [] [] cpos) pos) (sMut i f aNil) := by
  refine ps_weak (ps_expr (pe_bm0 PySem.F.plainAttrs_list slot hty hmt ho hbase hline) hs) fun E σ H h => ?_
  obtain ⟨v, hv, ty, G, ρ, F, rs, ρ1, W, e1, q⟩ := smut_of hf h
  cases e1
  exact ⟨v, hv, ty, q [] H F (Ste.refl W) trivial⟩
def mIns : List D → List D → Option (List D)
  | xs, [.int i, y] => if 0 ≤ i ∧ i ≤ 1000000000 ∧ xs.length < lim then some (xs.take i.toNat ++ [y] ++ xs.drop i.toNat) else none
  | _, _ => none
def mRev : List D → List D → Option (List D)
  | xs, [] => some xs.reverse
  | _, _ => none
def mClr : List D → List D → Option (List D)
  | _, [] => some []
  | _, _ => none
def mExt : List D → List D → Option (List D)
  | xs, [.lst ys] => if xs.length + ys.length ≤ lim then some (xs ++ ys) else none
  | _, _ => none
theorem mu_ins : MutS K (fun x vs H Q => ∃ (l : Addr) (xs : List V) (i : Int) (y : V), x = .ref l ∧ vs = [.int i, y] ∧ H l = some (.lst xs) ∧ xs.length < sizeLine ∧ 0 ≤ i ∧ i < 2 ^ 63 ∧ Q .non (upd H l (.lst (xs.take i.toNat ++ [y] ++ xs.drop i.toNat)))) mIns := by
  intro H F a us vs xs zs ys s h1 r1 r2 e Q q
  unfold mIns at e
  split at e
  · split at e
    · rename_i hc
      cases e
      cases r2 with
      | cons ri t => cases ri with
        | int i => cases t with
          | cons ry t2 => cases t2 with
            | nil => exact ⟨a, us, _, _, rfl, rfl, h1, lim_lt (by rw [r1.len]; exact hc.2.2), hc.1, by omega, q _ _ (((r1.take _).append (.cons ry .nil)).append (r1.drop _))⟩
    · cases e
  · cases e
theorem mu_rev : MutS K rReverse mRev := by
  intro H F a us vs xs zs ys s h1 r1 r2 e Q q
  unfold mRev at e
  split at e
  · cases e
    cases r2
    exact ⟨a, us, rfl, rfl, h1, q _ _ r1.reverse⟩
  · cases e
theorem mu_clr : MutS K rClear mClr := by
  intro H F a us vs xs zs ys s h1 r1 r2 e Q q
  unfold mClr at e
  split at e
  · cases e
    cases r2
    exact ⟨a, us, rfl, rfl, h1, q _ _ .nil⟩
  · cases e
theorem mu_ext : MutS K rExtend mExt := by
  intro H F a us vs xs zs ys s h1 r1 r2 e Q q
  unfold mExt at e
  split at e
  · split at e
    · rename_i hc
      cases e
      cases r2 with
      | cons ri t => cases t with
        | nil => cases ri with
          | lst h2 r3 => exact ⟨a, _, us, _, rfl, rfl, h1, s _ _ h2, lim_of (by rw [r1.len, r3.len]; exact hc), q _ _ (r1.append r3)⟩
    · cases e
  · cases e
/-- xs.pop() -/
def ePop (i : Nat) : M Vl := fun ρ => (own? ρ i).bind fun xs => (xs[xs.length - 1]?).bind fun z => some (.fz z, put ρ i xs.dropLast)
theorem reps_dl {F : Hp} {vs : List V} {xs : List D} (h : Reps K F vs xs) : Reps K F vs.dropLast xs.dropLast := by
  rw [List.dropLast_eq_take, List.dropLast_eq_take, h.len]; exact h.take _
theorem se_pop {i : Nat} {o : Expr} {apos cpos : Pos} (ho : PE X o (tVar i)) (hbase : attributeBase o "pop" X.env (eval o X.env) = eval o X.env := by rfl) (hline : (apos.endLine == cpos.line) = true := by rfl) :
    SE X (.Call (.Attribute o "pop" apos) [] [] cpos) (ePop i) := by
  refine pe_weak (pe_bm0 PySem.F.plainAttrs_list PySem.F.slot_list_pop PySem.F.type_list_pop mt_pop ho hbase hline) fun σ H Q ⟨G, ρ, F, r, ρ', W, hm, q⟩ => ?_
  unfold ePop at hm
  obtain ⟨xs, e0, hm⟩ := Option.bind_eq_some_iff.mp hm
  obtain ⟨z, e1, hm⟩ := Option.bind_eq_some_iff.mp hm
  cases hm
  obtain ⟨a, ha, us, hu, ru⟩ := W.own_at' e0
  obtain ⟨v, hv, rv⟩ := ru.get' e1
  refine ⟨.ref a, ha, .inl ⟨rfl, _, SqL.of hu⟩, a, us, v, rfl, rfl, hu, by rw [ru.len]; exact hv, ?_⟩
  have sl := own_sl e0
  have s := after_call (K := X.K) (G := G) (σ := σ) (H := H) (ρ := ρ) (F := F) (F' := F) (H' := upd H a (.lst us.dropLast)) (is := [i]) (as := [a]) (os := [xs.dropLast]) W (by simp) rfl (fun k j b e1 e2 => by
    cases k with
    | zero => simp at e1 e2; subst e1; subst e2; exact ⟨⟨xs, sl⟩, ha⟩
    | succ k => simp at e1) (Same.refl _) (fun b x e => by
      have nb : b ≠ a := fun z => by
        obtain ⟨vs0, h1, h2⟩ := W.ow_there ⟨⟨xs, sl⟩, ha⟩
        rw [z, h2] at e; cases e
      rw [upd_ne nb]; exact W.sub _ _ e) (fun b o e hb => by
      have nb : b ≠ a := fun z => hb (by rw [z]; simp)
      rw [upd_ne nb]; exact e) (fun _ h => .inl h) ⟨⟨_, upd_same, reps_dl ru, (W.ow_there ⟨⟨xs, sl⟩, ha⟩).choose_spec.2⟩, trivial⟩
  exact q v _ F s rv
end
end Sw
/-! Sw19: for i, x in enumerate(xs), xs a list or a tuple. -/
namespace Sw
open PySem PySem.Spec PyProof.Rows L2
set_option maxHeartbeats 8000000 in
/-- enumerate of anything whose iterator is one new object -/
theorem meetsEnum1 {v : Value} {ob : Obj} {P : Heap → Prop} (B : Begins v ob P) : Meets (Builtin.«enumerate.__new__» ⟨[.type "enumerate", v], []⟩) (fun _ R s => P s.heap ∧ R (.ok (.ret (.ref (s.heap.push ob).objs.size)))
    { s with heap := (s.heap.push ob).push { cls := .type "enumerate", data := .fields #[.none, .bool false, .ref s.heap.objs.size, rawInt 0, .none, .none] } }) := by
  refine .of_wp fun prog w A R s h => ?_
  obtain ⟨hp, gs, dr, tk, os⟩ := s
  obtain ⟨hP, hR⟩ := h
  have su := sub_enumerate
  have it1 : ∀ {A' : Around} {E' : Value → Shared → Prop} {Q' : Value → Shared → Prop}, Q' (.ref hp.objs.size) ⟨hp.push ob, gs, dr, tk, os⟩ → wpAny (model prog w) A' (pyIter v) Q' E' ⟨hp, gs, dr, tk, os⟩ := fun q' => B.iter prog w _ _ ⟨hp, gs, dr, tk, os⟩ _ hP q'
  wp_walk using it1
  refine wpAny_stack_any fun stk => wpAny_pure ?_
  split
  · rename_i cc _ _ _ _ _
    cases (cc == Value.type "enumerate") <;> (wp_walk using it1; exact ⟨_, rfl, hR⟩)
  · wp_walk using it1; exact ⟨_, rfl, hR⟩
theorem callEnum1 {prog : Program} {w : World} {A : Around} {E : Value → Shared → Prop} {s : Shared} {v : Value} {ob : Obj} {P : Heap → Prop} {Q : Value → Shared → Prop} (B : Begins v ob P) (hP : P s.heap)
    (q : ∀ h', IsEnum h' (s.heap.objs.size + 1) s.heap.objs.size 0 .none → h'.get? s.heap.objs.size = some ob → h'.objs.size = s.heap.objs.size + 2 → (∀ b o, s.heap.get? b = some o → h'.get? b = some o) → Q (.ref (s.heap.objs.size + 1)) { s with heap := h' }) :
    wpAny (model prog w) A (call (.type "enumerate") [v]) Q E s := by
  refine callType_new F.called_enumerate (by decide) (F.typeCall_enumerate_1 _) (F.newCall_enumerate_1 _) (fun _ => F.args_object_init_2 _ _) F.entry_enumerate_new (meetsEnum1 B) ⟨hP, ?_⟩
  have sz : (s.heap.push ob).objs.size = s.heap.objs.size + 1 := Heap.size_push ..
  show _ ∧ _
  rw [sz]
  have en : IsEnum ((s.heap.push ob).push { cls := .type "enumerate", data := .fields #[.none, .bool false, .ref s.heap.objs.size, rawInt 0, .none, .none] }) (s.heap.objs.size + 1) s.heap.objs.size 0 .none := by
    have z := Heap.get?_push_size (s.heap.push ob) (o := { cls := .type "enumerate", data := .fields #[.none, .bool false, .ref s.heap.objs.size, rawInt 0, .none, .none] }) rfl
    rwa [sz] at z
  exact ⟨⟨_, en, rfl⟩, q _ en (Heap.get?_push_of_some _ (Heap.get?_push_size _ B.free)) (by rw [Heap.size_push, sz]) fun b o z => Heap.get?_push_of_some _ (Heap.get?_push_of_some _ z)⟩
/-- the tuple at a as it stands, each item in a new pair -/
def IteT (K : PySem.W.Frag) (a : Addr) : It :=
  ⟨fun i H => ∃ (xs : List V) (x : V), SqT K H a xs ∧ xs[i]? = some x, fun i H v H' => ∃ t x, v = .ref t ∧ H t = none ∧ H' = upd H t (.tup [.int (i : Nat), x]) ∧ ∀ xs, SqT K H a xs → xs[i]? = some x, fun i H => ∃ xs : List V, SqT K H a xs ∧ xs.length ≤ i⟩
theorem turnEnumT {P : Program} {w : World} {K : PySem.W.Frag} {elts : List Expr} {kk : Nat} {tpos : Pos} (a e it : Addr) :
    Turn P w K (.Tuple elts kk tpos) (IteT K a) [e, it] e (fun i h => (∃ old, IsEnum h e it ((i : Nat) : Int) old) ∧ h.IsTupleIter it a i ∧ e ≠ it ∧ a ≠ it ∧ a ≠ e) where
  mem := List.mem_cons_self
  obj := fun i h st b hb => by
    obtain ⟨⟨old, he⟩, ⟨o, ho, _, hd⟩, _⟩ := st
    rcases List.mem_cons.mp hb with rfl | hb
    · exact ⟨_, he, fun v z => nomatch z⟩
    · rw [List.mem_singleton.mp hb]
      exact ⟨o, ho, fun v z => by rw [hd] at z; cases z⟩
  keep := fun i h h' st k => by
    obtain ⟨⟨old, he⟩, hi, n1⟩ := st
    exact ⟨⟨old, k e List.mem_cons_self _ he⟩, hi.at fun o z => k it (by simp) o z, n1⟩
  item := by
    intro X hP hw hK hc i pins s σ H E I hf st hg
    subst hP hw hK
    obtain ⟨⟨old, he⟩, hit, n1, n2, n3⟩ := st
    obtain ⟨xs, x, hq, hx⟩ := hg
    obtain ⟨its, rv, tp, hz⟩ := I.tuple hq
    obtain ⟨u, hu, ru⟩ := rv.get hx
    have le : e < s.heap.objs.size := Heap.lt_size he
    have li : it < s.heap.objs.size := by obtain ⟨_, z, _⟩ := hit; exact Heap.lt_size z
    have il : i < its.toArray.size := by
      have := (List.getElem?_eq_some_iff.mp hu).1
      simpa using this
    refine wpAny_pyNext_enum_itemD (Draws.tuple (A := X.A.in1) (show X.A.in1.handled = none from I.ok.hd hc) it a n2 its.toArray) he ⟨hit, tp⟩ il n1 (by simp [n1, Ne.symm n3]) fun y h' tk hy ho st' hT hsz hk => ?_
    have ey : y = u := by
      have hy' : its[i]? = some y := by simpa using hy
      rw [hu] at hy'; exact (Option.some.inj hy').symm
    subst ey
    refine ⟨_, rfl, wpAny_letOwnedTupleGo_enum (s := { s with heap := h', toks := tk + 1 }) ho fun h2 he2 sb => ?_⟩
    have hT2 : h2.get? s.heap.objs.size = some { cls := .type "tuple", data := .seq #[.int i tk, y] } := (sb.2 _ (Nat.ne_of_gt le)).trans hT
    have new : ObjOk X.prog X.w (upd H s.heap.objs.size (.tup [.int (i : Nat), x])) h2 s.heap.objs.size (.tup [.int (i : Nat), x]) := ⟨by show 2 ≤ sizeLine; decide, [.int i tk, y], .cons ⟨_, rfl⟩ (.cons ru .nil), ⟨_, hT2, rfl, _, rfl⟩⟩
    have I1 : Inv X pins σ (upd H s.heap.objs.size (.tup [.int (i : Nat), x])) { s with heap := h2, toks := tk + 1 } :=
      I.turnedNew (ch := [e, it]) (fun b ob hb z => (sb.2 b (fun w => hb (by simp [w]))).trans (hk b ob (fun w => hb (by simp [w])) (fun w => hb (by simp [w])) z)) hf (Nat.le_refl _) new
    refine ⟨.ref s.heap.objs.size, _, I1, rfl, ⟨_, x, rfl, I.hok.fresh (Nat.le_refl _), rfl, fun ys hy => by rw [I.tuple_inj hy hq]; exact hx⟩, ⟨⟨y, ?_⟩, st'.1.at fun o z => (sb.2 it (Ne.symm n1)).trans z, n1, n2, n3⟩, fun b hb => ?_⟩
    · rw [show ((i + 1 : Nat) : Int) = (i : Int) + 1 by omega]; exact he2
    · have lb : b < s.heap.objs.size := by
        rcases List.mem_cons.mp hb with rfl | hb
        · exact le
        · rw [List.mem_singleton.mp hb]; exact li
      rw [upd_ne (Nat.ne_of_lt lb)]
      exact (hf b hb).1
  done := by
    intro X hP hw hK hc i pins s σ H E I hf st hg
    subst hP hw hK
    obtain ⟨⟨old, he⟩, hit, n1, n2, n3⟩ := st
    obtain ⟨xs, hq, hx⟩ := hg
    obtain ⟨its, rv, tp, hz⟩ := I.tuple hq
    obtain ⟨f0, f1, f2, f3, f4, f5⟩ := hf it (by simp)
    have hl := rv.length
    have dr : Draws X.prog X.w X.A.in1 it [it, a] i (fun _ _ => True) (fun j h => j = i ∧ h.IsTupleIter it a i ∧ h.IsTuple a its.toArray) :=
      { live := fun _ _ z => let ⟨o, ho, _⟩ := z.2.1; ⟨o, ho⟩
        frame := fun _ _ _ z k => ⟨z.1, z.2.1.at fun o w => k it (by simp) o w, z.2.2.at fun o w => k a (by simp) o w⟩
        item := fun j _ _ _ hj z _ => absurd z.1 (Nat.ne_of_lt hj)
        done := fun s2 Q2 E2 z hE => wpAny_nextOf_tuple_end (show X.A.in1.handled = none from I.ok.hd hc) z.2.1 z.2.2 (by simp; omega) hE }
    exact wpAny_pyNext_enum_endD dr he ⟨rfl, hit, tp⟩ fun h' eb => ⟨rfl, I.turned (t' := s.toks) (fun b o hb z => eb b o hb z) f0 f1 f3 f4 f5⟩
  self := fun A i s Q E st h => let ⟨⟨_, he⟩, _⟩ := st; wpAny_pyIter_enum he h
def iEnumT (K : PySem.W.Frag) (ta : TA) : TI := fun σ H R => ta σ H fun vs H1 => ∃ a xs, vs = [.ref a] ∧ SqT K H1 a xs ∧ R (IteT K a) H1
theorem pi_enumT {X : Cx} {e : Expr} {ta : TA} {p pos tpos : Pos} {elts : List Expr} {kk : Nat} (hg : Gl X "enumerate") (hm : X.mg "enumerate" = none) (ha : PA X [e] ta) (hs : starEach [e] X.env = [(false, eval e X.env)] := by rfl) :
    PI X (.Tuple elts kk tpos) (.Call (.Name "enumerate" p) [e] [] pos) (iEnumT X.K ta) := by
  refine ⟨fun pins s σ H R I h => ?_⟩
  refine Call_ (ld_blt I hg hm boot_enumerate (PyProof.Rows.callWith_type1 (thn (ha.run pos pins s σ H _ I h) fun us s1 z => ?_) hs rfl))
  obtain ⟨vs, H1, I1, r1, a, xs, ex, hq, q⟩ := z
  subst ex
  cases r1 with
  | cons r rr =>
    cases rr
    cases r
    obtain ⟨its, rv, tp, hz⟩ := I1.tuple hq
    refine callEnum1 (begins_tuple a its.toArray) tp fun h' he hit hsz hk => wpAny_pyIter_enum he ?_
    have I2 : Inv X pins σ H1 { s1 with heap := h' } := I1.kept (t' := s1.toks) hk
    have la : a < s1.heap.objs.size := by obtain ⟨_, z, _⟩ := tp; exact Heap.lt_size z
    refine ⟨s1.heap.objs.size + 1, [s1.heap.objs.size + 1, s1.heap.objs.size], _, _, H1, rfl, I2, turnEnumT a (s1.heap.objs.size + 1) s1.heap.objs.size, ⟨⟨.none, he⟩, ⟨_, hit, rfl, rfl⟩, Nat.succ_ne_self _, Nat.ne_of_lt la, Nat.ne_of_lt (Nat.lt_succ_of_lt la)⟩, fun b hb => ?_, q⟩
    have hle : s1.heap.objs.size ≤ b := by
      rcases List.mem_cons.mp hb with rfl | hb
      · omega
      · rw [List.mem_singleton.mp hb]; exact Nat.le_refl _
    exact I1.fpOk hle (I1.hok.fresh hle)
/-! ### in the layer -/
def enumL (xs : List D) : List D := xs.zipIdx.map fun p => .tup [.int (p.2 : Nat), p.1]
theorem enumL_get {xs : List D} {i : Nat} : (enumL xs)[i]? = (xs[i]?).map fun x => .tup [.int (i : Nat), x] := by
  unfold enumL
  rw [List.getElem?_map, List.getElem?_zipIdx]
  cases xs[i]? with
  | none => rfl
  | some x => simp
theorem enumL_len {xs : List D} : (enumL xs).length = xs.length := by unfold enumL; simp
def iEn (m : M (List Vl)) : M (List D) := fun ρ => (m ρ).bind fun p => match p.1 with
  | [r] => (frz p.2 r).bind fun q => match q.1 with
    | .lst xs => some (enumL xs, q.2)
    | .tup xs => some (enumL xs, q.2)
    | _ => none
  | _ => none
theorem jr_enT {K : PySem.W.Frag} {F : Hp} {a : Addr} {vs : List V} {xs : List D} (h : SqT K F a vs) (r : Reps K F vs xs) : JR K (IteT K a) F (enumL xs) where
  go := fun i H s hi => ⟨vs, vs[i]'(by rw [r.len]; rw [enumL_len] at hi; exact hi), same_t s h, List.getElem?_eq_getElem _⟩
  yl := fun i H F1 x H' hi s1 s2 y => by
    obtain ⟨t, z, rfl, hn, rfl, y⟩ := y
    have e := y vs (same_t s2 (same_t s1 h))
    obtain ⟨d, h1, h2⟩ := r.get e
    have A := Alc.new (o := HO.tup [.int (i : Nat), z]) s2 hn
    exact ⟨_, _, A, by rw [enumL_get, h1]; rfl, .tup (SqT.of upd_same) (.cons (.int _) (.cons (h2.mono (s1.trans A.ff)) .nil))⟩
  st := fun i H s hi => ⟨vs, same_t s h, by rw [r.len]; rw [enumL_len] at hi; exact hi⟩
theorem jr_enL {K : PySem.W.Frag} {F : Hp} {a : Addr} {vs : List V} {xs : List D} (h : SqL K F a vs) (r : Reps K F vs xs) : JR K (Ite K a) F (enumL xs) where
  go := fun i H s hi => ⟨vs, vs[i]'(by rw [r.len]; rw [enumL_len] at hi; exact hi), s.seq h, List.getElem?_eq_getElem _⟩
  yl := fun i H F1 x H' hi s1 s2 y => by
    obtain ⟨t, z, rfl, hn, rfl, y⟩ := y
    have e := y vs (s2.seq (s1.seq h))
    obtain ⟨d, h1, h2⟩ := r.get e
    have A := Alc.new (o := HO.tup [.int (i : Nat), z]) s2 hn
    exact ⟨_, _, A, by rw [enumL_get, h1]; rfl, .tup (SqT.of upd_same) (.cons (.int _) (.cons (h2.mono (s1.trans A.ff)) .nil))⟩
  st := fun i H s hi => ⟨vs, s.seq h, by rw [r.len]; rw [enumL_len] at hi; exact hi⟩
theorem si_enum {X : Cx} {e : Expr} {ms : M (List Vl)} {p pos tpos : Pos} {elts : List Expr} {kk : Nat} (hm : X.mg "enumerate" = none) (hg : Gl X "enumerate") (ha : SA X [e] ms) (hs : starEach [e] X.env = [(false, eval e X.env)] := by rfl) :
    SI X (.Tuple elts kk tpos) (.Call (.Name "enumerate" p) [e] [] pos) (iEn ms) := by
  refine pi_weak (pi_or (pi_enum hg hm ha hs) (pi_enumT hg hm ha hs)) fun σ H R ⟨G, ρ, F, xs, ρ', W, hm, q⟩ => ?_
  unfold iEn at hm
  obtain ⟨⟨rs, ρ1⟩, e1, hm⟩ := Option.bind_eq_some_iff.mp hm
  split at hm
  · rename_i r hr
    dsimp only at hr
    subst hr
    obtain ⟨⟨x, ρ2⟩, e2, hm⟩ := Option.bind_eq_some_iff.mp hm
    split at hm
    · rename_i zs hz
      dsimp only at hz
      subst hz
      cases hm
      refine .inl ⟨G, ρ, F, [r], ρ1, W, e1, fun vs H1 F1 s1 R1 => ?_⟩
      obtain ⟨v, rfl, Rv⟩ : ∃ v, vs = [v] ∧ VlS X.K σ F1 v r := by
        match vs, R1 with
        | [v], z => exact ⟨v, rfl, z.1⟩
      obtain ⟨F2, s2, R2⟩ := frz_ok s1.wd Rv e2
      cases R2 with
      | lst h1 h2 => exact ⟨_, _, rfl, SqL.of (s2.wd.sub _ _ h1), q _ _ F2 (s1.trans s2) (jr_enL (SqL.of h1) h2)⟩
    · rename_i zs hz
      dsimp only at hz
      subst hz
      cases hm
      refine .inr ⟨G, ρ, F, [r], ρ1, W, e1, fun vs H1 F1 s1 R1 => ?_⟩
      obtain ⟨v, rfl, Rv⟩ : ∃ v, vs = [v] ∧ VlS X.K σ F1 v r := by
        match vs, R1 with
        | [v], z => exact ⟨v, rfl, z.1⟩
      obtain ⟨F2, s2, R2⟩ := frz_ok s1.wd Rv e2
      cases R2 with
      | tup h1 h2 => exact ⟨_, _, rfl, same_t s2.wd.sub h1, q _ _ F2 (s1.trans s2) (jr_enT h1 h2)⟩
    · cases hm
  · cases hm
end Sw
/-! Sw20: xs.index(y) of a list of flat things. -/
namespace Sw
open PySem PySem.Spec PyProof.Rows L2
section
variable {X : Cx} {o e : Expr} {es : List Expr} {mo : M Vl} {ms : M (List Vl)} {K : PySem.W.Frag}
/-- a method of a list that changes nothing -/
def lstQ : D → Bool
  | .lst _ => true
  | _ => false
def eMetL (f : D → List D → Option D) (o : M Vl) (a : M (List Vl)) : M Vl := fun ρ => (o ρ).bind fun p => (look p.2 (stl p.1)).bind fun x0 => if lstQ x0 = true then (a p.2).bind fun q => (look q.2 (stl p.1)).bind fun x => (looks q.2 q.1).bind fun xs => (f x xs).bind fun z => some (.fz z, q.2) else none
theorem tmetL_of {r : V → List V → Hp → VK → Prop} {f : D → List D → Option D} (hf : MetS K r f) {σ : L2.St} {H : Hp} {Q : VK} (h : tM K (eMetL f mo ms) σ H Q) :
    tM K mo σ H fun x H1 => tyV K "list" x H1 ∧ tMA K ms σ H1 fun xs H2 => r x xs H2 Q := by
  obtain ⟨G, ρ, F, r0, ρ', W, hm, q⟩ := h
  unfold eMetL at hm
  obtain ⟨⟨x, ρ1⟩, e1, hm⟩ := Option.bind_eq_some_iff.mp hm
  obtain ⟨x0, e0, hm⟩ := Option.bind_eq_some_iff.mp hm
  split at hm
  · rename_i hx0
    obtain ⟨⟨y, ρ2⟩, e2, hm⟩ := Option.bind_eq_some_iff.mp hm
    obtain ⟨dx, e3, hm⟩ := Option.bind_eq_some_iff.mp hm
    obtain ⟨dxs, e4, hm⟩ := Option.bind_eq_some_iff.mp hm
    obtain ⟨dz, e5, hm⟩ := Option.bind_eq_some_iff.mp hm
    cases hm
    refine tm_use W e1 fun v H1 F1 s1 R1 => ⟨?_, G, ρ1, F1, y, ρ2, s1.wd, e2, fun vs H2 F2 s2 R2 => ?_⟩
    · have hv := vw_of s1.wd R1 e0
      cases x0 <;> first | cases hx0 | skip
      obtain ⟨a, us, rfl, h1, h2⟩ := hv
      exact .inl ⟨rfl, _, SqL.of h1⟩
    · refine hf H2 F2 v vs dx dxs dz s2.wd.sub (vw_of s2.wd (R1.ste s2) e3) (vws_of s2.wd R2 e4) e5 Q fun w H' F' A R => ?_
      exact q w H' F' ((s1.trans s2).trans (s2.wd.alc A)) R
  · cases hm
def fIdx : D → List D → Option D
  | .lst xs, [y] => if (flatD y && xs.all flatD) = true then (xs.findIdx? fun x => eqF x y).bind fun j => some (.int (j : Nat)) else none
  | _, _ => none
theorem all_flat {F : Hp} : ∀ {vs : List V} {xs : List D}, Reps K F vs xs → xs.all flatD = true → vs.all flatV = true
  | _, _, .nil, _ => rfl
  | _, _, .cons r t, h => by
    rw [List.all_cons, Bool.and_eq_true] at h ⊢
    exact ⟨flat_rep r h.1, all_flat t h.2⟩
theorem ms_idx : MetS K (rIndex K) fIdx := by
  intro H F v vs x xs z s hx hxs e Q q
  unfold fIdx at e
  split at e
  · rename_i l y
    split at e
    · rename_i hc
      rw [Bool.and_eq_true] at hc
      obtain ⟨j, e1, e⟩ := Option.bind_eq_some_iff.mp e
      cases e
      obtain ⟨a, us, rfl, h1, h2⟩ := hx
      obtain ⟨u, rfl, hu⟩ := vws1 hxs
      have ry := vw_flat hu hc.1
      obtain ⟨hj, hp, hmin⟩ := List.findIdx?_eq_some_iff_getElem.mp e1
      have hju : j < us.length := by rw [h2.len]; exact hj
      obtain ⟨d, hd, rd⟩ := h2.get (List.getElem?_eq_getElem hju)
      rw [List.getElem?_eq_getElem hj] at hd
      cases hd
      have fl : ∀ k (hk : k < l.length), flatD l[k] = true := fun k hk => List.all_eq_true.mp hc.2 _ (List.getElem_mem hk)
      refine ⟨a, us, u, j, us[j], rfl, rfl, SqL.of h1, flat_rep ry hc.1, all_flat h2 hc.2, List.getElem?_eq_getElem hju, by rw [eqF_rep rd ry (fl j hj) hc.1]; exact hp, fun m w hm hw => ?_, q _ H F (Alc.refl s) (.int _)⟩
      have hml : m < l.length := Nat.lt_trans hm hj
      obtain ⟨d2, hd2, rd2⟩ := h2.get hw
      rw [List.getElem?_eq_getElem hml] at hd2
      cases hd2
      rw [eqF_rep rd2 ry (fl m hml) hc.1]
      have := hmin m hm
      simpa using this
    · cases e
  · cases e
theorem se_index {apos cpos : Pos} (ho : SE X o mo) (ha : SA X [e] ms)
    (hbase : attributeBase o "index" X.env (eval o X.env) = eval o X.env := by rfl)
    (hfew : ((backTo cpos (starEach [e] X.env)).all (fun x => !x.1) && (backToKw cpos (keywordEach [] X.env)).all (fun x => x.1.isSome)
      && decide ([e].length + ([] : List Keyword).length + (if ([] : List Keyword).isEmpty then 0 else 1) < 30)) = true := by rfl)
    (hline : (apos.endLine == cpos.line) = true := by rfl) (hs : starEach [e] X.env = (false, eval e X.env) :: starEach [] X.env := by rfl) (hplain : (backTo cpos (starEach [] X.env)).any (·.1) = false := by rfl) :
    SE X (.Call (.Attribute o "index" apos) [e] [] cpos) (eMetL fIdx mo ms) :=
  pe_weak (pe_bm PySem.F.plainAttrs_list PySem.F.slot_list_index PySem.F.type_list_index mt_index ho ha hbase hfew hline hs hplain) fun _ _ _ h => tmetL_of ms_idx h
end
end Sw
/-! Sw21: slices of tuples; xs + ys of lists is a new list. -/
namespace Sw
open PySem PySem.Spec PyProof.Rows L2
section
variable {X : Cx} {a b e : Expr} {ma mb me : M Vl} {pos : Pos} {K : PySem.W.Frag}
/-- a part of a tuple that is not the whole one -/
def fSlT : D → Option Int → Option Int → Option D
  | .tup s, lo, hi => if HT.sIx s.length 0 lo ≠ 0 ∨ HT.sIx s.length s.length hi ≠ s.length then some (.tup (cutL s lo hi)) else none
  | _, _, _ => none
theorem sls_tup : SlS K (rSlT K) fSlT := by
  intro H F v x z lo hi s hx e Q q
  unfold fSlT at e
  split at e
  · split at e
    · rename_i hc
      cases e
      cases (show Rep K F v (.tup _) from hx) with
      | @tup a vs _ h1 h2 =>
        refine ⟨a, vs, rfl, same_t s h1, ?_, fun p hp => ?_⟩
        · rw [h2.len]; rintro ⟨z1, z2⟩; rcases hc with hc | hc
          · exact hc z1
          · exact hc z2
        · have A := Alc.new (o := HO.tup (cutV vs lo hi)) s hp
          exact q _ _ _ A (.tup (SqT.of upd_same) ((cutV_reps h2).mono A.ff))
    · cases e
  · cases e
def fSlA : D → Option Int → Option Int → Option D := orSl (orSl fSlL fSlS) fSlT
theorem oSlA : ∃ r, L2.SlR X r ∧ SlS X.K r fSlA := ⟨_, (sl_list.or sl_str).or sl_tup, (sls_list.or sls_str).or sls_tup⟩
theorem se_slcA {lo hi : Option Expr} {ml mu : M (Option Int)} {p2 : Pos} (he : SE X e me) (hl : SO X lo ml) (hu : SO X hi mu) : SE X (.Subscript e (.Slice lo hi none p2) pos) (eSl fSlA me ml mu) := by
  obtain ⟨r, h1, h2⟩ := oSlA (X := X)
  exact se_sl h1 h2 he hl hu
theorem giv_A {x : D} {l u : Option Int} {Q : D → Prop} (h : Giv (fSl x l u) Q) : Giv (fSlA x l u) Q := by
  obtain ⟨z, h, q⟩ := h
  refine ⟨z, ?_, q⟩
  show (match fSl x l u with | some z => some z | none => fSlT x l u) = _
  rw [h]
theorem giv_tA {xs : List D} {l u : Option Int} {Q : D → Prop} (hc : HT.sIx xs.length 0 l ≠ 0 ∨ HT.sIx xs.length xs.length u ≠ xs.length) (q : Q (.tup (cutL xs l u))) : Giv (fSlA (.tup xs) l u) Q := by
  refine ⟨_, ?_, q⟩
  show (if HT.sIx xs.length 0 l ≠ 0 ∨ HT.sIx xs.length xs.length u ≠ xs.length then some (D.tup (cutL xs l u)) else none) = _
  rw [if_pos hc]
theorem giv_sldT {xs : List D} {r : Int} {Q : D → Prop} (h : 0 < r) (h2 : 0 < xs.length) (q : Q (.tup (xs.drop r.toNat))) : Giv (fSlA (.tup xs) (some r) none) Q := by
  refine giv_tA (.inl ?_) (by rw [cut_drop (by omega)]; exact q)
  rw [sIx_ge (by omega)]; omega
theorem giv_sltT {xs : List D} {r : Int} {Q : D → Prop} (h : 0 ≤ r) (h2 : r < xs.length) (q : Q (.tup (xs.take r.toNat))) : Giv (fSlA (.tup xs) none (some r)) Q := by
  refine giv_tA (.inr ?_) (by rw [cut_take h]; exact q)
  rw [sIx_ge h]; omega
/-! ### a + b -/
def addV (x y : D) : Option Vl := match x, y with
  | .lst xs, .lst ys => if xs.length + ys.length ≤ lim then some (.fr (xs ++ ys)) else none
  | x, y => (fAdd x y).bind fun z => some (.fz z)
def eAdd (a b : M Vl) : M Vl := fun ρ => (a ρ).bind fun p => (b p.2).bind fun q => (look q.2 (stl p.1)).bind fun x => (look q.2 (stl q.1)).bind fun y => (addV x y).bind fun z => some (z, q.2)
theorem addV_cases {x y : D} {z : Vl} (h : addV x y = some z) : (∃ xs ys, x = .lst xs ∧ y = .lst ys ∧ xs.length + ys.length ≤ lim ∧ z = .fr (xs ++ ys)) ∨ ∃ w, fAdd x y = some w ∧ z = .fz w := by
  unfold addV at h
  split at h
  · split at h
    · rename_i hl; cases h; exact .inl ⟨_, _, rfl, rfl, hl, rfl⟩
    · cases h
  · obtain ⟨w, e1, e2⟩ := Option.bind_eq_some_iff.mp h
    cases e2
    exact .inr ⟨w, e1, rfl⟩
theorem se_add (ha : SE X a ma) (hb : SE X b mb) : SE X (.BinOp a .Add b pos) (eAdd ma mb) := by
  obtain ⟨r, h1, h2⟩ := oAdd (X := X)
  refine pe_weak (pe_op (op_cat.or h1) ha hb) fun σ H Q ⟨G, ρ, F, r0, ρ', W, hm, q⟩ => ?_
  unfold eAdd at hm
  obtain ⟨⟨x, ρ1⟩, e1, hm⟩ := Option.bind_eq_some_iff.mp hm
  obtain ⟨⟨y, ρ2⟩, e2, hm⟩ := Option.bind_eq_some_iff.mp hm
  obtain ⟨dx, e3, hm⟩ := Option.bind_eq_some_iff.mp hm
  obtain ⟨dy, e4, hm⟩ := Option.bind_eq_some_iff.mp hm
  obtain ⟨dz, e5, hm⟩ := Option.bind_eq_some_iff.mp hm
  cases hm
  refine tm_use W e1 fun v H1 F1 s1 R1 => ?_
  refine tm_use s1.wd e2 fun u H2 F2 s2 R2 => ?_
  have V1 := vw_of s2.wd (R1.ste s2) e3
  have V2 := vw_of s2.wd R2 e4
  have s12 := s1.trans s2
  rcases addV_cases e5 with ⟨xs, ys, rfl, rfl, hl, rfl⟩ | ⟨w, ew, rfl⟩
  · obtain ⟨c, vs, rfl, g1, g2⟩ := V1
    obtain ⟨d, us, rfl, g3, g4⟩ := V2
    refine .inl ⟨c, d, vs, us, rfl, rfl, g1, g3, lim_of (by rw [g2.len, g4.len]; exact hl), fun p hp => ?_⟩
    have A : Alc F2 H2 F2 (upd H2 p (.lst (vs ++ us))) := ⟨Same.refl _, s2.wd.sub.trans (same_upd hp), same_upd hp, fun _ h => .inl h⟩
    refine q _ _ _ (s12.trans (s2.wd.alc A)) ⟨p, vs ++ us, rfl, upd_same, g2.append g4, s2.wd.sub.free hp, s12.back p hp, fun i o => ?_⟩
    obtain ⟨_, z, _⟩ := s12.wd.ow_there o
    rw [hp] at z; cases z
  · refine .inr (h2 H2 F2 v u dx dy w s2.wd.sub V1 V2 ew Q fun w' H' F' A R => ?_)
    exact q w' H' F' (s12.trans (s2.wd.alc A)) R
/-! rules -/
def Add2 (x y : D) (P : Vl → Prop) : Prop := ∃ z, addV x y = some z ∧ P z
theorem ev_add {ρ : Rho} {m1 m2 : M Vl} {Q : Vl → Rho → Prop} (h : Ev m1 ρ fun r ρ1 => Ev m2 ρ1 fun r2 ρ2 => See2 ρ2 r r2 fun x y => Add2 x y fun v => Q v ρ2) : Ev (eAdd m1 m2) ρ Q := by
  obtain ⟨r, ρ1, e1, r2, ρ2, e2, x, y, e3, e4, z, e5, q⟩ := h
  refine ⟨_, ρ2, ?_, q⟩
  show (m1 ρ).bind _ = _
  rw [e1]
  simp only [Option.bind_some, e2, e3, e4, e5]
theorem add2_i {i j : Int} {P : Vl → Prop} (q : P (.fz (.int (i + j)))) : Add2 (.int i) (.int j) P := ⟨_, rfl, q⟩
theorem add2_s {s t : List Nat} {P : Vl → Prop} (h : s.length + t.length ≤ lim) (q : P (.fz (.str (s ++ t)))) : Add2 (.str s) (.str t) P := by
  refine ⟨_, ?_, q⟩
  show (fAdd (.str s) (.str t)).bind _ = _
  rw [r_add2, if_pos h]; rfl
theorem add2_l {xs ys : List D} {P : Vl → Prop} (h : xs.length + ys.length ≤ lim) (q : P (.fr (xs ++ ys))) : Add2 (.lst xs) (.lst ys) P := by
  refine ⟨_, ?_, q⟩
  show (if _ then _ else _) = _
  rw [if_pos h]
theorem add2_t {xs ys : List D} {P : Vl → Prop} (h : xs.length + ys.length ≤ lim) (q : P (.fz (.tup (xs ++ ys)))) : Add2 (.tup xs) (.tup ys) P := by
  refine ⟨_, ?_, q⟩
  have e : fAdd (.tup xs) (.tup ys) = some (.tup (xs ++ ys)) := by
    show (if xs.length + ys.length ≤ lim then some (D.tup (xs ++ ys)) else none) = _
    rw [if_pos h]
  show (fAdd (.tup xs) (.tup ys)).bind _ = _
  rw [e]; rfl
end
end Sw
/-! Sw22: isinstance of data, told. -/
namespace Sw
open L2
theorem q_isi_tuple_non : fIsi "tuple" .non = some (.bl false) := by unfold fIsi; rw [show kitB (tyN .non) "tuple" = some false by show kitB "NoneType" "tuple" = _; decide +kernel]; rfl
theorem q_isi_tuple_bl {b : Bool} : fIsi "tuple" (.bl b) = some (.bl false) := by unfold fIsi; rw [show kitB (tyN (.bl b)) "tuple" = some false by show kitB "bool" "tuple" = _; decide +kernel]; rfl
theorem q_isi_tuple_int {i : Int} : fIsi "tuple" (.int i) = some (.bl false) := by unfold fIsi; rw [show kitB (tyN (.int i)) "tuple" = some false by show kitB "int" "tuple" = _; decide +kernel]; rfl
theorem q_isi_tuple_str {s : List Nat} : fIsi "tuple" (.str s) = some (.bl false) := by unfold fIsi; rw [show kitB (tyN (.str s)) "tuple" = some false by show kitB "str" "tuple" = _; decide +kernel]; rfl
theorem q_isi_tuple_lst {l : List D} : fIsi "tuple" (.lst l) = some (.bl false) := by unfold fIsi; rw [show kitB (tyN (.lst l)) "tuple" = some false by show kitB "list" "tuple" = _; decide +kernel]; rfl
theorem q_isi_tuple_tup {l : List D} : fIsi "tuple" (.tup l) = some (.bl true) := by unfold fIsi; rw [show kitB (tyN (.tup l)) "tuple" = some true by show kitB "tuple" "tuple" = _; decide +kernel]; rfl
theorem q_isi_list_non : fIsi "list" .non = some (.bl false) := by unfold fIsi; rw [show kitB (tyN .non) "list" = some false by show kitB "NoneType" "list" = _; decide +kernel]; rfl
theorem q_isi_list_bl {b : Bool} : fIsi "list" (.bl b) = some (.bl false) := by unfold fIsi; rw [show kitB (tyN (.bl b)) "list" = some false by show kitB "bool" "list" = _; decide +kernel]; rfl
theorem q_isi_list_int {i : Int} : fIsi "list" (.int i) = some (.bl false) := by unfold fIsi; rw [show kitB (tyN (.int i)) "list" = some false by show kitB "int" "list" = _; decide +kernel]; rfl
theorem q_isi_list_str {s : List Nat} : fIsi "list" (.str s) = some (.bl false) := by unfold fIsi; rw [show kitB (tyN (.str s)) "list" = some false by show kitB "str" "list" = _; decide +kernel]; rfl
theorem q_isi_list_lst {l : List D} : fIsi "list" (.lst l) = some (.bl true) := by unfold fIsi; rw [show kitB (tyN (.lst l)) "list" = some true by show kitB "list" "list" = _; decide +kernel]; rfl
theorem q_isi_list_tup {l : List D} : fIsi "list" (.tup l) = some (.bl false) := by unfold fIsi; rw [show kitB (tyN (.tup l)) "list" = some false by show kitB "tuple" "list" = _; decide +kernel]; rfl
theorem q_isi_str_non : fIsi "str" .non = some (.bl false) := by unfold fIsi; rw [show kitB (tyN .non) "str" = some false by show kitB "NoneType" "str" = _; decide +kernel]; rfl
theorem q_isi_str_bl {b : Bool} : fIsi "str" (.bl b) = some (.bl false) := by unfold fIsi; rw [show kitB (tyN (.bl b)) "str" = some false by show kitB "bool" "str" = _; decide +kernel]; rfl
theorem q_isi_str_int {i : Int} : fIsi "str" (.int i) = some (.bl false) := by unfold fIsi; rw [show kitB (tyN (.int i)) "str" = some false by show kitB "int" "str" = _; decide +kernel]; rfl
theorem q_isi_str_str {s : List Nat} : fIsi "str" (.str s) = some (.bl true) := by unfold fIsi; rw [show kitB (tyN (.str s)) "str" = some true by show kitB "str" "str" = _; decide +kernel]; rfl
theorem q_isi_str_lst {l : List D} : fIsi "str" (.lst l) = some (.bl false) := by unfold fIsi; rw [show kitB (tyN (.lst l)) "str" = some false by show kitB "list" "str" = _; decide +kernel]; rfl
theorem q_isi_str_tup {l : List D} : fIsi "str" (.tup l) = some (.bl false) := by unfold fIsi; rw [show kitB (tyN (.tup l)) "str" = some false by show kitB "tuple" "str" = _; decide +kernel]; rfl
theorem q_isi_int_non : fIsi "int" .non = some (.bl false) := by unfold fIsi; rw [show kitB (tyN .non) "int" = some false by show kitB "NoneType" "int" = _; decide +kernel]; rfl
theorem q_isi_int_bl {b : Bool} : fIsi "int" (.bl b) = some (.bl true) := by unfold fIsi; rw [show kitB (tyN (.bl b)) "int" = some true by show kitB "bool" "int" = _; decide +kernel]; rfl
theorem q_isi_int_int {i : Int} : fIsi "int" (.int i) = some (.bl true) := by unfold fIsi; rw [show kitB (tyN (.int i)) "int" = some true by show kitB "int" "int" = _; decide +kernel]; rfl
theorem q_isi_int_str {s : List Nat} : fIsi "int" (.str s) = some (.bl false) := by unfold fIsi; rw [show kitB (tyN (.str s)) "int" = some false by show kitB "str" "int" = _; decide +kernel]; rfl
theorem q_isi_int_lst {l : List D} : fIsi "int" (.lst l) = some (.bl false) := by unfold fIsi; rw [show kitB (tyN (.lst l)) "int" = some false by show kitB "list" "int" = _; decide +kernel]; rfl
theorem q_isi_int_tup {l : List D} : fIsi "int" (.tup l) = some (.bl false) := by unfold fIsi; rw [show kitB (tyN (.tup l)) "int" = some false by show kitB "tuple" "int" = _; decide +kernel]; rfl
theorem q_isi_bool_non : fIsi "bool" .non = some (.bl false) := by unfold fIsi; rw [show kitB (tyN .non) "bool" = some false by show kitB "NoneType" "bool" = _; decide +kernel]; rfl
theorem q_isi_bool_bl {b : Bool} : fIsi "bool" (.bl b) = some (.bl true) := by unfold fIsi; rw [show kitB (tyN (.bl b)) "bool" = some true by show kitB "bool" "bool" = _; decide +kernel]; rfl
theorem q_isi_bool_int {i : Int} : fIsi "bool" (.int i) = some (.bl false) := by unfold fIsi; rw [show kitB (tyN (.int i)) "bool" = some false by show kitB "int" "bool" = _; decide +kernel]; rfl
theorem q_isi_bool_str {s : List Nat} : fIsi "bool" (.str s) = some (.bl false) := by unfold fIsi; rw [show kitB (tyN (.str s)) "bool" = some false by show kitB "str" "bool" = _; decide +kernel]; rfl
theorem q_isi_bool_lst {l : List D} : fIsi "bool" (.lst l) = some (.bl false) := by unfold fIsi; rw [show kitB (tyN (.lst l)) "bool" = some false by show kitB "list" "bool" = _; decide +kernel]; rfl
theorem q_isi_bool_tup {l : List D} : fIsi "bool" (.tup l) = some (.bl false) := by unfold fIsi; rw [show kitB (tyN (.tup l)) "bool" = some false by show kitB "tuple" "bool" = _; decide +kernel]; rfl
end Sw
/-! Sw23: instances that do not change: made, their attributes read. -/
namespace Sw
open PySem PySem.Spec PyProof.Rows L2

/-! ### o.f -/
def fAt (c f : PySem.Str) : D → Option D
  | .obj c' ks xs => if c' = c then (ks.zip xs).lookup f else none
  | _ => none
theorem Reps.lookup {K : PySem.W.Frag} {F : Hp} {f : PySem.Str} : ∀ {ks : List PySem.Str} {vs : List V} {xs : List D} {d : D}, Reps K F vs xs → (ks.zip xs).lookup f = some d → ∃ v, (ks.zip vs).lookup f = some v ∧ Rep K F v d
  | [], _, _, _, _, h => by simp at h
  | k :: ks, _, _, _, .nil, h => by simp at h
  | k :: ks, _, _, d, .cons (v := v) (d := x) (vs := vs) (ds := xs) r t, h => by
    rw [List.zip_cons_cons, List.lookup_cons] at h ⊢
    cases e : f == k with
    | true => rw [e] at h; cases h; exact ⟨v, rfl, r⟩
    | false => rw [e] at h; exact Reps.lookup t h
section
variable {X : Cx} {e : Expr} {me : M Vl} {pos p : Pos} {es : List Expr} {ms : M (List Vl)}
theorem se_fld {c f : PySem.Str} {C : Addr} (hC : ClsN X.K c C) (cl : Cls X.K C) (na : NoAttr X.K C f) (he : SE X e me) (hb : attributeBase e f X.env (eval e X.env) = eval e X.env) : SE X (.Attribute e f pos) (eUn (fAt c f) me) := by
  refine pe_weak (pe_fld he hb) fun σ H Q ⟨G, ρ, F, r0, ρ', W, hm, q⟩ => ?_
  unfold eUn at hm
  obtain ⟨⟨x, ρ1⟩, e1, hm⟩ := Option.bind_eq_some_iff.mp hm
  obtain ⟨dx, e3, hm⟩ := Option.bind_eq_some_iff.mp hm
  obtain ⟨dz, e5, hm⟩ := Option.bind_eq_some_iff.mp hm
  cases hm
  refine tm_use W e1 fun v H1 F1 s1 R1 => ?_
  have hv := vw_of s1.wd R1 e3
  cases dx with
  | obj c' ks xs =>
    cases (show Rep X.K F1 v (.obj c' ks xs) from hv) with
    | obj h1 h2 h3 h4 =>
      have e6 : (if c' = c then (ks.zip xs).lookup f else none) = some dz := e5
      split at e6
      · rename_i ec
        subst ec
        obtain ⟨w, l1, l2⟩ := h4.lookup e6
        have := hC.uniq h1
        subst this
        exact ⟨_, _, _, _, w, rfl, s1.wd.sub _ _ h2, cl, na, l1, q _ H1 F1 s1 l2⟩
      · cases e6
  | _ => cases e5
end
/-! ### C(..) -/
def eMake (c : PySem.Str) (g : List D → Option (List PySem.Str × List D)) (ms : M (List Vl)) : M Vl := fun ρ => (ms ρ).bind fun p => (frzs p.2 p.1).bind fun q => (g q.1).bind fun z => some (.fz (.obj c z.1 z.2), q.2)
/-- the promise of an __init__ that stores the attributes ks with the values xs -/
def spI (K : PySem.W.Frag) (C : Addr) (n : Nat) (g : List D → Option (List PySem.Str × List D)) : Sp := fun vs H Q _ => vs.length = n + 1 ∧ ∃ (F : Hp) (x dx : Addr) (us : List V) (ds : List D) (ks : List PySem.Str) (xs : List D),
  vs = .ref x :: us ∧ Same F H ∧ F x = none ∧ H x = some (.ins C dx []) ∧ Reps K F us ds ∧ g ds = some (ks, xs) ∧ ∀ H' F' ws, Same F F' → Same F' H' → (∀ b o, H b = some o → b ≠ x → H' b = some o) → (∀ b, F' b ≠ none → F b ≠ none ∨ H b = none) →
    F' x = none → H' x = some (.ins C dx (ks.zip ws)) → ws.length = ks.length → Reps K F' ws xs → Q .non H'
section
variable {X : Cx} {e : Expr} {pos p : Pos} {es : List Expr} {ms : M (List Vl)} {c x : PySem.Str} {C fi : Addr} {fd : FuncData} {ps : List Str} {n k : Nat} {g : List D → Option (List PySem.Str × List D)}
theorem tmake_of {K : PySem.W.Frag} {E : XK} (hC : ClsN K c C) (hn : ∀ ds z, g ds = some z → ds.length = n) {σ : L2.St} {H : Hp} {Q : VK} (h : tM K (eMake c g ms) σ H Q) : tMake C (spI K C n g) [] E (tMA K ms) σ H Q := by
  obtain ⟨G, ρ, F, r0, ρ', W, hm, q⟩ := h
  unfold eMake at hm
  obtain ⟨⟨rs, ρ1⟩, e1, hm⟩ := Option.bind_eq_some_iff.mp hm
  obtain ⟨⟨ds, ρ2⟩, e2, hm⟩ := Option.bind_eq_some_iff.mp hm
  obtain ⟨⟨ks, xs⟩, e3, hm⟩ := Option.bind_eq_some_iff.mp hm
  cases hm
  refine ⟨G, ρ, F, rs, ρ1, W, e1, fun vs H1 F1 s1 R1 => ?_⟩
  obtain ⟨F2, s2, R2⟩ := frzs_ok s1.wd R1 e2
  intro y dy hy hdy hne
  rw [List.append_nil]
  have sub2 := s2.wd.sub
  have fy : F2 y = none := sub2.free hy
  have k1 : ∀ b o, H1 b = some o → upd (upd H1 dy (.own y)) y (.ins C dy []) b = some o := fun b o hb => by
    have n1 : b ≠ y := fun z => by rw [z, hy] at hb; cases hb
    have n2 : b ≠ dy := fun z => by rw [z, hdy] at hb; cases hb
    rw [upd_ne n1, upd_ne n2]; exact hb
  refine ⟨by rw [List.length_cons, R2.len, hn _ _ e3], F2, y, dy, vs, ds, ks, xs, rfl, fun b o hb => k1 b o (sub2 _ _ hb), fy, upd_same, R2, e3, fun H' F' ws ff sub kp nf fy' hx hl R => ⟨rfl, ?_⟩⟩
  have A : Alc F2 H1 (upd F' y (.ins C dy (ks.zip ws))) H' := by
    refine ⟨fun b o hb => ?_, fun b o hb => ?_, fun b o hb => ?_, fun b hb => ?_⟩
    · have : b ≠ y := fun z => by rw [z, fy] at hb; cases hb
      rw [upd_ne this]; exact ff _ _ hb
    · by_cases z : b = y
      · subst z; rw [upd_same] at hb; cases hb; exact hx
      · rw [upd_ne z] at hb; exact sub _ _ hb
    · exact kp b o (k1 b o hb) fun z => by rw [z, hy] at hb; cases hb
    · by_cases z : b = y
      · subst z; exact .inr hy
      · rw [upd_ne z] at hb
        rcases nf b hb with h | h
        · exact .inl h
        · cases e : H1 b with
          | none => exact .inr rfl
          | some o => rw [k1 b o e] at h; cases h
  have sF : Same F' (upd F' y (.ins C dy (ks.zip ws))) := same_upd fy'
  exact q _ H' _ ((s1.trans s2).trans (s2.wd.alc A)) (Rep.obj hC upd_same hl (R.mono sF))
theorem se_make (M : Mk X.K C fi) (hC : ClsN X.K c C) (F : FnOk X.prog X.w X.K X.mg X.base CX0 k fi fd ps (spI X.K C n g)) (hn : ∀ ds z, g ds = some z → ds.length = n) (hr : Room (k + 1) X.A) (hg : Gl X x) (hm : X.mg x = some (.ref C)) (hb : Binds X.K fd ps [])
    (ha : SA X (e :: es) ms) (hdb : (x == ("__debug__" : Str)) = false := by decide) (he : starEach (e :: es) X.env = (false, eval e X.env) :: starEach es X.env := by rfl) (hpl : (backTo pos (starEach es X.env)).any (·.1) = false := by rfl) :
    SE X (.Call (.Name x p) (e :: es) [] pos) (eMake c g ms) := pe_weak (pe_make M F hr hg hm hb .nil pass0 ha hdb he hpl) fun _ _ _ h => tmake_of hC hn h
end
/-! ### the body of an __init__ -/
abbrev SI0 := Rho × List PySem.Str × List D → Option (Rho × List PySem.Str × List D)
def iNx : SI0 := fun r => some r
def iSeq (a b : SI0) : SI0 := fun r => (a r).bind b
/-- self.f = e -/
def iFld (f : PySem.Str) (m : M Vl) : SI0 := fun r => (m r.1).bind fun p => (frz p.2 (stl p.1)).bind fun q => if r.2.1.contains f = false ∧ r.2.1.length < 100 then some (q.2, r.2.1 ++ [f], r.2.2 ++ [q.1]) else none
structure Mid (K : PySem.W.Frag) (G : Gd) (C y dy : Addr) (r : Rho × List PySem.Str × List D) (σ : L2.St) (H F : Hp) : Prop where
  wd : Wd K G r.1 σ H F
  s0 : σ[0]? = some (some (.ref y))
  h0 : G.H0 y = none
  fy : F y = none
  at_ : ∃ ws, H y = some (.ins C dy (r.2.1.zip ws)) ∧ ws.length = r.2.1.length ∧ Reps K F ws r.2.2
def tIn (K : PySem.W.Frag) (C : Addr) (m : SI0) : TS := fun D σ H => ∃ G y dy r F r', Mid K G C y dy r σ H F ∧ m r = some r' ∧ ∀ σ' H' F', Mid K G C y dy r' σ' H' F' → Same F F' → D.nx σ' H'
theorem putF_new {f : PySem.Str} {v : V} : ∀ {ks : List PySem.Str} {ws : List V}, ws.length = ks.length → ks.contains f = false → putF f v (ks.zip ws) = (ks ++ [f]).zip (ws ++ [v])
  | [], [], _, _ => rfl
  | k :: ks, [], h, _ => by simp at h
  | [], w :: ws, h, _ => by simp at h
  | k :: ks, w :: ws, h, n => by
    rw [List.contains_cons, Bool.or_eq_false_iff] at n
    have nk : k ≠ f := fun e => by have := n.1; rw [e, beq_self_eq_true] at this; cases this
    rw [List.zip_cons_cons, List.cons_append, List.cons_append, List.zip_cons_cons]
    show (if k = f then _ else _) = _
    rw [if_neg nk, putF_new (by simpa using h) n.2]
theorem Wd.updx {K : PySem.W.Frag} {G : Gd} {ρ : Rho} {σ : L2.St} {H F : Hp} {y C dy : Addr} {fs : List (Str × V)} {o : HO} (W : Wd K G ρ σ H F) (hy : H y = some (.ins C dy fs)) (fy : F y = none) (h0 : G.H0 y = none) : Wd K G ρ σ (upd H y o) F := by
  refine ⟨W.len, W.gl, fun b x e => ?_, W.f0, fun b x e h => ?_, W.nw, fun b h => ?_, fun i s h => ?_, W.ap, W.ai⟩
  · rw [upd_ne (fun z => by rw [z, fy] at e; cases e)]; exact W.sub _ _ e
  · rw [upd_ne (fun z => by rw [z, h0] at e; cases e)]; exact W.kp b x e h
  · by_cases z : b = y
    · subst z; rw [upd_same]; exact fun z => by cases z
    · rw [upd_ne z]; exact W.it b h
  · have q := W.sl i s h
    cases s with
    | no => trivial
    | xa b dx f => exact q
    | d x => exact q
    | ow xs => obtain ⟨a, vs, e, h1, h2⟩ := q; exact ⟨a, vs, e, by rw [upd_ne (fun z => by rw [z, hy] at h1; cases h1)]; exact h1, h2⟩
    | io xs => obtain ⟨a, vs, e, h1, h2⟩ := q; exact ⟨a, vs, e, by rw [upd_ne (fun z => by rw [z, hy] at h1; cases h1)]; exact h1, h2⟩
section
variable {X : Cx} {e o : Expr} {me : M Vl} {pos p pos' : Pos} {st : Stmt} {rest : List Stmt} {C : Addr} {m1 m2 : SI0} {f : PySem.Str}
theorem si0_nil : PSs X [] (tIn X.K C iNx) := pss_weak pss_nil fun D σ H ⟨G, y, dy, r, F, r', I, hm, q⟩ => by
  cases hm
  exact q σ H F I (Same.refl _)
theorem si0_one (h : PS X st (tIn X.K C m1)) : PSs X [st] (tIn X.K C m1) := pss_one h
theorem si0_cons (h1 : PS X st (tIn X.K C m1)) (h2 : PSs X rest (tIn X.K C m2)) : PSs X (st :: rest) (tIn X.K C (iSeq m1 m2)) := by
  refine pss_weak (pss_cons h1 h2) fun D σ H ⟨G, y, dy, r, F, r', I, hm, q⟩ => ?_
  unfold iSeq at hm
  obtain ⟨r1, e1, hm⟩ := Option.bind_eq_some_iff.mp hm
  exact ⟨G, y, dy, r, F, r1, I, e1, fun σ' H' F' I' ff => ⟨G, y, dy, r1, F', r', I', hm, fun σ2 H2 F2 I2 f2 => q σ2 H2 F2 I2 (ff.trans f2)⟩⟩
theorem si0_doc {x j pos pos'} : PS X (.Expr (.Constant (.str x) j pos) pos') (tIn X.K C iNx) := ps_weak ps_doc fun D σ H ⟨G, y, dy, r, F, r', I, hm, q⟩ => by
  cases hm
  exact q σ H F I (Same.refl _)
theorem si0_fld (cl : Cls X.K C) (na : NoAttr X.K C f) (ho : PE X o (tVar 0)) (he : SE X e me) (hs : swapsWith e (some (.Attribute o f pos')) pos.line X.env = pure false) : PS X (.Assign [.Attribute o f pos'] e pos) (tIn X.K C (iFld f me)) := by
  refine ps_weak (ps_fld ho he hs) fun D σ H ⟨G, y, dy, ⟨ρ, ks, xs⟩, F, r', I, hm, q⟩ => ?_
  unfold iFld at hm
  obtain ⟨⟨r, ρ1⟩, e1, hm⟩ := Option.bind_eq_some_iff.mp hm
  obtain ⟨⟨z, ρ2⟩, e2, hm⟩ := Option.bind_eq_some_iff.mp hm
  split at hm
  · rename_i hc
    cases hm
    refine tm_use I.wd e1 fun v H1 F1 s1 R1 => ?_
    obtain ⟨F2, s2, R2⟩ := frz_ok s1.wd R1 e2
    have s12 := s1.trans s2
    obtain ⟨ws, a1, a2, a3⟩ := I.at_
    have now : ∀ i, ¬ Ow ρ σ i y := fun i ow => by
      obtain ⟨us, z, _⟩ := I.wd.ow_there ow
      rw [a1] at z; cases z
    have hy := s12.kk y _ a1 now
    have fy2 : F2 y = none := by
      cases e : F2 y with
      | none => rfl
      | some o =>
        rcases s12.nf y (by rw [e]; simp) with h | h | ⟨i, h⟩
        · exact absurd I.fy h
        · rw [a1] at h; cases h
        · exact absurd h (now i)
    refine ⟨.ref y, I.s0, y, C, dy, _, rfl, hy, cl, na, ?_, ?_⟩
    · rw [List.length_zip]
      have := hc.2
      dsimp only at this
      omega
    · rw [putF_new a2 hc.1]
      refine q σ _ F2 ⟨s12.wd.updx hy fy2 I.h0, I.s0, I.h0, fy2, ⟨ws ++ [v], upd_same, by simp [a2], (a3.mono s12.ff).append (.cons R2 .nil)⟩⟩ s12.ff
  · cases hm
end
theorem fn_init {P : Program} {w : World} {K : PySem.W.Frag} {mg : Str → Option Value} {base : Heap} {x qual : Str} {st : Stmt} {f C : Addr} {fd : FuncData} {N ps : List Str} {k n nl : Nat} {m : SI0} (Fu : FunG K x qual st f fd) (Sc : FnScope N ps (defScope st)) (hn : ps.length = n + 1) (hl : N.length = nl) (hle : n + 1 ≤ nl)
    (hb : ∀ (cdv : Value) (A : Around) (outer : List Env) (s : Shared) (H : Hp) (E : XK), Room k (A.deeper (envOfC qual (defScope st) s.heap.objs.size f cdv)) → PSs (cxOf CX0 P w K mg base N qual (defScope st) f cdv A outer s H E).nox (defBody st) (tIn K C m)) :
    FnOk P w K mg base CX0 (k + 1) f fd ps (spI K C n fun ds => if ds.length = n then (m (.no :: (ds.map .d ++ List.replicate (nl - (n + 1)) .no), [], [])).bind fun r => some r.2 else none) := by
  refine Fu.ok Sc (fun vs H Q E h => by rw [h.1, hn]) (fun cdv A outer s H vs Q E hr h => ?_)
  obtain ⟨hv, F, y, dy, us, ds, ks, xs, rfl, sub, fy, hy, R, hg, q⟩ := h
  refine ⟨_, hb cdv A outer s H E hr, ?_⟩
  dsimp only at hg
  split at hg
  · rename_i hd
    obtain ⟨⟨ρ', ks', xs'⟩, e1, hg⟩ := Option.bind_eq_some_iff.mp hg
    cases hg
    have lu : us.length = n := by rw [R.len, hd]
    have get : ∀ (i : Nat) (s : Sl), (Sl.no :: (ds.map Sl.d ++ List.replicate (nl - (n + 1)) Sl.no))[i]? = some s → s = .no ∨ ∃ j d v, i = j + 1 ∧ ds[j]? = some d ∧ us[j]? = some v ∧ s = .d d ∧ Rep K F v d := fun i s h => by
      cases i with
      | zero => left; simpa using h.symm
      | succ j =>
        rw [List.getElem?_cons_succ] at h
        by_cases hj : j < n
        · rw [List.getElem?_append_left (by rw [List.length_map, hd]; exact hj), List.getElem?_map] at h
          cases e : ds[j]? with
          | none => rw [e] at h; cases h
          | some d =>
            rw [e] at h; cases h
            obtain ⟨v, e2, r⟩ := R.get' e
            exact .inr ⟨j, d, v, rfl, e, e2, rfl, r⟩
        · rw [List.getElem?_append_right (by rw [List.length_map, hd]; omega), List.getElem?_replicate] at h
          split at h
          · cases h; exact .inl rfl
          · cases h
    have no : ∀ i a, ¬ Ow (Sl.no :: (ds.map Sl.d ++ List.replicate (nl - (n + 1)) Sl.no)) (start N (.ref y :: us)) i a := fun i a o => by
      obtain ⟨⟨zs, o1 | o1⟩, _⟩ := o
      · rcases get i _ o1 with e | ⟨_, _, _, _, _, _, e, _⟩ <;> cases e
      · rcases get i _ o1 with e | ⟨_, _, _, _, _, _, e, _⟩ <;> cases e
    have lst : (start N (.ref y :: us)).length = nl := by
      unfold L2.start
      rw [List.length_append, List.length_map, List.length_replicate, List.length_cons, lu, hl]
      omega
    have W : Wd K ⟨fun b => if b = y then none else H b, F, [], nl⟩ (Sl.no :: (ds.map Sl.d ++ List.replicate (nl - (n + 1)) Sl.no)) (start N (.ref y :: us)) H F := by
      refine ⟨?_, lst, sub, Same.refl _, fun b o h _ => ?_, fun b h => .inl h, fun b h => absurd h List.not_mem_nil, fun i s h => ?_, fun i j a o1 o2 => absurd o1 (no i a), fun i a h => absurd h List.not_mem_nil⟩
      · rw [lst, List.length_cons, List.length_append, List.length_map, List.length_replicate, hd]; omega
      · dsimp only at h
        split at h
        · cases h
        · exact h
      · rcases get i s h with rfl | ⟨j, d, v, rfl, _, e2, rfl, r⟩
        · trivial
        · refine ⟨v, ?_, r⟩
          unfold L2.start
          rw [List.map_cons, List.cons_append, List.getElem?_cons_succ, List.getElem?_append_left (by rw [List.length_map]; exact (List.getElem?_eq_some_iff.mp e2).1), List.getElem?_map, e2]
          rfl
    refine ⟨_, y, dy, (_, [], []), F, _, ⟨W, rfl, by simp, fy, ⟨[], hy, rfl, .nil⟩⟩, e1, fun σ' H' F' I ff => ?_⟩
    obtain ⟨ws, a1, a2, a3⟩ := I.at_
    refine q H' F' ws ff I.wd.sub (fun b o h hb => I.wd.kp b o ?_ (fun z => absurd z List.not_mem_nil)) (fun b h => ?_) I.fy a1 a2 a3
    · dsimp only
      rw [if_neg hb]; exact h
    · rcases I.wd.nw b h with h1 | h1
      · exact .inl h1
      · dsimp only at h1
        split at h1
        · rename_i hb
          subst hb
          exact absurd I.fy h
        · exact .inr h1
  · cases hg
end Sw
/-! Sw24: zip of two lists or tuples, sorted of ints and of texts. -/
namespace Sw
open PySem PySem.Spec PyProof.Rows L2

def zipD (xs ys : List D) : List D := (xs.zip ys).map fun p => .tup [p.1, p.2]
theorem zipD_get {xs ys : List D} {i : Nat} {x y : D} (h1 : xs[i]? = some x) (h2 : ys[i]? = some y) : (zipD xs ys)[i]? = some (.tup [x, y]) := by
  unfold zipD
  rw [List.getElem?_map, (List.getElem?_zip_eq_some (z := (x, y))).mpr ⟨h1, h2⟩]
  rfl
theorem zipD_len {xs ys : List D} : (zipD xs ys).length = min xs.length ys.length := by unfold zipD; rw [List.length_map, List.length_zip]
def iZp (m : M (List Vl)) : M (List D) := fun ρ => (m ρ).bind fun p => (frzs p.2 p.1).bind fun q => match q.1 with
  | [.lst xs, .lst ys] => some (zipD xs ys, q.2)
  | [.tup xs, .tup ys] => some (zipD xs ys, q.2)
  | _ => none
theorem jr_zpT {K : PySem.W.Frag} {F : Hp} {a b : Addr} {vs us : List V} {xs ys : List D} (h : SqT K F a vs) (r : Reps K F vs xs) (h' : SqT K F b us) (r' : Reps K F us ys) : JR K (RZ.ItzT K a b) F (zipD xs ys) where
  go := fun i H s hi => by
    rw [zipD_len] at hi
    have l1 := r.len
    have l2 := r'.len
    exact ⟨vs, us, vs[i]'(by omega), us[i]'(by omega), same_t s h, same_t s h', List.getElem?_eq_getElem _, List.getElem?_eq_getElem _⟩
  yl := fun i H F1 x H' hi s1 s2 y => by
    obtain ⟨t, z, z', rfl, hn, rfl, y, y'⟩ := y
    obtain ⟨d, h1, h2⟩ := r.get (y vs (same_t s2 (same_t s1 h)))
    obtain ⟨d', h1', h2'⟩ := r'.get (y' us (same_t s2 (same_t s1 h')))
    have A := Alc.new (o := HO.tup [z, z']) s2 hn
    exact ⟨_, _, A, zipD_get h1 h1', .tup (SqT.of upd_same) (.cons (h2.mono (s1.trans A.ff)) (.cons (h2'.mono (s1.trans A.ff)) .nil))⟩
  st := fun i H s hi => by
    rw [zipD_len] at hi
    have l1 := r.len
    have l2 := r'.len
    exact ⟨vs, us, same_t s h, same_t s h', by omega⟩
theorem jr_zpL {K : PySem.W.Frag} {F : Hp} {a b : Addr} {vs us : List V} {xs ys : List D} (h : SqL K F a vs) (r : Reps K F vs xs) (h' : SqL K F b us) (r' : Reps K F us ys) : JR K (Itz K a b) F (zipD xs ys) where
  go := fun i H s hi => by
    rw [zipD_len] at hi
    have l1 := r.len
    have l2 := r'.len
    exact ⟨vs, us, vs[i]'(by omega), us[i]'(by omega), s.seq h, s.seq h', List.getElem?_eq_getElem _, List.getElem?_eq_getElem _⟩
  yl := fun i H F1 x H' hi s1 s2 y => by
    obtain ⟨t, z, z', rfl, hn, rfl, y, y'⟩ := y
    obtain ⟨d, h1, h2⟩ := r.get (y vs (s2.seq (s1.seq h)))
    obtain ⟨d', h1', h2'⟩ := r'.get (y' us (s2.seq (s1.seq h')))
    have A := Alc.new (o := HO.tup [z, z']) s2 hn
    exact ⟨_, _, A, zipD_get h1 h1', .tup (SqT.of upd_same) (.cons (h2.mono (s1.trans A.ff)) (.cons (h2'.mono (s1.trans A.ff)) .nil))⟩
  st := fun i H s hi => by
    rw [zipD_len] at hi
    have l1 := r.len
    have l2 := r'.len
    exact ⟨vs, us, s.seq h, s.seq h', by omega⟩
theorem reps2 {K : PySem.W.Frag} {F : Hp} {vs : List V} {x y : D} (h : Reps K F vs [x, y]) : ∃ v u, vs = [v, u] ∧ Rep K F v x ∧ Rep K F u y := by
  cases h with
  | cons r t => cases t with
    | cons r' t' => cases t'; exact ⟨_, _, rfl, r, r'⟩
theorem si_zip {X : Cx} {e e2 : Expr} {ms : M (List Vl)} {p pos tpos : Pos} {elts : List Expr} {kk : Nat} (hm : X.mg "zip" = none) (hg : Gl X "zip") (ha : SA X [e, e2] ms)
    (hs : starEach [e, e2] X.env = (false, eval e X.env) :: starEach [e2] X.env := by rfl) (hpl : (backTo pos (starEach [e2] X.env)).any (·.1) = false := by rfl) :
    SI X (.Tuple elts kk tpos) (.Call (.Name "zip" p) [e, e2] [] pos) (iZp ms) := by
  refine pi_weak (RZ.pi_zipA hg hm ha hs hpl) fun σ H R ⟨G, ρ, F, xs, ρ', W, hm, q⟩ => ?_
  unfold iZp at hm
  obtain ⟨⟨rs, ρ1⟩, e1, hm⟩ := Option.bind_eq_some_iff.mp hm
  obtain ⟨⟨ds, ρ2⟩, e2, hm⟩ := Option.bind_eq_some_iff.mp hm
  refine ⟨G, ρ, F, rs, ρ1, W, e1, fun vs H1 F1 s1 R1 => ?_⟩
  obtain ⟨F2, s2, R2⟩ := frzs_ok s1.wd R1 e2
  split at hm
  · rename_i zs ys hz
    dsimp only at hz
    subst hz
    cases hm
    obtain ⟨v, u, rfl, r1, r2⟩ := reps2 R2
    cases r1 with
    | lst h1 h2 => cases r2 with
      | lst h3 h4 => exact ⟨_, _, _, _, rfl, .inl ⟨SqL.of (s2.wd.sub _ _ h1), SqL.of (s2.wd.sub _ _ h3), q _ _ F2 (s1.trans s2) (jr_zpL (SqL.of h1) h2 (SqL.of h3) h4)⟩⟩
  · rename_i zs ys hz
    dsimp only at hz
    subst hz
    cases hm
    obtain ⟨v, u, rfl, r1, r2⟩ := reps2 R2
    cases r1 with
    | tup h1 h2 => cases r2 with
      | tup h3 h4 => exact ⟨_, _, _, _, rfl, .inr ⟨same_t s2.wd.sub h1, same_t s2.wd.sub h3, q _ _ F2 (s1.trans s2) (jr_zpT h1 h2 h3 h4)⟩⟩
  · cases hm
/-! ### sorted -/
theorem ltc_asymm : ∀ a b : List Nat, ltCps b a = false → ltCps a b = false → a = b
  | [], [], _, _ => rfl
  | [], _ :: _, _, h => by cases h
  | _ :: _, [], h, _ => by cases h
  | a :: r, b :: t, h, h' => by
    simp only [ltCps, Bool.or_eq_false_iff, decide_eq_false_iff_not, Bool.and_eq_false_iff, beq_eq_false_iff_ne] at h h'
    have e : a = b := by omega
    subst e
    rw [ltc_asymm r t (h.2.resolve_left (by simp)) (h'.2.resolve_left (by simp))]
theorem ltc_total : ∀ a b : List Nat, ltCps b a = true → ltCps a b = false
  | [], [], h => by cases h
  | [], _ :: _, h => by cases h
  | _ :: _, [], h => rfl
  | a :: r, b :: t, h => by
    simp only [ltCps, Bool.or_eq_true, decide_eq_true_eq, Bool.and_eq_true, beq_iff_eq] at h
    simp only [ltCps, Bool.or_eq_false_iff, decide_eq_false_iff_not, Bool.and_eq_false_iff, beq_eq_false_iff_ne]
    rcases h with h | ⟨h1, h2⟩
    · exact ⟨by omega, .inl (by omega)⟩
    · exact ⟨by omega, .inr (ltc_total r t h2)⟩
theorem ltc_trans : ∀ a b c : List Nat, ltCps b a = false → ltCps c b = false → ltCps c a = false
  | [], _, [], _, _ => rfl
  | [], _, _ :: _, _, _ => rfl
  | _ :: _, [], _, h, _ => by cases h
  | _ :: _, _ :: _, [], _, h => by cases h
  | a :: r, b :: t, c :: u, h, h' => by
    simp only [ltCps, Bool.or_eq_false_iff, decide_eq_false_iff_not, Bool.and_eq_false_iff, beq_eq_false_iff_ne] at h h' ⊢
    refine ⟨by omega, ?_⟩
    by_cases e : c = a
    · right
      have e1 : b = a := by omega
      have e2 : c = b := by omega
      exact ltc_trans r t u (h.2.resolve_left (fun z => z e1)) (h'.2.resolve_left (fun z => z e2))
    · exact .inl e
def leT (a b : List Nat) : Bool := !ltCps b a
def sortT (xs : List (List Nat)) : List (List Nat) := xs.mergeSort leT
theorem leT_trans (a b c : List Nat) (h : leT a b = true) (h' : leT b c = true) : leT a c = true := by
  unfold leT at *
  rw [Bool.not_eq_true'] at *
  exact ltc_trans a b c h h'
theorem leT_total (a b : List Nat) : (leT a b || leT b a) = true := by
  unfold leT
  cases h : ltCps b a with
  | false => rfl
  | true => rw [ltc_total a b h]; rfl
theorem sortT_perm (xs : List (List Nat)) : (sortT xs).Perm xs := List.mergeSort_perm _ _
theorem sortT_pair (xs : List (List Nat)) : (sortT xs).Pairwise fun a b => leT a b = true := List.pairwise_mergeSort leT_trans leT_total xs
theorem rising_pair : ∀ (p : Str) (l : List Str), risingS p l = true → (∀ x ∈ l, leT p.cps.toList x.cps.toList = true) ∧ (l.map fun s : Str => s.cps.toList).Pairwise fun a b => leT a b = true
  | p, [], _ => ⟨fun _ h => absurd h List.not_mem_nil, List.Pairwise.nil⟩
  | p, x :: r, h => by
    unfold risingS at h
    rw [Bool.and_eq_true, Bool.not_eq_true'] at h
    obtain ⟨h1, h2⟩ := rising_pair x r h.2
    have px : leT p.cps.toList x.cps.toList = true := by unfold leT; rw [h.1]; rfl
    refine ⟨fun y hy => ?_, ?_⟩
    · rcases List.mem_cons.mp hy with rfl | hy
      · exact px
      · exact leT_trans _ _ _ px (h1 y hy)
    · rw [List.map_cons, List.pairwise_cons]
      refine ⟨fun y hy => ?_, h2⟩
      obtain ⟨z, hz, rfl⟩ := List.mem_map.mp hy
      exact h1 z hz
theorem sorted_pair : ∀ (l : List Str), sortedS l = true → (l.map fun s : Str => s.cps.toList).Pairwise fun a b => leT a b = true
  | [], _ => List.Pairwise.nil
  | x :: r, h => by
    obtain ⟨h1, h2⟩ := rising_pair x r h
    rw [List.map_cons, List.pairwise_cons]
    refine ⟨fun y hy => ?_, h2⟩
    obtain ⟨z, hz, rfl⟩ := List.mem_map.mp hy
    exact h1 z hz
theorem sortT_uniq {xs ys : List (List Nat)} (hp : ys.Perm xs) (hs : ys.Pairwise fun a b => leT a b = true) : ys = sortT xs := by
  refine List.Perm.eq_of_pairwise (le := fun a b => leT a b = true) (fun a b _ _ h h' => ?_) hs (sortT_pair xs) (hp.trans (sortT_perm xs).symm)
  unfold leT at h h'
  rw [Bool.not_eq_true'] at h h'
  exact ltc_asymm a b h h'
def sortI (xs : List Int) : List Int := xs.mergeSort fun a b => decide (a ≤ b)
theorem sortI_perm (xs : List Int) : (sortI xs).Perm xs := List.mergeSort_perm _ _
theorem sortI_pair (xs : List Int) : (sortI xs).Pairwise fun a b => a ≤ b := by
  have := List.pairwise_mergeSort (le := fun a b : Int => decide (a ≤ b)) (fun a b c h h' => by simp only [decide_eq_true_eq] at *; omega) (fun a b => by simp only [Bool.or_eq_true, decide_eq_true_eq]; omega) xs
  exact this.imp fun h => of_decide_eq_true h
theorem sortI_uniq {xs ys : List Int} (hp : ys.Perm xs) (hs : ys.Pairwise fun a b => a ≤ b) : ys = sortI xs :=
  List.Perm.eq_of_pairwise (le := fun a b : Int => a ≤ b) (fun a b _ _ h h' => by omega) hs (sortI_pair xs) (hp.trans (sortI_perm xs).symm)
def sortD (xs : List D) : Option (List D) := match intsD xs with
  | some ns => some ((sortI ns).map .int)
  | none => (strsOf xs).bind fun ts => if ts.length < 64 then some ((sortT ts).map .str) else none
def eSorted (ms : M (List Vl)) : M Vl := fun ρ => (ms ρ).bind fun p => match p.1 with
  | [r] => (look p.2 r).bind fun x => match x with
    | .lst xs => (sortD xs).bind fun ys => some (.fr ys, p.2)
    | _ => none
  | _ => none
section
variable {X : Cx} {e : Expr} {ms : M (List Vl)} {p pos : Pos}
theorem reps_ints {K : PySem.W.Frag} {F : Hp} : ∀ ns : List Int, Reps K F (ns.map V.int) (ns.map D.int)
  | [] => .nil
  | n :: ns => .cons (.int n) (reps_ints ns)
theorem reps_strs {K : PySem.W.Frag} {F : Hp} : ∀ ss : List Str, Reps K F (ss.map V.str) ((ss.map fun s : Str => s.cps.toList).map D.str)
  | [] => .nil
  | s :: ss => .cons (rep_str s) (reps_strs ss)
theorem new_fr {G : Gd} {K : PySem.W.Frag} {ρ ρ1 : Rho} {σ : L2.St} {H H1 F F1 : Hp} {vs : List V} {xs : List D} {Q : VK} {q : Addr} (s1 : Ste K G ρ σ H F ρ1 H1 F1) (R : Reps K F1 vs xs) (hq : H1 q = none) (Qk : ∀ v H' F', Ste K G ρ σ H F ρ1 H' F' → VlR K G H ρ1 σ H' F' v (.fr xs) → Q v H') : Q (.ref q) (upd H1 q (.lst vs)) := by
  have f1 : F1 q = none := s1.wd.sub.free hq
  have A : Alc F1 H1 F1 (upd H1 q (.lst vs)) := ⟨Same.refl _, fun b o e => by rw [upd_ne (ne_of_none (s1.wd.sub _ _ e) hq)]; exact s1.wd.sub _ _ e, same_upd hq, fun _ h => .inl h⟩
  refine Qk _ _ F1 (s1.trans (s1.wd.alc A)) ⟨q, vs, rfl, upd_same, R, f1, ?_, fun i o => ?_⟩
  · cases e : H q with
    | none => rfl
    | some o => exact absurd hq (s1.tr q (by rw [e]; simp))
  · obtain ⟨us, z, _⟩ := s1.wd.ow_there o
    rw [hq] at z; cases z
theorem pe_alt {t t' : TE} (h : PE X e t) (h' : PE X e t') : PE X e (fun σ H Q => t σ H Q ∨ t' σ H Q) := ⟨fun pins s σ H Q I q => q.elim (h.run pins s σ H Q I) (h'.run pins s σ H Q I)⟩
theorem se_sorted (hm : X.mg "sorted" = none) (hg : Gl X "sorted") (ha : SA X [e] ms) (he : starEach [e] X.env = (false, eval e X.env) :: starEach [] X.env := by rfl) (hpl : (backTo pos (starEach [] X.env)).any (·.1) = false := by rfl) :
    SE X (.Call (.Name "sorted" p) [e] [] pos) (eSorted ms) := by
  refine pe_weak (pe_alt (pe_callB cr_sortedI hg hm (by decide +kernel) ha (by decide) (by decide) he hpl) (pe_callB cr_sortedS hg hm (by decide +kernel) ha (by decide) (by decide) he hpl)) fun σ H Q ⟨G, ρ, F, r0, ρ', W, hm, q⟩ => ?_
  unfold eSorted at hm
  obtain ⟨⟨rs, ρ1⟩, e1, hm⟩ := Option.bind_eq_some_iff.mp hm
  split at hm
  · rename_i r hr
    dsimp only at hr
    subst hr
    obtain ⟨x, e2, hm⟩ := Option.bind_eq_some_iff.mp hm
    split at hm
    · rename_i xs
      obtain ⟨ys, e3, hm⟩ := Option.bind_eq_some_iff.mp hm
      cases hm
      unfold sortD at e3
      split at e3
      · rename_i ns hn
        cases e3
        refine .inl ⟨G, ρ, F, [r], ρ1, W, e1, fun vs H1 F1 s1 R1 => ?_⟩
        obtain ⟨v, rfl, Rv⟩ : ∃ v, vs = [v] ∧ VlS X.K σ F1 v r := by
          match vs, R1 with
          | [v], z => exact ⟨v, rfl, z.1⟩
        obtain ⟨a, us, rfl, h1, h2⟩ := vw_of s1.wd Rv e2
        have hu := intsD_ok h2 hn
        subst hu
        refine ⟨a, ns, rfl, SqL.of h1, fun ns' p hp hs hq => ?_⟩
        rw [sortI_uniq hp hs]
        exact new_fr s1 (reps_ints _) hq q
      · obtain ⟨ts, hn, e3⟩ := Option.bind_eq_some_iff.mp e3
        split at e3
        · rename_i hl
          cases e3
          refine .inr ⟨G, ρ, F, [r], ρ1, W, e1, fun vs H1 F1 s1 R1 => ?_⟩
          obtain ⟨v, rfl, Rv⟩ : ∃ v, vs = [v] ∧ VlS X.K σ F1 v r := by
            match vs, R1 with
            | [v], z => exact ⟨v, rfl, z.1⟩
          obtain ⟨a, us, rfl, h1, h2⟩ := vw_of s1.wd Rv e2
          have hu := strsOf_ok h2 hn
          subst hu
          refine ⟨a, _, rfl, SqL.of h1, by rw [List.length_map]; exact hl, fun ss p hp hs hq => ?_⟩
          have e4 : (ss.map fun s : Str => s.cps.toList) = sortT ts := by
            refine sortT_uniq ?_ (sorted_pair ss hs)
            have := hp.map fun s : Str => s.cps.toList
            rw [List.map_map] at this
            have id' : ((fun s : Str => s.cps.toList) ∘ fun y : List Nat => (⟨y.toArray⟩ : Str)) = id := by funext y; simp
            rw [id', List.map_id] at this
            exact this
          rw [← e4] at q
          exact new_fr s1 (reps_strs ss) hq q
        · cases e3
    · cases hm
  · cases hm
end
end Sw
/-! Sw25: further steps: methods that change a list, list.index, lists of texts, zip, sorted, instances; the three letters. -/
namespace Sw
open L2
--HDR
local macro_rules | `(tactic| walk_at "fn") => `(tactic| (fail))
local macro_rules | `(tactic| walk_at "s1") => `(tactic| (first | ((with_reducible refine gEv ?_); (first | ((with_reducible refine' ev_tAnd_d ?s0 ?s1 ?_); (case s0 => (intro Q q; walk_at "g"; (first | exact q | exact toD_n q | exact toD_t q | exact toD_f q | exact toD_b q))); (case s1 => (intro hp Q q; walk_at "g"; (first | exact q | exact toD_n q | exact toD_t q | exact toD_f q | exact toD_b q)))) | ((with_reducible refine' ev_tOr_d ?s0 ?s1 ?_); (case s0 => (intro Q q; walk_at "g"; (first | exact q | exact toD_n q | exact toD_t q | exact toD_f q | exact toD_b q))); (case s1 => (intro hp Q q; walk_at "g"; (first | exact q | exact toD_n q | exact toD_t q | exact toD_f q | exact toD_b q)))) | with_reducible refine ev_c ?_ | ((with_reducible refine' ev_vd ?s0 ?_); (case s0 => (rfl))) | ((with_reducible refine' ev_vo ?s0 ?_); (case s0 => (rfl))) | ((with_reducible refine' ev_vi ?s0 ?_); (case s0 => (rfl))) | with_reducible refine ev_bin ?_ | with_reducible refine ev_add ?_ | with_reducible refine ev_un ?_ | with_reducible refine ev_anil ?_ | with_reducible refine ev_acons ?_ | with_reducible refine ev_blt ?_ | with_reducible refine ev_met ?_ | with_reducible refine ev_ono ?_ | with_reducible refine ev_osome ?_ | with_reducible refine ev_sl ?_ | with_reducible refine ev_tup ?_ | with_reducible refine ev_lst ?_ | with_reducible refine ev_tE ?_ | with_reducible refine ev_tyes ?_ | with_reducible refine ev_tAnd ?_ | with_reducible refine ev_tOr ?_ | with_reducible refine ev_tNot ?_ | with_reducible refine ev_eAnd ?_ | with_reducible refine ev_eOr ?_ | with_reducible refine ev_eNot ?_ | with_reducible refine ev_eIf ?_ | with_reducible refine ev_chain ?_ | with_reducible refine ev_call ?_)) | ((with_reducible refine gGiv ?_); (first | ((with_reducible refine' giv_mod ?s0 ?_); (case s0 => (first | assumption | decide | omega | (show _ ≤ 16777216; omega) | (show _ < 16777216; omega) | (simp only [List.length_append, List.length_cons, List.length_nil, List.length_replicate, List.length_map, List.length_take, List.length_drop, List.length_dropLast]; first | omega | (show _ ≤ 16777216; omega))))) | ((with_reducible refine' giv_div ?s0 ?_); (case s0 => (first | assumption | decide | omega | (show _ ≤ 16777216; omega) | (show _ < 16777216; omega) | (simp only [List.length_append, List.length_cons, List.length_nil, List.length_replicate, List.length_map, List.length_take, List.length_drop, List.length_dropLast]; first | omega | (show _ ≤ 16777216; omega))))) | ((with_reducible refine' giv_mul ?s0 ?_); (case s0 => (first | assumption | exact cMul_r (by decide) | exact cMul_r (by omega)))) | ((with_reducible refine' giv_muls ?s0 ?_); (case s0 => (first | assumption | decide | omega | (show _ ≤ 16777216; omega) | (show _ < 16777216; omega) | (simp only [List.length_append, List.length_cons, List.length_nil, List.length_replicate, List.length_map, List.length_take, List.length_drop, List.length_dropLast]; first | omega | (show _ ≤ 16777216; omega))))) | ((with_reducible refine' giv_adds ?s0 ?_); (case s0 => (first | assumption | decide | omega | (show _ ≤ 16777216; omega) | (show _ < 16777216; omega) | (simp only [List.length_append, List.length_cons, List.length_nil, List.length_replicate, List.length_map, List.length_take, List.length_drop, List.length_dropLast]; first | omega | (show _ ≤ 16777216; omega))))) | ((with_reducible refine' giv_addl ?s0 ?_); (case s0 => (first | assumption | decide | omega | (show _ ≤ 16777216; omega) | (show _ < 16777216; omega) | (simp only [List.length_append, List.length_cons, List.length_nil, List.length_replicate, List.length_map, List.length_take, List.length_drop, List.length_dropLast]; first | omega | (show _ ≤ 16777216; omega))))) | ((with_reducible refine' giv_ixl ?s0 ?_); (case s0 => (first | assumption | rfl | exact atI_zero))) | ((with_reducible refine' giv_ixt ?s0 ?_); (case s0 => (first | assumption | rfl | exact atI_zero))) | ((with_reducible refine' giv_ixs ?s0 ?s1 ?_); (case s0 => (first | assumption | decide | omega | (show _ ≤ 16777216; omega) | (show _ < 16777216; omega) | (simp only [List.length_append, List.length_cons, List.length_nil, List.length_replicate, List.length_map, List.length_take, List.length_drop, List.length_dropLast]; first | omega | (show _ ≤ 16777216; omega)))); (case s1 => (first | assumption | rfl))) | ((with_reducible refine' giv_dr4 ?s0 ?_); (case s0 => (assumption))) | ((with_reducible refine' giv_slm1 ?s0 ?_); (case s0 => (first | assumption | decide | omega | (show _ ≤ 16777216; omega) | (show _ < 16777216; omega) | (simp only [List.length_append, List.length_cons, List.length_nil, List.length_replicate, List.length_map, List.length_take, List.length_drop, List.length_dropLast]; first | omega | (show _ ≤ 16777216; omega))))) | ((with_reducible refine' giv_slt ?s0 ?s1 ?_); (case s0 => (first | assumption | decide | omega | (show _ ≤ 16777216; omega) | (show _ < 16777216; omega) | (simp only [List.length_append, List.length_cons, List.length_nil, List.length_replicate, List.length_map, List.length_take, List.length_drop, List.length_dropLast]; first | omega | (show _ ≤ 16777216; omega)))); (case s1 => (first | assumption | decide | omega))) | ((with_reducible refine' giv_sld ?s0 ?s1 ?_); (case s0 => (first | assumption | decide | omega | (show _ ≤ 16777216; omega) | (show _ < 16777216; omega) | (simp only [List.length_append, List.length_cons, List.length_nil, List.length_replicate, List.length_map, List.length_take, List.length_drop, List.length_dropLast]; first | omega | (show _ ≤ 16777216; omega)))); (case s1 => (first | assumption | decide | omega))) | ((with_reducible refine' giv_slm ?s0 ?s1 ?s2 ?_); (case s0 => (first | assumption | decide | omega | (show _ ≤ 16777216; omega) | (show _ < 16777216; omega) | (simp only [List.length_append, List.length_cons, List.length_nil, List.length_replicate, List.length_map, List.length_take, List.length_drop, List.length_dropLast]; first | omega | (show _ ≤ 16777216; omega)))); (case s1 => (first | assumption | decide | omega)); (case s2 => (first | assumption | decide | omega))) | ((with_reducible refine' giv_sltl ?s0 ?_); (case s0 => (first | assumption | decide | omega))) | ((with_reducible refine' giv_sldl ?s0 ?_); (case s0 => (first | assumption | decide | omega))) | ((with_reducible refine' giv_sls ?s0 ?_); (case s0 => (first | assumption | decide | omega | (show _ ≤ 16777216; omega) | (show _ < 16777216; omega) | (simp only [List.length_append, List.length_cons, List.length_nil, List.length_replicate, List.length_map, List.length_take, List.length_drop, List.length_dropLast]; first | omega | (show _ ≤ 16777216; omega))))) | with_reducible refine giv_sll ?_ | ((with_reducible refine' giv_lens ?s0 ?_); (case s0 => (first | assumption | decide | omega | (show _ ≤ 16777216; omega) | (show _ < 16777216; omega) | (simp only [List.length_append, List.length_cons, List.length_nil, List.length_replicate, List.length_map, List.length_take, List.length_drop, List.length_dropLast]; first | omega | (show _ ≤ 16777216; omega))))) | ((with_reducible refine' giv_revs ?s0 ?_); (case s0 => (first | assumption | decide | omega | (show _ ≤ 16777216; omega) | (show _ < 16777216; omega) | (simp only [List.length_append, List.length_cons, List.length_nil, List.length_replicate, List.length_map, List.length_take, List.length_drop, List.length_dropLast]; first | omega | (show _ ≤ 16777216; omega))))) | ((with_reducible refine' giv_sldT ?s0 ?s1 ?_); (case s0 => (first | assumption | decide | omega)); (case s1 => (first | assumption | decide | omega))) | ((with_reducible refine' giv_sltT ?s0 ?s1 ?_); (case s0 => (first | assumption | decide | omega)); (case s1 => (first | assumption | decide | omega))) | with_reducible refine giv_A ?_ | with_reducible refine giv_tup ?_ | with_reducible refine giv_tupt ?_ | ((with_reducible refine' giv_str ?s0 ?_); (case s0 => (first | assumption | decide | omega))) | with_reducible refine giv_strN ?_ | with_reducible refine giv_strS ?_ | ((with_reducible refine' giv_at ?s0 ?_); (case s0 => (rfl))) | with_reducible refine giv r_add1 ?_ | with_reducible refine giv r_sub ?_ | with_reducible refine giv r_lt ?_ | with_reducible refine giv r_lts ?_ | with_reducible refine giv r_le ?_ | with_reducible refine giv r_gt ?_ | with_reducible refine giv r_ge ?_ | with_reducible refine giv r_eqi ?_ | with_reducible refine giv r_eqs ?_ | with_reducible refine giv r_eqb ?_ | with_reducible refine giv r_nei ?_ | with_reducible refine giv r_nes ?_ | with_reducible refine giv r_neb ?_ | with_reducible refine giv r_isb ?_ | with_reducible refine giv r_ntb ?_ | with_reducible refine giv r_ins ?_ | with_reducible refine giv r_nis ?_ | with_reducible refine giv r_neg ?_ | with_reducible refine giv r_len2 ?_ | with_reducible refine giv r_len3 ?_ | with_reducible refine giv r_int1 ?_ | with_reducible refine giv r_fFind ?_ | with_reducible refine giv r_rev1 ?_ | with_reducible refine giv r_fIsi1 ?_ | with_reducible refine giv r_fIsi2 ?_ | with_reducible refine giv r_fIsi3 ?_ | with_reducible refine giv r_fIsi4 ?_ | with_reducible refine giv r_fIsi5 ?_ | with_reducible refine giv r_fIsi6 ?_ | with_reducible refine giv r_min2 ?_ | with_reducible refine giv r_max2 ?_ | with_reducible refine giv r_min3 ?_ | with_reducible refine giv r_isn1 ?_ | with_reducible refine giv r_isn2 ?_ | with_reducible refine giv r_isn3 ?_ | with_reducible refine giv r_isn4 ?_ | with_reducible refine giv r_isn5 ?_ | with_reducible refine giv r_ntn1 ?_ | with_reducible refine giv r_ntn2 ?_ | with_reducible refine giv r_ntn3 ?_ | with_reducible refine giv r_ntn4 ?_ | with_reducible refine giv r_ntn5 ?_ | with_reducible refine giv r_eqn1 ?_ | with_reducible refine giv r_eqn2 ?_ | with_reducible refine giv q_isi_tuple_non ?_ | with_reducible refine giv q_isi_tuple_bl ?_ | with_reducible refine giv q_isi_tuple_int ?_ | with_reducible refine giv q_isi_tuple_str ?_ | with_reducible refine giv q_isi_tuple_lst ?_ | with_reducible refine giv q_isi_tuple_tup ?_ | with_reducible refine giv q_isi_list_non ?_ | with_reducible refine giv q_isi_list_bl ?_ | with_reducible refine giv q_isi_list_int ?_ | with_reducible refine giv q_isi_list_str ?_ | with_reducible refine giv q_isi_list_lst ?_ | with_reducible refine giv q_isi_list_tup ?_ | with_reducible refine giv q_isi_str_non ?_ | with_reducible refine giv q_isi_str_bl ?_ | with_reducible refine giv q_isi_str_int ?_ | with_reducible refine giv q_isi_str_str ?_ | with_reducible refine giv q_isi_str_lst ?_ | with_reducible refine giv q_isi_str_tup ?_ | with_reducible refine giv q_isi_int_non ?_ | with_reducible refine giv q_isi_int_bl ?_ | with_reducible refine giv q_isi_int_int ?_ | with_reducible refine giv q_isi_int_str ?_ | with_reducible refine giv q_isi_int_lst ?_ | with_reducible refine giv q_isi_int_tup ?_ | with_reducible refine giv q_isi_bool_non ?_ | with_reducible refine giv q_isi_bool_bl ?_ | with_reducible refine giv q_isi_bool_int ?_ | with_reducible refine giv q_isi_bool_str ?_ | with_reducible refine giv q_isi_bool_lst ?_ | with_reducible refine giv q_isi_bool_tup ?_ | ((with_reducible refine' giv ?s0 ?_); (case s0 => (first | exact (rfl : _ = some (D.bl true)) | exact (rfl : _ = some (D.bl false))))) | ((with_reducible refine' giv_ixs_all ?s0 ?s1 ?s2 ?_); (case s0 => (first | assumption | decide | omega | (show _ ≤ 16777216; omega) | (show _ < 16777216; omega) | (simp only [List.length_append, List.length_cons, List.length_nil, List.length_replicate, List.length_map, List.length_take, List.length_drop, List.length_dropLast]; first | omega | (show _ ≤ 16777216; omega)))); (case s1 => (first | assumption | decide | omega)); (case s2 => (first | assumption | (refine Int.lt_of_lt_of_le (by assumption) ?_; decide) | (show _ < (_ : Int); omega) | (simp only [List.length_append, List.length_cons, List.length_nil]; omega))); intro _ _))) | ((with_reducible refine gBrn ?_); (first | with_reducible refine brn_t ?_ | with_reducible refine brn_f ?_ | with_reducible refine brn_nT ?_ | with_reducible refine brn_nF ?_ | with_reducible refine brn_nn ?_ | ((with_reducible refine' brn_dt ?s0 ?_); (case s0 => decide)) | ((with_reducible refine' brn_df ?s0 ?_); (case s0 => decide)) | ((with_reducible refine' brn_nt ?s0 ?_); (case s0 => decide)) | ((with_reducible refine' brn_nf ?s0 ?_); (case s0 => decide)))) | ((with_reducible refine gFv ?_); (first | ((with_reducible refine' fv_nextE ?s0 ?s1 ?_); (case s0 => assumption); (case s1 => (first | assumption | decide | omega)); intro _ _ _ _ _; (try dsimp only [puts, put, agI, outsOf, slOf, List.set_cons_zero, List.set_cons_succ, List.getElem?_cons_zero, List.getElem?_cons_succ, wipeR, backR, Option.getD_some, stl])) | ((with_reducible refine' fv_drawE ?s0 ?_); (case s0 => assumption); intro _ _) | with_reducible refine fv_signs ?_ | (walk_at "fn"))) | with_reducible refine ret_z ?_ | with_reducible refine ret_r ?_ | ((with_reducible refine' ret_b ?s0 ?_); (case s0 => (rfl))) | ((with_reducible refine' see2 ?s0 ?s1 ?_); (case s0 => (rfl)); (case s1 => (rfl))) | ((with_reducible refine' see1 ?s0 ?_); (case s0 => (rfl))) | ((with_reducible refine' sees ?s0 ?_); (case s0 => (rfl))) | with_reducible refine isI ?_ | with_reducible refine isB ?_ | with_reducible refine isBD ?_ | ((with_reducible refine' frzs' ?s0 (And.intro ?s1 ?_)); (case s0 => rfl); (case s1 => (first | decide | simp)); (try dsimp only [puts, put, agI, outsOf, slOf, List.set_cons_zero, List.set_cons_succ, List.getElem?_cons_zero, List.getElem?_cons_succ, wipeR, backR, Option.getD_some, stl])) | ((with_reducible refine' arg ?s0 ?s1 ?s2 ?_); (case s0 => (rfl)); (case s1 => (rfl)); (case s2 => (first | exact List.nodup_nil | exact nodup1 | simp [agI])); (try dsimp only [puts, put, agI, outsOf, slOf, List.set_cons_zero, List.set_cons_succ, List.getElem?_cons_zero, List.getElem?_cons_succ, wipeR, backR, Option.getD_some, stl])) | ((with_reducible refine' ex_asg ?s0 ?_); (case s0 => (first | rfl | assumption)); (try dsimp only [puts, put, agI, outsOf, slOf, List.set_cons_zero, List.set_cons_succ, List.getElem?_cons_zero, List.getElem?_cons_succ, wipeR, backR, Option.getD_some, stl])) | ((with_reducible refine' ex_asg' ?s0 ?_); (case s0 => (first | rfl | assumption)); (try dsimp only [puts, put, agI, outsOf, slOf, List.set_cons_zero, List.set_cons_succ, List.getElem?_cons_zero, List.getElem?_cons_succ, wipeR, backR, Option.getD_some, stl])) | ((with_reducible refine' ex_asg'' ?s0 ?_); (case s0 => (rfl)); (try dsimp only [puts, put, agI, outsOf, slOf, List.set_cons_zero, List.set_cons_succ, List.getElem?_cons_zero, List.getElem?_cons_succ, wipeR, backR, Option.getD_some, stl])) | ((with_reducible refine' ex_asgT ?s0 ?_); (case s0 => (rfl)); (try dsimp only [puts, put, agI, outsOf, slOf, List.set_cons_zero, List.set_cons_succ, List.getElem?_cons_zero, List.getElem?_cons_succ, wipeR, backR, Option.getD_some, stl])) | ((with_reducible refine' nbw_z ?_); (try dsimp only [puts, put, agI, outsOf, slOf, List.set_cons_zero, List.set_cons_succ, List.getElem?_cons_zero, List.getElem?_cons_succ, wipeR, backR, Option.getD_some, stl])) | ((with_reducible refine' nbw_r ?_); (try dsimp only [puts, put, agI, outsOf, slOf, List.set_cons_zero, List.set_cons_succ, List.getElem?_cons_zero, List.getElem?_cons_succ, wipeR, backR, Option.getD_some, stl])) | with_reducible refine add2_i ?_ | ((with_reducible refine' add2_s ?s0 ?_); (case s0 => (first | assumption | decide | omega | (show _ ≤ 16777216; omega) | (show _ < 16777216; omega) | (simp only [List.length_append, List.length_cons, List.length_nil, List.length_replicate, List.length_map, List.length_take, List.length_drop, List.length_dropLast]; first | omega | (show _ ≤ 16777216; omega))))) | ((with_reducible refine' add2_l ?s0 ?_); (case s0 => (first | assumption | decide | omega | (show _ ≤ 16777216; omega) | (show _ < 16777216; omega) | (simp only [List.length_append, List.length_cons, List.length_nil, List.length_replicate, List.length_map, List.length_take, List.length_drop, List.length_dropLast]; first | omega | (show _ ≤ 16777216; omega))))) | ((with_reducible refine' add2_t ?s0 ?_); (case s0 => (first | assumption | decide | omega | (show _ ≤ 16777216; omega) | (show _ < 16777216; omega) | (simp only [List.length_append, List.length_cons, List.length_nil, List.length_replicate, List.length_map, List.length_take, List.length_drop, List.length_dropLast]; first | omega | (show _ ≤ 16777216; omega))))) | ((with_reducible refine' own_at ?s0 (And.intro ?s1 ?_)); (case s0 => rfl); (case s1 => exact ⟨_, by assumption⟩); intro _ _; (try dsimp only [puts, put, agI, outsOf, slOf, List.set_cons_zero, List.set_cons_succ, List.getElem?_cons_zero, List.getElem?_cons_succ, wipeR, backR, Option.getD_some, stl])) | ((with_reducible refine gSv ?_); (first | with_reducible refine sv_asg_s ?_ | with_reducible refine sv_nx_s ?_ | with_reducible refine sv_if_s ?_ | with_reducible refine sv_ret_s ?_ | with_reducible refine sv_seq_s ?_ | with_reducible refine sv_drop_s ?_ | ((with_reducible refine' sv_app_s ?s0 ?_); (case s0 => (rfl))) | ((with_reducible refine' sv_app_l ?s0 ?_); (case s0 => (rfl))) | with_reducible refine sv_asg_l ?_ | with_reducible refine sv_if_l ?_ | with_reducible refine sv_ret_l ?_ | with_reducible refine sv_nx ?_ | with_reducible refine sv_asgT_s ?_ | with_reducible refine sv_asgT_l ?_ | with_reducible refine sv_set4_s ?_))))
local macro_rules | `(tactic| walk_at "s2") => `(tactic| (first | ((with_reducible refine gEv ?_); (first | ((with_reducible refine' ev_tAnd_d ?s0 ?s1 ?_); (case s0 => (intro Q q; walk_at "g"; (first | exact q | exact toD_n q | exact toD_t q | exact toD_f q | exact toD_b q))); (case s1 => (intro hp Q q; walk_at "g"; (first | exact q | exact toD_n q | exact toD_t q | exact toD_f q | exact toD_b q)))) | ((with_reducible refine' ev_tOr_d ?s0 ?s1 ?_); (case s0 => (intro Q q; walk_at "g"; (first | exact q | exact toD_n q | exact toD_t q | exact toD_f q | exact toD_b q))); (case s1 => (intro hp Q q; walk_at "g"; (first | exact q | exact toD_n q | exact toD_t q | exact toD_f q | exact toD_b q)))) | with_reducible refine ev_c ?_ | ((with_reducible refine' ev_vd ?s0 ?_); (case s0 => (rfl))) | ((with_reducible refine' ev_vo ?s0 ?_); (case s0 => (rfl))) | ((with_reducible refine' ev_vi ?s0 ?_); (case s0 => (rfl))) | with_reducible refine ev_bin ?_ | with_reducible refine ev_add ?_ | with_reducible refine ev_un ?_ | with_reducible refine ev_anil ?_ | with_reducible refine ev_acons ?_ | with_reducible refine ev_blt ?_ | with_reducible refine ev_met ?_ | with_reducible refine ev_ono ?_ | with_reducible refine ev_osome ?_ | with_reducible refine ev_sl ?_ | with_reducible refine ev_tup ?_ | with_reducible refine ev_lst ?_ | with_reducible refine ev_tE ?_ | with_reducible refine ev_tyes ?_ | with_reducible refine ev_tAnd ?_ | with_reducible refine ev_tOr ?_ | with_reducible refine ev_tNot ?_ | with_reducible refine ev_eAnd ?_ | with_reducible refine ev_eOr ?_ | with_reducible refine ev_eNot ?_ | with_reducible refine ev_eIf ?_ | with_reducible refine ev_chain ?_ | with_reducible refine ev_call ?_)) | ((with_reducible refine gGiv ?_); (first | ((with_reducible refine' giv_mod ?s0 ?_); (case s0 => (first | assumption | decide | omega | (show _ ≤ 16777216; omega) | (show _ < 16777216; omega) | (simp only [List.length_append, List.length_cons, List.length_nil, List.length_replicate, List.length_map, List.length_take, List.length_drop, List.length_dropLast]; first | omega | (show _ ≤ 16777216; omega))))) | ((with_reducible refine' giv_div ?s0 ?_); (case s0 => (first | assumption | decide | omega | (show _ ≤ 16777216; omega) | (show _ < 16777216; omega) | (simp only [List.length_append, List.length_cons, List.length_nil, List.length_replicate, List.length_map, List.length_take, List.length_drop, List.length_dropLast]; first | omega | (show _ ≤ 16777216; omega))))) | ((with_reducible refine' giv_mul ?s0 ?_); (case s0 => (first | assumption | exact cMul_r (by decide) | exact cMul_r (by omega)))) | ((with_reducible refine' giv_muls ?s0 ?_); (case s0 => (first | assumption | decide | omega | (show _ ≤ 16777216; omega) | (show _ < 16777216; omega) | (simp only [List.length_append, List.length_cons, List.length_nil, List.length_replicate, List.length_map, List.length_take, List.length_drop, List.length_dropLast]; first | omega | (show _ ≤ 16777216; omega))))) | ((with_reducible refine' giv_adds ?s0 ?_); (case s0 => (first | assumption | decide | omega | (show _ ≤ 16777216; omega) | (show _ < 16777216; omega) | (simp only [List.length_append, List.length_cons, List.length_nil, List.length_replicate, List.length_map, List.length_take, List.length_drop, List.length_dropLast]; first | omega | (show _ ≤ 16777216; omega))))) | ((with_reducible refine' giv_addl ?s0 ?_); (case s0 => (first | assumption | decide | omega | (show _ ≤ 16777216; omega) | (show _ < 16777216; omega) | (simp only [List.length_append, List.length_cons, List.length_nil, List.length_replicate, List.length_map, List.length_take, List.length_drop, List.length_dropLast]; first | omega | (show _ ≤ 16777216; omega))))) | ((with_reducible refine' giv_ixl ?s0 ?_); (case s0 => (first | assumption | rfl | exact atI_zero))) | ((with_reducible refine' giv_ixt ?s0 ?_); (case s0 => (first | assumption | rfl | exact atI_zero))) | ((with_reducible refine' giv_ixs ?s0 ?s1 ?_); (case s0 => (first | assumption | decide | omega | (show _ ≤ 16777216; omega) | (show _ < 16777216; omega) | (simp only [List.length_append, List.length_cons, List.length_nil, List.length_replicate, List.length_map, List.length_take, List.length_drop, List.length_dropLast]; first | omega | (show _ ≤ 16777216; omega)))); (case s1 => (first | assumption | rfl))) | ((with_reducible refine' giv_dr4 ?s0 ?_); (case s0 => (assumption))) | ((with_reducible refine' giv_slm1 ?s0 ?_); (case s0 => (first | assumption | decide | omega | (show _ ≤ 16777216; omega) | (show _ < 16777216; omega) | (simp only [List.length_append, List.length_cons, List.length_nil, List.length_replicate, List.length_map, List.length_take, List.length_drop, List.length_dropLast]; first | omega | (show _ ≤ 16777216; omega))))) | ((with_reducible refine' giv_slt ?s0 ?s1 ?_); (case s0 => (first | assumption | decide | omega | (show _ ≤ 16777216; omega) | (show _ < 16777216; omega) | (simp only [List.length_append, List.length_cons, List.length_nil, List.length_replicate, List.length_map, List.length_take, List.length_drop, List.length_dropLast]; first | omega | (show _ ≤ 16777216; omega)))); (case s1 => (first | assumption | decide | omega))) | ((with_reducible refine' giv_sld ?s0 ?s1 ?_); (case s0 => (first | assumption | decide | omega | (show _ ≤ 16777216; omega) | (show _ < 16777216; omega) | (simp only [List.length_append, List.length_cons, List.length_nil, List.length_replicate, List.length_map, List.length_take, List.length_drop, List.length_dropLast]; first | omega | (show _ ≤ 16777216; omega)))); (case s1 => (first | assumption | decide | omega))) | ((with_reducible refine' giv_slm ?s0 ?s1 ?s2 ?_); (case s0 => (first | assumption | decide | omega | (show _ ≤ 16777216; omega) | (show _ < 16777216; omega) | (simp only [List.length_append, List.length_cons, List.length_nil, List.length_replicate, List.length_map, List.length_take, List.length_drop, List.length_dropLast]; first | omega | (show _ ≤ 16777216; omega)))); (case s1 => (first | assumption | decide | omega)); (case s2 => (first | assumption | decide | omega))) | ((with_reducible refine' giv_sltl ?s0 ?_); (case s0 => (first | assumption | decide | omega))) | ((with_reducible refine' giv_sldl ?s0 ?_); (case s0 => (first | assumption | decide | omega))) | ((with_reducible refine' giv_sls ?s0 ?_); (case s0 => (first | assumption | decide | omega | (show _ ≤ 16777216; omega) | (show _ < 16777216; omega) | (simp only [List.length_append, List.length_cons, List.length_nil, List.length_replicate, List.length_map, List.length_take, List.length_drop, List.length_dropLast]; first | omega | (show _ ≤ 16777216; omega))))) | with_reducible refine giv_sll ?_ | ((with_reducible refine' giv_lens ?s0 ?_); (case s0 => (first | assumption | decide | omega | (show _ ≤ 16777216; omega) | (show _ < 16777216; omega) | (simp only [List.length_append, List.length_cons, List.length_nil, List.length_replicate, List.length_map, List.length_take, List.length_drop, List.length_dropLast]; first | omega | (show _ ≤ 16777216; omega))))) | ((with_reducible refine' giv_revs ?s0 ?_); (case s0 => (first | assumption | decide | omega | (show _ ≤ 16777216; omega) | (show _ < 16777216; omega) | (simp only [List.length_append, List.length_cons, List.length_nil, List.length_replicate, List.length_map, List.length_take, List.length_drop, List.length_dropLast]; first | omega | (show _ ≤ 16777216; omega))))) | ((with_reducible refine' giv_sldT ?s0 ?s1 ?_); (case s0 => (first | assumption | decide | omega)); (case s1 => (first | assumption | decide | omega))) | ((with_reducible refine' giv_sltT ?s0 ?s1 ?_); (case s0 => (first | assumption | decide | omega)); (case s1 => (first | assumption | decide | omega))) | with_reducible refine giv_A ?_ | with_reducible refine giv_tup ?_ | with_reducible refine giv_tupt ?_ | ((with_reducible refine' giv_str ?s0 ?_); (case s0 => (first | assumption | decide | omega))) | with_reducible refine giv_strN ?_ | with_reducible refine giv_strS ?_ | ((with_reducible refine' giv_at ?s0 ?_); (case s0 => (rfl))) | with_reducible refine giv r_add1 ?_ | with_reducible refine giv r_sub ?_ | with_reducible refine giv r_lt ?_ | with_reducible refine giv r_lts ?_ | with_reducible refine giv r_le ?_ | with_reducible refine giv r_gt ?_ | with_reducible refine giv r_ge ?_ | with_reducible refine giv r_eqi ?_ | with_reducible refine giv r_eqs ?_ | with_reducible refine giv r_eqb ?_ | with_reducible refine giv r_nei ?_ | with_reducible refine giv r_nes ?_ | with_reducible refine giv r_neb ?_ | with_reducible refine giv r_isb ?_ | with_reducible refine giv r_ntb ?_ | with_reducible refine giv r_ins ?_ | with_reducible refine giv r_nis ?_ | with_reducible refine giv r_neg ?_ | with_reducible refine giv r_len2 ?_ | with_reducible refine giv r_len3 ?_ | with_reducible refine giv r_int1 ?_ | with_reducible refine giv r_fFind ?_ | with_reducible refine giv r_rev1 ?_ | with_reducible refine giv r_fIsi1 ?_ | with_reducible refine giv r_fIsi2 ?_ | with_reducible refine giv r_fIsi3 ?_ | with_reducible refine giv r_fIsi4 ?_ | with_reducible refine giv r_fIsi5 ?_ | with_reducible refine giv r_fIsi6 ?_ | with_reducible refine giv r_min2 ?_ | with_reducible refine giv r_max2 ?_ | with_reducible refine giv r_min3 ?_ | with_reducible refine giv r_isn1 ?_ | with_reducible refine giv r_isn2 ?_ | with_reducible refine giv r_isn3 ?_ | with_reducible refine giv r_isn4 ?_ | with_reducible refine giv r_isn5 ?_ | with_reducible refine giv r_ntn1 ?_ | with_reducible refine giv r_ntn2 ?_ | with_reducible refine giv r_ntn3 ?_ | with_reducible refine giv r_ntn4 ?_ | with_reducible refine giv r_ntn5 ?_ | with_reducible refine giv r_eqn1 ?_ | with_reducible refine giv r_eqn2 ?_ | with_reducible refine giv q_isi_tuple_non ?_ | with_reducible refine giv q_isi_tuple_bl ?_ | with_reducible refine giv q_isi_tuple_int ?_ | with_reducible refine giv q_isi_tuple_str ?_ | with_reducible refine giv q_isi_tuple_lst ?_ | with_reducible refine giv q_isi_tuple_tup ?_ | with_reducible refine giv q_isi_list_non ?_ | with_reducible refine giv q_isi_list_bl ?_ | with_reducible refine giv q_isi_list_int ?_ | with_reducible refine giv q_isi_list_str ?_ | with_reducible refine giv q_isi_list_lst ?_ | with_reducible refine giv q_isi_list_tup ?_ | with_reducible refine giv q_isi_str_non ?_ | with_reducible refine giv q_isi_str_bl ?_ | with_reducible refine giv q_isi_str_int ?_ | with_reducible refine giv q_isi_str_str ?_ | with_reducible refine giv q_isi_str_lst ?_ | with_reducible refine giv q_isi_str_tup ?_ | with_reducible refine giv q_isi_int_non ?_ | with_reducible refine giv q_isi_int_bl ?_ | with_reducible refine giv q_isi_int_int ?_ | with_reducible refine giv q_isi_int_str ?_ | with_reducible refine giv q_isi_int_lst ?_ | with_reducible refine giv q_isi_int_tup ?_ | with_reducible refine giv q_isi_bool_non ?_ | with_reducible refine giv q_isi_bool_bl ?_ | with_reducible refine giv q_isi_bool_int ?_ | with_reducible refine giv q_isi_bool_str ?_ | with_reducible refine giv q_isi_bool_lst ?_ | with_reducible refine giv q_isi_bool_tup ?_ | ((with_reducible refine' giv ?s0 ?_); (case s0 => (first | exact (rfl : _ = some (D.bl true)) | exact (rfl : _ = some (D.bl false))))) | ((with_reducible refine' giv_ixs_all ?s0 ?s1 ?s2 ?_); (case s0 => (first | assumption | decide | omega | (show _ ≤ 16777216; omega) | (show _ < 16777216; omega) | (simp only [List.length_append, List.length_cons, List.length_nil, List.length_replicate, List.length_map, List.length_take, List.length_drop, List.length_dropLast]; first | omega | (show _ ≤ 16777216; omega)))); (case s1 => (first | assumption | decide | omega)); (case s2 => (first | assumption | (refine Int.lt_of_lt_of_le (by assumption) ?_; decide) | (show _ < (_ : Int); omega) | (simp only [List.length_append, List.length_cons, List.length_nil]; omega))); intro _ _))) | ((with_reducible refine gBrn ?_); (first | with_reducible refine brn_t ?_ | with_reducible refine brn_f ?_ | with_reducible refine brn_nT ?_ | with_reducible refine brn_nF ?_ | with_reducible refine brn_nn ?_ | ((with_reducible refine' brn_dt ?s0 ?_); (case s0 => decide)) | ((with_reducible refine' brn_df ?s0 ?_); (case s0 => decide)) | ((with_reducible refine' brn_nt ?s0 ?_); (case s0 => decide)) | ((with_reducible refine' brn_nf ?s0 ?_); (case s0 => decide)))) | ((with_reducible refine gFv ?_); (first | ((with_reducible refine' fv_nextE ?s0 ?s1 ?_); (case s0 => assumption); (case s1 => (first | assumption | decide | omega)); intro _ _ _ _ _; (try dsimp only [puts, put, agI, outsOf, slOf, List.set_cons_zero, List.set_cons_succ, List.getElem?_cons_zero, List.getElem?_cons_succ, wipeR, backR, Option.getD_some, stl])) | ((with_reducible refine' fv_drawE ?s0 ?_); (case s0 => assumption); intro _ _) | with_reducible refine fv_signs ?_ | (walk_at "fn"))) | with_reducible refine ret_z ?_ | with_reducible refine ret_r ?_ | ((with_reducible refine' ret_b ?s0 ?_); (case s0 => (rfl))) | ((with_reducible refine' see2 ?s0 ?s1 ?_); (case s0 => (rfl)); (case s1 => (rfl))) | ((with_reducible refine' see1 ?s0 ?_); (case s0 => (rfl))) | ((with_reducible refine' sees ?s0 ?_); (case s0 => (rfl))) | with_reducible refine isI ?_ | with_reducible refine isB ?_ | with_reducible refine isBD ?_ | ((with_reducible refine' frzs' ?s0 (And.intro ?s1 ?_)); (case s0 => rfl); (case s1 => (first | decide | simp)); (try dsimp only [puts, put, agI, outsOf, slOf, List.set_cons_zero, List.set_cons_succ, List.getElem?_cons_zero, List.getElem?_cons_succ, wipeR, backR, Option.getD_some, stl])) | ((with_reducible refine' arg ?s0 ?s1 ?s2 ?_); (case s0 => (rfl)); (case s1 => (rfl)); (case s2 => (first | exact List.nodup_nil | exact nodup1 | simp [agI])); (try dsimp only [puts, put, agI, outsOf, slOf, List.set_cons_zero, List.set_cons_succ, List.getElem?_cons_zero, List.getElem?_cons_succ, wipeR, backR, Option.getD_some, stl])) | ((with_reducible refine' ex_asg ?s0 ?_); (case s0 => (first | rfl | assumption)); (try dsimp only [puts, put, agI, outsOf, slOf, List.set_cons_zero, List.set_cons_succ, List.getElem?_cons_zero, List.getElem?_cons_succ, wipeR, backR, Option.getD_some, stl])) | ((with_reducible refine' ex_asg' ?s0 ?_); (case s0 => (first | rfl | assumption)); (try dsimp only [puts, put, agI, outsOf, slOf, List.set_cons_zero, List.set_cons_succ, List.getElem?_cons_zero, List.getElem?_cons_succ, wipeR, backR, Option.getD_some, stl])) | ((with_reducible refine' ex_asg'' ?s0 ?_); (case s0 => (rfl)); (try dsimp only [puts, put, agI, outsOf, slOf, List.set_cons_zero, List.set_cons_succ, List.getElem?_cons_zero, List.getElem?_cons_succ, wipeR, backR, Option.getD_some, stl])) | ((with_reducible refine' ex_asgT ?s0 ?_); (case s0 => (rfl)); (try dsimp only [puts, put, agI, outsOf, slOf, List.set_cons_zero, List.set_cons_succ, List.getElem?_cons_zero, List.getElem?_cons_succ, wipeR, backR, Option.getD_some, stl])) | ((with_reducible refine' nbw_z ?_); (try dsimp only [puts, put, agI, outsOf, slOf, List.set_cons_zero, List.set_cons_succ, List.getElem?_cons_zero, List.getElem?_cons_succ, wipeR, backR, Option.getD_some, stl])) | ((with_reducible refine' nbw_r ?_); (try dsimp only [puts, put, agI, outsOf, slOf, List.set_cons_zero, List.set_cons_succ, List.getElem?_cons_zero, List.getElem?_cons_succ, wipeR, backR, Option.getD_some, stl])) | with_reducible refine add2_i ?_ | ((with_reducible refine' add2_s ?s0 ?_); (case s0 => (first | assumption | decide | omega | (show _ ≤ 16777216; omega) | (show _ < 16777216; omega) | (simp only [List.length_append, List.length_cons, List.length_nil, List.length_replicate, List.length_map, List.length_take, List.length_drop, List.length_dropLast]; first | omega | (show _ ≤ 16777216; omega))))) | ((with_reducible refine' add2_l ?s0 ?_); (case s0 => (first | assumption | decide | omega | (show _ ≤ 16777216; omega) | (show _ < 16777216; omega) | (simp only [List.length_append, List.length_cons, List.length_nil, List.length_replicate, List.length_map, List.length_take, List.length_drop, List.length_dropLast]; first | omega | (show _ ≤ 16777216; omega))))) | ((with_reducible refine' add2_t ?s0 ?_); (case s0 => (first | assumption | decide | omega | (show _ ≤ 16777216; omega) | (show _ < 16777216; omega) | (simp only [List.length_append, List.length_cons, List.length_nil, List.length_replicate, List.length_map, List.length_take, List.length_drop, List.length_dropLast]; first | omega | (show _ ≤ 16777216; omega))))) | ((with_reducible refine' own_at ?s0 (And.intro ?s1 ?_)); (case s0 => rfl); (case s1 => exact ⟨_, by assumption⟩); intro _ _; (try dsimp only [puts, put, agI, outsOf, slOf, List.set_cons_zero, List.set_cons_succ, List.getElem?_cons_zero, List.getElem?_cons_succ, wipeR, backR, Option.getD_some, stl])) | ((with_reducible refine gSv ?_); (first | with_reducible refine sv_asg_s ?_ | with_reducible refine sv_nx_s ?_ | with_reducible refine sv_ret_s ?_ | with_reducible refine sv_seq_s ?_ | with_reducible refine sv_drop_s ?_ | ((with_reducible refine' sv_app_s ?s0 ?_); (case s0 => (rfl))) | ((with_reducible refine' sv_app_l ?s0 ?_); (case s0 => (rfl))) | with_reducible refine sv_asg_l ?_ | with_reducible refine sv_if_l ?_ | with_reducible refine sv_ret_l ?_ | with_reducible refine sv_nx ?_ | with_reducible refine sv_asgT_s ?_ | with_reducible refine sv_asgT_l ?_ | with_reducible refine sv_set4_s ?_))))
local macro_rules | `(tactic| walk_at "b") => `(tactic| (first | ((with_reducible refine' giv_ixl_all ?s0 ?s1 ?_); (case s0 => (first | assumption | decide | omega)); (case s1 => (first | assumption | (refine Int.lt_of_lt_of_le (by assumption) ?_; decide) | (show _ < (_ : Int); omega) | (simp only [List.length_append, List.length_cons, List.length_nil]; omega))); repeat' (first | exact all_nil | refine all_cons ?_ ?_)) | ((with_reducible refine brn_d ?_ ?_) <;> intro _ <;> (first | (exfalso; omega) | skip)) | ((with_reducible refine brn_nd ?_ ?_) <;> intro _ <;> (first | (exfalso; omega) | skip)) | ((with_reducible refine brn_c ?_ ?_) <;> intro _ <;> (first | (exfalso; omega) | contradiction | (subst_vars; contradiction) | skip))))
local macro_rules | `(tactic| walk_at "n") => `(tactic| (try dsimp only [puts, put, agI, outsOf, slOf, List.map, List.set_cons_zero, List.set_cons_succ, List.getElem?_cons_zero, List.getElem?_cons_succ, wipeR, backR, Option.getD_some, List.replicate, List.cons_append, List.nil_append, List.append_eq, List.append_nil, Nat.reduceSub, FEnd, Ret, noBw, stl]))
local macro_rules | `(tactic| walk_at "g") => `(tactic| (repeat (walk_at "s1")))
local macro_rules | `(tactic| walk_at "gS") => `(tactic| (repeat (walk_at "s2")))
local macro_rules | `(tactic| walk_at "x") => `(tactic| (repeat' (first | (walk_at "s1") | (walk_at "b"))))
local macro_rules | `(tactic| walk_at "xS") => `(tactic| (repeat' (first | (walk_at "s2") | (walk_at "b"))))
--HDREND
theorem sv_mut_s {i : Nat} {f : List D → List D → Option (List D)} {m : M (List Vl)} {s : S} {ρ : Rho} {QS : Fl → Rho → Prop} (h0 : (own? ρ i).isSome = true)
    (h : Ev m ρ fun rs ρ1 => ∃ zs ρ2 xs ys, frzs ρ1 rs = some (zs, ρ2) ∧ own? ρ2 i = some xs ∧ f xs zs = some ys ∧ Sv s (put ρ2 i ys) QS) : Sv (sSeq (sMut i f m) s) ρ QS := by
  obtain ⟨rs, ρ1, e1, zs, ρ2, xs, ys, e2, e3, e4, q⟩ := h
  obtain ⟨y, ey⟩ := Option.isSome_iff_exists.mp h0
  refine sv_seq_eq (ρ1 := put ρ2 i ys) ?_ q
  unfold sMut
  rw [ey]
  show (m ρ).bind _ = _
  rw [e1]
  show (frzs ρ1 rs).bind _ = _
  rw [e2]
  show (own? ρ2 i).bind _ = _
  rw [e3]
  show (f xs zs).bind _ = _
  rw [e4]
  rfl
theorem ev_metl {f : D → List D → Option D} {o : M Vl} {a : M (List Vl)} {ρ : Rho} {Q : Vl → Rho → Prop}
    (h : Ev o ρ fun r ρ1 => ∃ x0, look ρ1 (stl r) = some x0 ∧ lstQ x0 = true ∧ Ev a ρ1 fun rs ρ2 => ∃ x xs, look ρ2 (stl r) = some x ∧ looks ρ2 rs = some xs ∧ Giv (f x xs) fun z => Q (.fz z) ρ2) : Ev (eMetL f o a) ρ Q := by
  obtain ⟨r, ρ1, e1, x0, e2, e3, rs, ρ2, e4, x, xs, e5, e6, z, e7, q⟩ := h
  refine ⟨_, ρ2, ?_, q⟩
  unfold eMetL
  rw [e1]
  show (look ρ1 (stl r)).bind _ = _
  rw [e2]
  show (if _ then _ else _) = _
  rw [if_pos e3, e4]
  show (look ρ2 (stl r)).bind _ = _
  rw [e5]
  show (looks ρ2 rs).bind _ = _
  rw [e6]
  show (f x xs).bind _ = _
  rw [e7]
  rfl
/-- the place of a name -/
def ixS (ks : List (List Nat)) (n : List Nat) : Nat := (ks.map D.str).findIdx (fun x => eqF x (.str n))
theorem ixS_lt {ks : List (List Nat)} {n : List Nat} (h : n ∈ ks) : ixS ks n < ks.length := by
  have : (ks.map D.str).findIdx (fun x => eqF x (.str n)) < (ks.map D.str).length := List.findIdx_lt_length_of_exists ⟨.str n, List.mem_map.mpr ⟨n, h, rfl⟩, by show decide (n = n) = true; simp⟩
  rwa [List.length_map] at this
theorem inD_strs {s : List Nat} : ∀ {ks : List (List Nat)}, inD (.str s) (ks.map D.str) = decide (s ∈ ks)
  | [] => by simp [inD]
  | k :: ks => by
    have ih := inD_strs (s := s) (ks := ks)
    unfold inD at ih ⊢
    rw [List.map_cons, List.any_cons, ih]
    show (decide (k = s) || decide (s ∈ ks)) = _
    by_cases h : k = s
    · simp [h]
    · have h' : ¬ s = k := fun e => h e.symm
      simp [h, h']
theorem flat_strs : ∀ {ks : List (List Nat)}, (ks.map D.str).all flatD = true
  | [] => rfl
  | k :: ks => by rw [List.map_cons, List.all_cons, flat_strs]; rfl
theorem idx_strs {ks : List (List Nat)} {n : List Nat} (h : n ∈ ks) {Q : D → Prop} (q : Q (.int (ixS ks n : Nat))) : Giv (fIdx (.lst (ks.map D.str)) [.str n]) Q := by
  refine giv ?_ q
  unfold fIdx
  dsimp only
  rw [if_pos (by rw [flat_strs]; rfl)]
  have hl := ixS_lt h
  have e : (ks.map D.str).findIdx? (fun x => eqF x (.str n)) = some (ixS ks n) := by
    rw [List.findIdx?_eq_some_iff_findIdx_eq]
    exact ⟨by rw [List.length_map]; exact hl, rfl⟩
  rw [e]
  rfl
theorem in_strs {s : List Nat} {ks : List (List Nat)} {Q : D → Prop} (q : Q (.bl (decide (s ∈ ks)))) : Giv (fIn (.str s) (.lst (ks.map D.str))) Q := by
  refine giv (z := .bl (decide (s ∈ ks))) ?_ q
  show orF _ _ _ _ = _
  unfold orF
  have e : fInS (.str s) (.lst (ks.map D.str)) = none := by unfold fInS; cases s <;> simp
  rw [e]
  show fInQ false _ _ = _
  unfold fInQ
  simp only [flat_strs, Bool.and_true, inD_strs]
  rfl
theorem in_strsT {s : List Nat} {ks : List (List Nat)} {Q : D → Prop} (q : Q (.bl (decide (s ∈ ks)))) : Giv (fIn (.str s) (.tup (ks.map D.str))) Q := by
  refine giv (z := .bl (decide (s ∈ ks))) ?_ q
  show orF _ _ _ _ = _
  unfold orF
  have e : fInS (.str s) (.tup (ks.map D.str)) = none := by unfold fInS; cases s <;> simp
  rw [e]
  show fInQ false _ _ = _
  unfold fInQ
  simp only [flat_strs, Bool.and_true, inD_strs]
  rfl
theorem ni_strs {s : List Nat} {ks : List (List Nat)} {Q : D → Prop} (q : Q (.bl (!decide (s ∈ ks)))) : Giv (fNi (.str s) (.lst (ks.map D.str))) Q := by
  refine giv (z := .bl (!decide (s ∈ ks))) ?_ q
  show orF _ _ _ _ = _
  unfold orF
  have e : fNiS (.str s) (.lst (ks.map D.str)) = none := by unfold fNiS; cases s <;> simp
  rw [e]
  show fInQ true _ _ = _
  unfold fInQ
  simp only [flat_strs, Bool.and_true, inD_strs]
  rfl
theorem ev_new {m : M Vl} {ρ : Rho} {Q : Vl → Rho → Prop} (h : Ev m ρ fun r ρ1 => ∃ x xs, look ρ1 (stl r) = some x ∧ itemsQ x = some xs ∧ Q (.fr xs) ρ1) : Ev (eNew m) ρ Q := by
  obtain ⟨r, ρ1, e, x, xs, h1, h2, q⟩ := h
  exact ⟨_, _, by unfold eNew; rw [e]; show (look ρ1 (stl r)).bind _ = _; rw [h1]; show (itemsQ x).bind _ = _; rw [h2]; rfl, q⟩
theorem gT2_ok {i j : Nat} {x y : D} {ρ : Rho} (hi : ioQ ρ[i]? = false) (hj : ioQ (ρ.set i (.d x))[j]? = false) : gT 2 (gsC (gN i) (gsC (gN j) gsN)) (.tup [x, y]) ρ = some ((ρ.set i (.d x)).set j (.d y)) := by
  show (if [x, y].length = 2 then (asg i (.fz x) ρ).bind _ else none) = _
  rw [if_pos (show [x, y].length = 2 from rfl), asg_z hi]
  show (asg j (.fz y) (ρ.set i (.d x))).bind _ = _
  rw [asg_z hj]
  rfl
def Ltr (L : List Nat) : Prop := L.length = 3 ∧ L.Sublist SGN
theorem fv_lettersE {xs : List D} {e : Int} {Q : Vl → List (List D) → Prop} (h : DrE e xs) (q : ∀ cs ys, Ltr cs → DrE e ys → Q (.fz (.str cs)) [ys]) : Fv lawLetters [.li xs] Q := by
  refine fv_fn rfl ?_
  walk_at "n"
  unfold lawLettersB
  walk_at "gS"
  refine sv_if_s ?_
  walk_at "g"
  refine brn_d (fun z => ?_) (fun z => sv_nx_s ?_)
  · walk_at "g"
    walk_at "n"
    exact q _ _ ⟨rfl, by decide⟩ (by assumption)
  refine sv_if_s ?_
  walk_at "g"
  refine brn_d (fun z => ?_) (fun z => sv_nx_s ?_)
  · walk_at "g"
    walk_at "n"
    exact q _ _ ⟨rfl, by decide⟩ (by assumption)
  refine sv_if_s ?_
  walk_at "g"
  refine brn_d (fun z => ?_) (fun z => sv_nx_s ?_)
  · walk_at "g"
    walk_at "n"
    exact q _ _ ⟨rfl, by decide⟩ (by assumption)
  walk_at "gS"
  rename_i r0 ys0 _ _ _ _ _ f ys1 f0 f1 h1 s ys2 s0 s1 h2 t ys3 t0 t1 h3
  have ns : (f + 1 + s) % 96 ≠ f := by omega
  have nt : (f + 1 + t) % 96 ≠ f := by omega
  have rs : 0 ≤ (f + 1 + s) % 96 ∧ (f + 1 + s) % 96 < 96 := by omega
  have rt : 0 ≤ (f + 1 + t) % 96 ∧ (f + 1 + t) % 96 < 96 := by omega
  generalize (f + 1 + s) % 96 = s' at ns rs ⊢
  generalize (f + 1 + t) % 96 = t' at nt rt ⊢
  refine sv_then (fun ρ => ∃ z : Int, ρ = [.io ys3, .d (.int r0), .d (.str SGN), .d (.int f), .d (.int s'), .d (.int z), .no] ∧ 0 ≤ z ∧ z < 96 ∧ z ≠ s' ∧ (z = f → (s' + 1) % 96 = f)) ?_ ?_
  · walk_at "g"
    refine brn_d (fun z => ?_) (fun z => ?_)
    · walk_at "g"; exact ⟨_, rfl, by omega, by omega, by omega, fun z => by omega⟩
    · walk_at "g"; exact ⟨_, rfl, by omega, by omega, by omega, fun z => by omega⟩
  rintro ρ ⟨z, rfl, z0, z1, z2, z3⟩
  refine sv_then (fun ρ => ∃ z : Int, ρ = [.io ys3, .d (.int r0), .d (.str SGN), .d (.int f), .d (.int s'), .d (.int z), .no] ∧ 0 ≤ z ∧ z < 96 ∧ z ≠ s' ∧ z ≠ f) ?_ ?_
  · walk_at "g"
    refine brn_d (fun y => ?_) (fun y => ?_)
    · walk_at "g"; exact ⟨_, rfl, by omega, by omega, by have := z3 y; omega, by omega⟩
    · walk_at "g"; exact ⟨_, rfl, by omega, by omega, by omega, by omega⟩
  rintro ρ ⟨z, rfl, z0, z1, z2, z3⟩
  obtain ⟨cs, hl, ec, hm⟩ := let_comp (f := f.toNat) (s := s'.toNat) (t := z.toNat) (io := ys3) (c := .int r0) (by omega) (by omega) (by omega) (by omega) (by omega) (by omega)
  rw [show ((f.toNat : Nat) : Int) = f by omega, show ((s'.toNat : Nat) : Int) = s' by omega, show ((z.toNat : Nat) : Int) = z by omega] at ec
  have ej := join_signs (cs := cs) (by rw [hl]; decide)
  walk_at "g"
  refine ev_eq ec ?_
  walk_at "g"
  refine giv ej ?_
  walk_at "g"
  walk_at "n"
  exact q _ _ ⟨hl, hm⟩ h3
theorem ev_make {c : PySem.Str} {g : List D → Option (List PySem.Str × List D)} {ms : M (List Vl)} {ρ : Rho} {Q : Vl → Rho → Prop}
    (h : Ev ms ρ fun rs ρ1 => ∃ xs ρ2 ks ys, frzs ρ1 rs = some (xs, ρ2) ∧ g xs = some (ks, ys) ∧ Q (.fz (.obj c ks ys)) ρ2) : Ev (eMake c g ms) ρ Q := by
  obtain ⟨rs, ρ1, e1, xs, ρ2, ks, ys, e2, e3, q⟩ := h
  refine ⟨_, ρ2, ?_, q⟩
  unfold eMake
  rw [e1]
  show (frzs ρ1 rs).bind _ = _
  rw [e2]
  show (g xs).bind _ = _
  rw [e3]
  rfl
theorem giv_at {c f : PySem.Str} {ks : List PySem.Str} {xs : List D} {z : D} {Q : D → Prop} (h : (ks.zip xs).lookup f = some z) (q : Q z) : Giv (fAt c f (.obj c ks xs)) Q := by
  refine giv ?_ q
  unfold fAt
  dsimp only
  rw [if_pos rfl]
  exact h
theorem ev_izpT {ms : M (List Vl)} {ρ : Rho} {Q : List D → Rho → Prop} (h : Ev ms ρ fun rs ρ1 => ∃ xs ys ρ2, frzs ρ1 rs = some ([.tup xs, .tup ys], ρ2) ∧ Q (zipD xs ys) ρ2) : Ev (iZp ms) ρ Q := by
  obtain ⟨rs, ρ1, e1, xs, ys, ρ2, e2, q⟩ := h
  refine ⟨_, ρ2, ?_, q⟩
  unfold iZp
  rw [e1]
  show (frzs ρ1 rs).bind _ = _
  rw [e2]
  rfl
theorem ev_izpL {ms : M (List Vl)} {ρ : Rho} {Q : List D → Rho → Prop} (h : Ev ms ρ fun rs ρ1 => ∃ xs ys ρ2, frzs ρ1 rs = some ([.lst xs, .lst ys], ρ2) ∧ Q (zipD xs ys) ρ2) : Ev (iZp ms) ρ Q := by
  obtain ⟨rs, ρ1, e1, xs, ys, ρ2, e2, q⟩ := h
  refine ⟨_, ρ2, ?_, q⟩
  unfold iZp
  rw [e1]
  show (frzs ρ1 rs).bind _ = _
  rw [e2]
  rfl
theorem intsD_none {ts : List (List Nat)} (h : ts ≠ []) : intsD (ts.map D.str) = none := by
  cases ts with
  | nil => exact absurd rfl h
  | cons t ts => rfl
theorem sortD_strs {ts : List (List Nat)} (h : ts.length < 64) : sortD (ts.map D.str) = some ((sortT ts).map D.str) := by
  by_cases e : ts = []
  · subst e; unfold sortD intsD sortT sortI; simp [intsD]
  · unfold sortD
    rw [intsD_none e]
    dsimp only
    rw [strsOf_map]
    show (if _ then _ else _) = _
    rw [if_pos h]
theorem sortD_ints {ns : List Int} : sortD (ns.map D.int) = some ((sortI ns).map D.int) := by
  unfold sortD
  rw [intsD_map]
theorem ev_sorted {ms : M (List Vl)} {ρ : Rho} {Q : Vl → Rho → Prop} (h : Ev ms ρ fun rs ρ1 => ∃ r xs ys, rs = [r] ∧ look ρ1 r = some (.lst xs) ∧ sortD xs = some ys ∧ Q (.fr ys) ρ1) : Ev (eSorted ms) ρ Q := by
  obtain ⟨rs, ρ1, e1, r, xs, ys, rfl, e2, e3, q⟩ := h
  refine ⟨_, ρ1, ?_, q⟩
  unfold eSorted
  rw [e1]
  show (look ρ1 r).bind _ = _
  rw [e2]
  show (sortD xs).bind _ = _
  rw [e3]
  rfl
/-- a comprehension over pairs that changes nothing -/
theorem ev_lcm2 {α : Type} {ρ : Rho} {v w : Nat} {src : M (List D)} {e : M Vl} {Q : Vl → Rho → Prop} (xs : List α) (d d' : α → D) (h : α → D)
    (hv : ρ[v]? = some .no) (hw : ρ[w]? = some .no) (vw : v ≠ w) (hl : xs.length ≤ lim) (hs : ∀ {Q' : List D → Rho → Prop}, Q' (xs.map fun x => .tup [d x, d' x]) ρ → Ev src ρ Q')
    (he : ∀ x ∈ xs, ∀ {Q' : Vl → Rho → Prop}, Q' (.fz (h x)) ((ρ.set v (.d (d x))).set w (.d (d' x))) → Ev e ((ρ.set v (.d (d x))).set w (.d (d' x))) Q')
    (q : Q (.fr (xs.map h)) ρ) : Ev (eLc [v, w] src (gT 2 (gsC (gN v) (gsC (gN w) gsN))) tYesM e) ρ Q := by
  have hvl := (List.getElem?_eq_some_iff.mp hv).1
  have hwl := (List.getElem?_eq_some_iff.mp hw).1
  have sv : ρ.set v .no = ρ := by
    have := (List.getElem?_eq_some_iff.mp hv).2
    rw [← this]; exact List.set_getElem_self hvl
  have sw : ρ.set w .no = ρ := by
    have := (List.getElem?_eq_some_iff.mp hw).2
    rw [← this]; exact List.set_getElem_self hwl
  have wv : ∀ a b : Sl, ((ρ.set v a).set w b) = ((ρ.set w b).set v a) := fun a b => List.set_comm _ _ vw
  have wp : wipeR ρ [v, w] = ρ := by
    show ((wipeR ρ []).set w .no).set v .no = ρ
    show (ρ.set w .no).set v .no = ρ
    rw [sw, sv]
  refine ev_lc (fun i acc ρ' => acc = (xs.take i).map h ∧ ρ' = ρ) (hs ?_)
  refine ⟨by simp only [List.all_cons, hv, hw, List.all_nil]; rfl, ⟨by simp, wp⟩, ?_, ?_⟩
  · rintro i y hy acc ρ' ⟨rfl, rfl⟩
    rw [List.getElem?_map] at hy
    cases hi : xs[i]? with
    | none => rw [hi] at hy; cases hy
    | some x =>
      rw [hi] at hy
      cases hy
      have hx := List.mem_of_getElem? hi
      have hi' : i < xs.length := (List.getElem?_eq_some_iff.mp hi).1
      refine ⟨(ρ'.set v (.d (d x))).set w (.d (d' x)), gT2_ok (by rw [hv]; rfl) (by rw [List.getElem?_set_ne vw, hw]; rfl), ev_tyes ?_⟩
      refine brn_t (he x hx ⟨h x, _, rfl, ?_, ?_, ?_⟩)
      · rw [List.length_map, List.length_take]; omega
      · rw [take_s hi, List.map_append]; rfl
      · show (((ρ'.set v (.d (d x))).set w (.d (d' x))).set w .no).set v .no = ρ'
        rw [List.set_set, wv, List.set_set, sw, sv]
  · rintro acc ρ' ⟨rfl, rfl⟩
    rw [List.length_map, List.take_length]
    have : backR ρ' ρ' [v, w] = ρ' := by
      show (ρ'.set w ((ρ'[w]?).getD .no)).set v ((ρ'[v]?).getD .no) = ρ'
      rw [hv, hw]
      show (ρ'.set w .no).set v .no = ρ'
      rw [sw, sv]
    rw [this]
    exact q
/-- comprehensions whose source may freeze a list -/
theorem ev_lcfR {α : Type} {ρ ρ1 : Rho} {v : Nat} {src : M (List D)} {t : M Bool} {e : M Vl} {Q : Vl → Rho → Prop} (xs : List α) (d : α → D) (p : α → Bool) (h : α → D)
    (hv : plainSl ρ1[v]? = true) (hl : xs.length ≤ lim) (hs : ∀ {Q' : List D → Rho → Prop}, Q' (xs.map d) ρ1 → Ev src ρ Q')
    (ht : ∀ x ∈ xs, ∀ {Q' : Bool → Rho → Prop}, Q' (p x) (ρ1.set v (.d (d x))) → Ev t (ρ1.set v (.d (d x))) Q')
    (he : ∀ x ∈ xs, p x = true → ∀ {Q' : Vl → Rho → Prop}, Q' (.fz (h x)) (ρ1.set v (.d (d x))) → Ev e (ρ1.set v (.d (d x))) Q')
    (q : Q (.fr ((xs.filter p).map h)) ρ1) : Ev (eLc [v] src (gN v) t e) ρ Q := by
  have hvl := plain_io hv
  refine ev_lc (fun i acc ρ' => acc = ((xs.take i).filter p).map h ∧ ρ' = ρ1.set v .no) (hs ?_)
  refine ⟨by simp only [List.all_cons, hv, List.all_nil]; rfl, ⟨by simp, rfl⟩, ?_, ?_⟩
  · rintro i y hy acc ρ' ⟨rfl, rfl⟩
    rw [List.getElem?_map] at hy
    cases hi : xs[i]? with
    | none => rw [hi] at hy; cases hy
    | some x =>
      rw [hi] at hy
      cases hy
      have hx := List.mem_of_getElem? hi
      have hi' : i < xs.length := (List.getElem?_eq_some_iff.mp hi).1
      refine ⟨ρ1.set v (.d (d x)), ?_, ht x hx ?_⟩
      · show asg v (.fz (d x)) _ = _
        rw [asg_z (by rw [List.getElem?_set_self hvl]; rfl), List.set_set]
      · refine ⟨fun hp => he x hx hp ⟨h x, _, rfl, ?_, ?_, ?_⟩, fun hp => ⟨?_, ?_⟩⟩
        · rw [List.length_map]
          have := List.length_filter_le p (xs.take i)
          rw [List.length_take] at this
          omega
        · rw [take_s hi, List.filter_append, List.map_append]; simp [hp]
        · show (ρ1.set v (.d (d x))).set v .no = _
          rw [List.set_set]
        · rw [take_s hi, List.filter_append, List.map_append]; simp [hp]
        · show (ρ1.set v (.d (d x))).set v .no = _
          rw [List.set_set]
  · rintro acc ρ' ⟨rfl, rfl⟩
    rw [List.length_map, List.take_length]
    show Q _ ((ρ1.set v .no).set v ((ρ1[v]?).getD .no))
    rw [set_back hv]
    exact q
theorem ev_lcmR {α : Type} {ρ ρ1 : Rho} {v : Nat} {src : M (List D)} {e : M Vl} {Q : Vl → Rho → Prop} (xs : List α) (d : α → D) (h : α → D)
    (hv : plainSl ρ1[v]? = true) (hl : xs.length ≤ lim) (hs : ∀ {Q' : List D → Rho → Prop}, Q' (xs.map d) ρ1 → Ev src ρ Q')
    (he : ∀ x ∈ xs, ∀ {Q' : Vl → Rho → Prop}, Q' (.fz (h x)) (ρ1.set v (.d (d x))) → Ev e (ρ1.set v (.d (d x))) Q')
    (q : Q (.fr (xs.map h)) ρ1) : Ev (eLc [v] src (gN v) tYesM e) ρ Q :=
  ev_lcfR xs d (fun _ => true) h hv hl hs (fun x _ Q' q => ev_tyes q) (fun x hx _ => he x hx) (by rw [List.filter_eq_self.mpr (fun _ _ => rfl)]; exact q)
/-- a comprehension whose items are drawn (the draw stands in slot 0) -/
theorem ev_lc_draw {e0 : Int} {ρ1 : Rho} {v : Nat} {src : M (List D)} {e : M Vl} {Q : Vl → Rho → Prop} (xs : List D) (P : D → Prop) {ys0 : List D} (hd : DrE e0 ys0) (hv : plainSl ρ1[v]? = true) (hl : xs.length ≤ lim)
    (hs : ∀ {Q' : List D → Rho → Prop}, Q' xs (.io ys0 :: ρ1) → Ev src (.io ys0 :: ρ1) Q')
    (he : ∀ x ∈ xs, ∀ ys, DrE e0 ys → ∀ {Q' : Vl → Rho → Prop}, (∀ z ys', P z → DrE e0 ys' → Q' (.fz z) (.io ys' :: ρ1.set v (.d x))) → Ev e (.io ys :: ρ1.set v (.d x)) Q')
    (q : ∀ (zs ys : List D), zs.length = xs.length → (∀ z ∈ zs, P z) → DrE e0 ys → Q (.fr zs) (.io ys :: ρ1)) : Ev (eLc [v + 1] src (gN (v + 1)) tYesM e) (.io ys0 :: ρ1) Q := by
  have hvl := plain_io hv
  refine ev_lc (fun i acc ρ' => ∃ ys, acc.length = i ∧ (∀ z ∈ acc, P z) ∧ DrE e0 ys ∧ ρ' = .io ys :: ρ1.set v .no) (hs ?_)
  refine ⟨by simp only [List.all_cons, List.getElem?_cons_succ, hv, List.all_nil]; rfl, ⟨ys0, rfl, fun _ h => absurd h List.not_mem_nil, hd, rfl⟩, ?_, ?_⟩
  · rintro i x hx acc ρ' ⟨ys, hl', hp, hd, rfl⟩
    have hxm := List.mem_of_getElem? hx
    have hi' : i < xs.length := (List.getElem?_eq_some_iff.mp hx).1
    refine ⟨.io ys :: ρ1.set v (.d x), ?_, ev_tyes (brn_t (he x hxm ys hd fun z ys' hz hd' => ⟨z, _, rfl, by omega, ys', by simp [hl'], ?_, hd', ?_⟩))⟩
    · show asg (v + 1) (.fz x) (.io ys :: ρ1.set v .no) = _
      rw [asg_z (by rw [List.getElem?_cons_succ, List.getElem?_set_self hvl]; rfl), List.set_cons_succ, List.set_set]
    · intro y hy
      rcases List.mem_append.mp hy with h | h
      · exact hp y h
      · rw [List.mem_singleton.mp h]; exact hz
    · show (Sl.io ys' :: ρ1.set v (.d x)).set (v + 1) .no = _
      rw [List.set_cons_succ, List.set_set]
  · rintro acc ρ' ⟨ys, hl', hp, hd, rfl⟩
    show Q _ ((Sl.io ys :: ρ1.set v .no).set (v + 1) (((Sl.io ys0 :: ρ1)[v + 1]?).getD .no))
    rw [List.getElem?_cons_succ, List.set_cons_succ, set_back hv]
    exact q acc ys hl' hp hd
theorem cMul_l {i j : Int} (h : -18446744073709551616 < i ∧ i < 18446744073709551616) : cMul i j = true := by
  unfold cMul
  rw [decide_eq_true h, Bool.true_or]
end Sw
/-! Sw26: exceptions: raise, calls of defs that raise, try. -/
namespace Sw
open PySem PySem.Spec PyProof.Rows L2

theorem passLN {X : Cx} : Passes (L2N.CX X.prog X.w) X E0 := fun _ _ _ _ _ _ _ h => by
  obtain ⟨_, _, _, _, _, _, _, _, _, _, _, _, z⟩ := h
  exact z.elim
/-- around a body nothing is let out -/
theorem takesN0 {X : Cx} : L2N.Takes X WF := fun _ _ x => by
  obtain ⟨_, _, _, _, _, _, _, _, _, _, _, _, _, _, _, _, z⟩ := x
  exact z.elim
theorem fun_okN {P : Program} {w : World} {K : PySem.W.Frag} {mg : Str → Option Value} {base : Heap} {CX : CXT} {x qual : Str} {st : Stmt} {f : Addr} {fd : FuncData} {N ps : List Str} {k : Nat} {sp : Sp} (F : FunG K x qual st f fd) (S : FnScope N ps (defScope st)) (len : ∀ vs H Q E, sp vs H Q E → vs.length = ps.length)
    (hb : ∀ (cdv : Value) (A : Around) (outer : List Env) (s : Shared) (H : Hp) (vs : List V) (Q : VK) (E : XK), Room k (A.deeper (envOfC qual (defScope st) s.heap.objs.size f cdv)) → sp vs H Q E →
      ∃ t, PSs (cxOf CX P w K mg base N qual (defScope st) f cdv A outer s H E) (defBody st) t ∧ t { nx := fun _ H' => Q .non H', rt := Q } (start N vs) H) : FnOk P w K mg base CX (k + 1) f fd ps sp := by
  obtain ⟨oc, od, dV, kV, doc, pm, an, cdv, ct, osl, rfl, lk, hcd⟩ := F.ex
  exact fn_of lk hcd S len fun A outer s H vs Q E hr hsp => hb cdv A outer s H vs Q E hr hsp

/-! ### raise C() -/
/-- what the text says of an exception class that is raised without arguments -/
structure Rs0 (K : PySem.W.Frag) (c : PySem.Str) (C : Addr) : Prop where
  cn : ClsN K c C
  xC : PySem.W.excIn K C [.type "ValueError", .type "Exception", .type "BaseException", .type "object"] "ValueError.__new__" = true
  kC : PySem.W.keepIn K (.ref C) = true
  eC : PySem.W.subIn K (.ref C) (.type "BaseException") = some true
  tC : PySem.W.typeIn K (.ref C) = some (.type "type")
theorem pmk_own0 {X : Cx} {C : Addr} {bmB : List Value} {B newId initId : String} {x : Str} {p pos : Pos} (F : ExcBaseFacts B newId initId bmB) (q : PySem.W.excIn X.K C bmB newId = true) (gC : X.mg x = some (.ref C)) (kC : PySem.W.keepIn X.K (.ref C) = true) (r : Raises X (.ref C)) (hg : Gl X x)
    (hdb : (x == ("__debug__" : Str)) = false := by decide) : L2N.PMk X (.Call (.Name x p) [] [] pos) (fun _ H Q => Q (.ref C) none H) := by
  intro pins s σ H Q I h
  refine wpAny_Call_Name_kw (ld_glob I hg gC ?_ hdb)
  refine PySem.W.callWith_K0 I.kIn kC ?_
  show wpAny _ _ (call (.ref C) []) _ _ _
  obtain ⟨bm, N, nm, qn, bs, hdct, sn, sub, ab, col, dd, k0, k1, k2, k3, k5, mN, hC, hN, hni, T⟩ := exc_obj I.kIn q
  refine wpAny_call_exc_subT F T hC hN hni (fun h' e hm => ?_) (Nat.zero_le _)
  exact L2N.mk_of I hm r h (I.hok.gone hm.new)
def sRaise0 (c : PySem.Str) : S := fun ρ => some (.ex ⟨c, none⟩, ρ)
theorem ss_raise0 {X : Cx} {Wx : WX} {x c : Str} {C : Addr} {p p2 pos : Pos} (hc : X.calm = true) (tk : L2N.Takes X Wx) (T : Rs0 X.K c C) (hg : Gl X x) (gC : X.mg x = some (.ref C)) (hdb : (x == ("__debug__" : Str)) = false := by decide) :
    SSW X Wx (.Raise (some (.Call (.Name x p) [] [] p2)) none pos) (sRaise0 c) :=
  ps_weak (L2N.ps_raise hc tk (pmk_own0 PySem.F.excBase_ValueError T.xC gC T.kC (raises_own T.eC T.tC) hg hdb)) fun D σ H ⟨G, ρ, F, fl, ρ', W, hm, q⟩ => by
    cases hm
    exact q σ H F W (Same.refl _) _ _ ⟨C, T.cn, rfl, fun _ => rfl, fun z => absurd rfl z⟩

/-! ### raise C(e), C with an __init__ that stores its argument as a field -/
def spXI (C : Addr) (f : Str) : Sp := fun vs H Q _ => ∃ (a : Addr) (v : V), vs = [.ref a, v] ∧ H a = some (exo a C none) ∧ ∀ d, H d = none → d ≠ a → Q .non (upd (upd H d (exd d [(f, v)])) a (exo a C (some d)))
structure Rs1 (K : PySem.W.Frag) (c : PySem.Str) (C fi : Addr) : Prop where
  cn : ClsN K c C
  ox : OexC K C
  ini : PySem.W.findIn K (.ref C) "__init__" = some (some (.ref fi))
  tyI : PySem.W.typeIn K (.ref fi) = some (.type "function")
section
variable {P : Program} {w : World} {K : PySem.W.Frag} {mg : Str → Option Value} {base : Heap}
theorem fn_xinit {x qual fl y : Str} {st : Stmt} {f C : Addr} {fd : FuncData} {k : Nat} {p1 p2 p3 pos : Pos} (F : FunG K x qual st f fd) (S : FnScope ["self", y] ["self", y] (defScope st)) (hbd : defBody st = [.Assign [.Attribute (.Name "self" p1) fl p2] (.Name y p3) pos]) (T : OexC K C) (hno : PySem.W.findIn K (.ref C) fl = some none)
    (hy : (y == ("__debug__" : Str)) = false) (hy2 : (y == ("__classdict__" : Str)) = false)
    (hv0 : Vis (defScope st) "self") (hv1 : Vis (defScope st) y) : FnOk P w K mg base CX0 (k + 1) f fd ["self", y] (spXI C fl) := by
  refine fun_okN F S (fun vs H Q E h => ?_) (fun cdv A outer s H vs Q E hr h => ?_)
  · obtain ⟨a, v, rfl, _⟩ := h
    rfl
  · obtain ⟨a, v, rfl, ea, q⟩ := h
    rw [hbd]
    refine ⟨_, pss_one (ps_ost (pv 0 rfl hv0) (pv 1 rfl hv1 hy hy2) (by rfl)), ?_⟩
    exact ⟨v, rfl, .ref a, rfl, a, C, rfl, T, hno, .inl ⟨ea, fun dx n ne => q dx n ne⟩⟩
end
section
variable {X : Cx} {x : Str} {e : Expr} {es : List Expr} {ta : TA} {p pos : Pos} {C fI : Addr} {k : Nat} {fd : FuncData} {ps : List Str} {sp : Sp}
theorem pmk_oexN {c : Str} (R : Rs1 X.K c C fI) (F1 : FnOk X.prog X.w X.K X.mg X.base CX0 k fI fd ps sp) (hr : Room (k + 1) X.A) (hb : Binds X.K fd ps []) (hg : Gl X x) (hm : X.mg x = some (.ref C)) (ha : PA X (e :: es) ta)
    (hdb : (x == ("__debug__" : Str)) = false := by decide) (he : starEach (e :: es) X.env = (false, eval e X.env) :: starEach es X.env := by rfl) (hpl : (backTo pos (starEach es X.env)).any (·.1) = false := by rfl) :
    L2N.PMk X (.Call (.Name x p) (e :: es) [] pos) (tMkO C sp [] ta) := by
  intro pins s σ H Q I h
  obtain ⟨nm, q, N, bs, bm, sn, sub, ab, col, dd, k0, k1, k2, k3, k5, hC, hbm⟩ := R.ox.cls
  refine wpAny_Call_Name_kw (ld_glob I hg hm ?_ hdb)
  refine PySem.W.callWith_K (h₀ := X.base) I.ok.mod.kin R.ox.kC (thn (ha.run pos pins s σ H _ I h) fun us s1 hh => ?_) he hpl
  obtain ⟨vs, H1, I1, r1, hz, q1⟩ := hh
  refine ⟨I1.kIn, ?_⟩
  show wpAny _ _ (call (.ref C) us) _ _ _
  obtain ⟨hp, g, dr, tk, os⟩ := s1
  -- the place of the exception: behind the tuple of its arguments
  let z := hp.objs.size + 1
  let hp' := (hp.push (PySem.W.kdv_tup us)).push (PySem.HandSPX.excO C hp.objs.size)
  have hsz : hp.objs.size ≤ z := Nat.le_succ _
  have old : ∀ b o, hp.get? b = some o → hp'.get? b = some o := fun b o e => Heap.get?_push_of_some _ (Heap.get?_push_of_some _ e)
  have hget : hp'.get? z = some (PySem.HandSPX.excO C hp.objs.size) := by
    show ((hp.push (PySem.W.kdv_tup us)).push (PySem.HandSPX.excO C hp.objs.size)).get? (hp.objs.size + 1) = _
    heap_get
  have I2 : Inv X pins σ (upd H1 z (exo z C none)) ⟨hp', g, dr, tk, os⟩ := I1.laid (t' := tk) (a := z) (o := exo z C none) (h' := hp') old hsz (exo_ok hget)
  have hq := q1 z (I1.hok.fresh hsz)
  rw [List.append_nil] at hq
  have r2 : Vals (V.ref z :: vs) (Value.ref z :: us) := .cons rfl r1
  have hl : (Value.ref z :: us).length = ps.length := by rw [← r2.length]; exact F1.len _ _ _ _ hq
  have hus : us.length ≤ sizeLine := by
    rw [← Paired.length r1, sizeLine_eq]
    omega
  have b2 := hb ⟨hp', g, dr, tk, os⟩ (Value.ref z :: us) I2.kIn (by rw [List.append_nil]; exact hl)
  rw [List.append_nil] at b2
  have run := F1.run _ X.stack _ _ ⟨Value.ref z :: us, []⟩ (Value.ref z :: us) _ _ (fun _ _ _ => False) (hr.make C us []) (I2.env0.make C us []) b2 r2 hq
  refine wpAny_call (PySem.HandSPX.call_own F.excBase_ValueError (fun Y => PySem.HandSPX.refsVE_contains Y bm hbm) (I1.kIn _ _ hC) (PySem.W.looks_findIn I1.kIn R.ini) (fun self => PySem.W.bind_fn I1.kIn self R.tyI) hus (codeAny_mono run fun r s' hq' => ?_))
  cases r with
  | error er => exact absurd hq' (by intro z; exact z)
  | ok fl =>
    cases fl with
    | ret u =>
      obtain ⟨v, H2, os2, bare2, un2, hok2, rv, ev, d, fs, ea, ed, hd1, q2⟩ := hq'
      subst ev
      obtain ⟨h2, g2, d2, t2, os'⟩ := s'
      obtain ⟨t0, G, J, kG, ge, hoe, na⟩ := mk_end0 (d2 := d2) (t2 := t2) I1 hsz old un2 hok2 os2 bare2 ea ed hd1
      refine ⟨rv, ⟨z, _, _, ⟨G, g2, d2, t2, os'⟩, _, .ref C, some d, rfl, J, kG, ge, hoe, ⟨rfl, rfl, fun vs hv => ?_⟩, rfl, rfl, na, rfl, bare2, raises_own R.ox.exC R.ox.tyC, q2⟩⟩
      cases hv
      rfl
    | next => exact False.elim hq'
    | brk => exact False.elim hq'
    | cont => exact False.elim hq'
/-- raise C(e): the class by name, its field -/
def sRaise1 (c f : PySem.Str) (m : M Vl) : S := fun ρ => (m ρ).bind fun p => (frz p.2 (stl p.1)).bind fun q => some (.ex ⟨c, some (f, q.1)⟩, q.2)
theorem ss_raise1 {Wx : WX} {c f : Str} {me : M Vl} {pos2 : Pos} (hc : X.calm = true) (tk : L2N.Takes X Wx) (R : Rs1 X.K c C fI) (F1 : FnOk X.prog X.w X.K X.mg X.base CX0 k fI fd ps (spXI C f)) (hr : Room (k + 1) X.A) (hb : Binds X.K fd ps []) (hm : X.mg x = some (.ref C)) (hg : Gl X x) (ha : SE X e me)
    (hdb : (x == ("__debug__" : Str)) = false := by decide) (he : starEach [e] X.env = (false, eval e X.env) :: starEach [] X.env := by rfl) (hpl : (backTo pos (starEach [] X.env)).any (·.1) = false := by rfl) :
    SSW X Wx (.Raise (some (.Call (.Name x p) [e] [] pos)) none pos2) (sRaise1 c f me) :=
  ps_weak (L2N.ps_raise hc tk (pmk_oexN R F1 hr hb hg hm (pa_cons ha pa_nil he) hdb he hpl)) fun D σ H ⟨G, ρ, F, fl, ρ', W, hmm, q⟩ => by
    unfold sRaise1 at hmm
    obtain ⟨⟨r, ρ1⟩, e1, hmm⟩ := Option.bind_eq_some_iff.mp hmm
    obtain ⟨⟨y, ρ2⟩, e2, hmm⟩ := Option.bind_eq_some_iff.mp hmm
    cases hmm
    refine tm_use W e1 fun v H1 F1 s1 R1 => ?_
    obtain ⟨F2, s2, R2⟩ := frz_ok s1.wd R1 e2
    refine ⟨by show (1 : Nat) ≤ 1000; decide, fun a na => ⟨a, v, rfl, upd_same, fun d nd ne => ?_⟩⟩
    have hd : H1 d = none := by rw [upd_ne ne] at nd; exact nd
    refine ⟨rfl, d, [(f, v)], upd_same, by rw [upd_ne ne]; exact upd_same, hd, ?_⟩
    have eH : upd (del (upd (upd (upd H1 a (exo a C none)) d (exd d [(f, v)])) a (exo a C (some d))) a) d (.xd [(f, v)]) = upd H1 d (.xd [(f, v)]) := by
      funext b
      by_cases hb : b = d
      · rw [hb, upd_same, upd_same]
      · rw [upd_ne hb, upd_ne hb]
        by_cases hba : b = a
        · rw [hba, del_same, na]
        · rw [del_ne hba, upd_ne hba, upd_ne hb, upd_ne hba]
    rw [eH]
    have A := Alc.new (o := HO.xd [(f, v)]) s2.wd.sub hd
    have s3 := s2.wd.alc A
    exact q σ _ _ s3.wd ((s1.ff.trans s2.ff).trans A.ff) _ _ ⟨C, R.cn, rfl, fun z => (by cases z), fun _ => ⟨d, rfl, v, upd_same, R2.mono A.ff⟩⟩
end

/-! ### a value, or an exception -/
abbrev XS := Rho → Option (Exn × Rho)
def tMX (K : PySem.W.Frag) (Wx : WX) (m : M Vl) (x : XS) : TE := fun σ H Q => tM K m σ H Q ∨ ∃ G ρ F e ρ', Wd K G ρ σ H F ∧ x ρ = some (e, ρ') ∧ ∀ H' F', Wd K G ρ' σ H' F' → Same F F' → ∀ cls d, ExR K F' cls d e → Wx cls d σ H'
abbrev SEX (X : Cx) (Wx : WX) (e : Expr) (m : M Vl) (x : XS) : Prop := PE X e (tMX X.K Wx m x)
/-- s, and where it is not defined, the exception x -/
def sX (s : S) (x : XS) : S := fun ρ => match s ρ with
  | some z => some z
  | none => (x ρ).bind fun p => some (.ex p.1, p.2)
section
variable {X : Cx} {Wx : WX} {e : Expr} {me : M Vl} {x : XS} {pos : Pos} {i : Nat} {y : Str} {pos' : Pos}
theorem tsx_of {K : PySem.W.Frag} {s : S} {D : Ends} {σ : L2.St} {H : Hp} (h : tSW K Wx (sX s x) D σ H) : tSW K Wx s D σ H ∨ ∃ G ρ F e ρ', Wd K G ρ σ H F ∧ x ρ = some (e, ρ') ∧ ∀ H' F', Wd K G ρ' σ H' F' → Same F F' → ∀ cls d, ExR K F' cls d e → Wx cls d σ H' := by
  obtain ⟨G, ρ, F, fl, ρ', W, hm, q⟩ := h
  unfold sX at hm
  split at hm
  · rename_i z hz
    cases hm
    exact .inl ⟨G, ρ, F, fl, ρ', W, hz, q⟩
  · obtain ⟨⟨e, ρ1⟩, e1, hm⟩ := Option.bind_eq_some_iff.mp hm
    cases hm
    exact .inr ⟨G, ρ, F, e, ρ1, W, e1, fun H' F' W' ff => q σ H' F' W' ff⟩
theorem sret_of {K : PySem.W.Frag} {D : Ends} {σ : L2.St} {H : Hp} (h : tSW K Wx (sRet me) D σ H) : L2.tRet (tM K me) D σ H := by
  obtain ⟨G, ρ, F, fl, ρ', W, hm, q⟩ := h
  unfold sRet at hm
  obtain ⟨⟨r, ρ1⟩, e1, hm⟩ := Option.bind_eq_some_iff.mp hm
  refine ⟨G, ρ, F, r, ρ1, W, e1, fun v H1 F1 s1 R => ?_⟩
  cases r with
  | fz x => cases hm; exact q σ H1 F1 s1.wd s1.ff v R
  | fr xs =>
    cases hm
    obtain ⟨a, vs, e, h1, h2, h3, h4, _⟩ := R
    exact q σ H1 F1 s1.wd s1.ff v ⟨a, vs, e, h1, h2, h3, W.h0 h4⟩
  | bw i =>
    have R : σ[i]? = some (some v) := R
    dsimp only at hm
    split at hm
    · rename_i xs hx
      cases hm
      obtain ⟨a, vs, e2, h1, h2, h3, h4⟩ := s1.wd.sl i _ hx
      rw [R] at e2; cases e2
      exact q σ H1 F1 s1.wd s1.ff _ ⟨a, vs, rfl, h1, h2, h3, h4⟩
    · cases hm
theorem sdrop_of {K : PySem.W.Frag} {D : Ends} {σ : L2.St} {H : Hp} (h : tSW K Wx (sDrop me) D σ H) : L2.tDrop (tM K me) D σ H := by
  obtain ⟨G, ρ, F, fl, ρ', W, hm, q⟩ := h
  unfold sDrop at hm
  obtain ⟨⟨r, ρ1⟩, e1, hm⟩ := Option.bind_eq_some_iff.mp hm
  cases hm
  exact ⟨G, ρ, F, r, ρ1, W, e1, fun v H1 F1 s1 R => q σ H1 F1 s1.wd s1.ff⟩
theorem ss_setX (hN : X.N.Nodup) (hi : X.N[i]? = some y) (hx : Loc X.env.scope y) (he : SEX X Wx e me x) (hs : swapsWith e (some (.Name y pos')) pos.line X.env = pure false := by rfl) (hf : X.fn y = true ∨ X.env.scope.names.lookup y = some .local := by first | exact .inl rfl | exact .inr rfl | assumption) :
    SSW X Wx (.Assign [.Name y pos'] e pos) (sX (sAsg i me) x) := ps_weak (ps_set hN hi hx he hs hf) fun D σ H h => by
  rcases tsx_of h with h | h
  · exact .inl (sasg_of h)
  · exact .inr h
theorem ss_retX (he : SEX X Wx e me x) : SSW X Wx (.Return (some e) pos) (sX (sRet me) x) := ps_weak (ps_ret he) fun D σ H h => by
  rcases tsx_of h with h | h
  · exact .inl (sret_of h)
  · exact .inr h
theorem ss_exprX (he : SEX X Wx e me x) (hs : swapsWith e none pos.line X.env = pure false := by rfl) : SSW X Wx (.Expr e pos) (sX (sDrop me) x) := ps_weak (ps_expr he hs) fun D σ H h => by
  rcases tsx_of h with h | h
  · exact .inl (sdrop_of h)
  · exact .inr h
end

/-! ### a def that raises -/
abbrev XFn := List Ag → Option Exn
def isDa : Ag → Bool
  | .da _ => true
  | .li _ => false
theorem liA_da : ∀ {vs : List V} {gs : List Ag}, gs.all isDa = true → liA vs gs = []
  | [], _, _ => by unfold liA; rfl
  | v :: vs, [], _ => by cases v <;> rfl
  | v :: vs, .da x :: gs, h => by
    have h' : gs.all isDa = true := by simpa [isDa] using h
    have := liA_da (vs := vs) h'
    cases v <;> exact this
  | v :: vs, .li x :: gs, h => by simp [isDa] at h
def spFX (K : PySem.W.Frag) (n : Nat) (f : Fn) (xf : XFn) : Sp := fun vs H Q E => spF K n f vs H Q E ∨ (vs.length = n ∧ ∃ (F : Hp) (gs : List Ag) (x : Exn), Same F H ∧ AgsR K F H vs gs ∧ gs.all isDa = true ∧ xf gs = some x ∧
  ∀ cls d H' F', Same F F' → Same F' H' → (∀ b o, H b = some o → H' b = some o) → (∀ b, F' b ≠ none → F b ≠ none ∨ H b = none) → ExR K F' cls d x → E cls d H')
def fnE (n nl : Nat) (b : S) : XFn := fun gs => if gs.length = n ∧ gs.all isDa = true then (b (gs.map slOf ++ List.replicate (nl - n) .no)).bind fun p => (match p.1 with
  | .ex x => some x
  | _ => none) else none
theorem fnE_len {n nl : Nat} {b : S} : ∀ gs z, fnE n nl b gs = some z → gs.length = n := fun gs z h => by
  unfold fnE at h
  split at h
  · rename_i q; exact q.1
  · cases h
theorem fn_okX {P : Program} {w : World} {K : PySem.W.Frag} {mg : Str → Option Value} {base : Heap} {x qual : Str} {st : Stmt} {f : Addr} {fd : FuncData} {N ps : List Str} {k n nl : Nat} {m : S} (Fu : FunG K x qual st f fd) (Sc : FnScope N ps (defScope st)) (hn : ps.length = n) (hl : N.length = nl) (hle : n ≤ nl)
    (hb : ∀ (cdv : Value) (A : Around) (outer : List Env) (s : Shared) (H : Hp) (E : XK), Room k (A.deeper (envOfC qual (defScope st) s.heap.objs.size f cdv)) → SBW (cxOf (L2N.CX P w) P w K mg base N qual (defScope st) f cdv A outer s H E) (fun cls d _ H => E cls d H) (defBody st) m) :
    FnOk P w K mg base (L2N.CX P w) (k + 1) f fd ps (spFX K n (fnS n nl m) (fnE n nl m)) := by
  refine fun_okN Fu Sc (fun vs H Q E h => by rcases h with h | h <;> rw [h.1, hn]) (fun cdv A outer s H vs Q E hr h => ?_)
  refine ⟨_, hb cdv A outer s H E hr, ?_⟩
  rcases h with h | h
  · obtain ⟨hv, F, gs, r, os, sub, AR, nd, hf, q⟩ := h
    unfold fnS at hf
    split at hf
    · rename_i hgs
      obtain ⟨⟨fl, ρ'⟩, e1, hf⟩ := Option.bind_eq_some_iff.mp hf
      have W := wd_start AR nd sub hgs hl hle
      have snd := iaOf_snd 0 AR
      have le : gs.length ≤ (gs.map slOf ++ List.replicate (nl - n) Sl.no).length := by rw [List.length_append, List.length_map]; omega
      have outs : ∀ {σ' : L2.St} {H' F' : Hp}, Wd K ⟨H, F, iaOf 0 vs gs, nl⟩ ρ' σ' H' F' → σ'.length = nl → OutsR K F' H' (liA vs gs) (outsOf gs ρ') := fun {σ' H' F'} W' hσ => by
        refine outs_ok (G := ⟨H, F, iaOf 0 vs gs, nl⟩) (σ := σ') 0 AR (fun i s' e => by rw [Nat.zero_add]; exact W'.sl i s' e) (fun i a xs h1 h2 => ?_) ?_
        · have := mem_iaOf 0 AR h1 h2
          have z := W'.ai _ _ this
          rw [Nat.zero_add] at z
          exact ⟨z.1, by rw [Nat.zero_add]; exact z.2⟩
        · have := W'.len
          omega
      refine ⟨⟨H, F, iaOf 0 vs gs, nl⟩, _, F, fl, ρ', W, e1, fun σ' H' F' W' ff => ?_⟩
      have kp : ∀ b o, H b = some o → b ∉ liA vs gs → H' b = some o := fun b o h h2 => W'.kp b o h (by rw [snd]; exact h2)
      have hσ : σ'.length = nl := W'.gl
      cases fl with
      | nx => cases hf; exact q _ H' F' ff W'.sub kp W'.nw (outs W' hσ) .non
      | bk => cases hf
      | ct => cases hf
      | ex x => cases hf
      | rt z =>
        cases z with
        | fz y => cases hf; exact fun v R => q v H' F' ff W'.sub kp W'.nw (outs W' hσ) R
        | fr y => cases hf; exact fun v R => q v H' F' ff W'.sub kp W'.nw (outs W' hσ) R
        | bw y => cases hf
    · cases hf
  · obtain ⟨hv, F, gs, x, sub, AR, da, hf, q⟩ := h
    unfold fnE at hf
    split at hf
    · rename_i hgs
      obtain ⟨⟨fl, ρ'⟩, e1, hf⟩ := Option.bind_eq_some_iff.mp hf
      have li0 : liA vs gs = [] := liA_da da
      have W := wd_start AR (by rw [li0]; exact List.nodup_nil) sub hgs.1 hl hle
      have snd := iaOf_snd 0 AR
      rw [li0] at snd
      refine ⟨⟨H, F, iaOf 0 vs gs, nl⟩, _, F, fl, ρ', W, e1, fun σ' H' F' W' ff => ?_⟩
      cases fl with
      | ex y =>
        cases hf
        exact fun cls d R => q cls d H' F' ff W'.sub (fun b o h => W'.kp b o h (by rw [snd]; exact List.not_mem_nil)) W'.nw R
      | nx => cases hf
      | bk => cases hf
      | ct => cases hf
      | rt z => cases hf
    · cases hf
theorem fn_okX0 {P : Program} {w : World} {K : PySem.W.Frag} {mg : Str → Option Value} {base : Heap} {x qual : Str} {st : Stmt} {f : Addr} {fd : FuncData} {N ps : List Str} {k n : Nat} (Fu : FunG K x qual st f fd) (Sc : FnScope N ps (defScope st)) (hn : ps.length = n) :
    FnOk P w K mg base (L2N.CX P w) (k + 1) f fd ps (spFX K n (fun _ => none) fun _ => none) := by
  refine fun_okN Fu Sc (fun vs H Q E h => by rcases h with h | h <;> rw [h.1, hn]) (fun cdv A outer s H vs Q E hr h => ?_)
  rcases h with ⟨hv, F, gs, r, os, sub, AR, nd, hf, q⟩ | ⟨hv, F, gs, x, sub, AR, da, hf, q⟩ <;> cases hf
/-- the call's exception -/
def eCallX (xf : XFn) (fs : List Bool) (a : M (List Vl)) : XS := fun ρ => (a ρ).bind fun p => (ag1 fs p.1 p.2).bind fun q => (ag2 q.2 q.1).bind fun gs => if gs.all isDa = true ∧ agI q.1 = [] then (xf gs).bind fun x => some (x, q.2) else none
section
variable {X : Cx} {Wx : WX} {f : Fn} {xf : XFn} {fs : List Bool} {ms : M (List Vl)} {n k : Nat} {fa : Addr} {fd : FuncData} {ps : List Str} {x : Str} {e : Expr} {es : List Expr} {p pos : Pos}
theorem tcallX_of {K : PySem.W.Frag} (hn : ∀ gs z, f gs = some z → gs.length = n) (hx : ∀ gs z, xf gs = some z → gs.length = n) {σ : L2.St} {H : Hp} {Q : VK} (h : tMX K Wx (eCall f fs ms) (eCallX xf fs ms) σ H Q) : tCallS (spFX K n f xf) (WE Wx) (tMA K ms) σ H Q := by
  rcases h with ⟨G, ρ, F, r0, ρ', W, hm, q⟩ | ⟨G, ρ, F, ex, ρ', W, hm, q⟩
  · obtain ⟨rs, ρ1, e1, w⟩ := tcall_core (E := WE Wx σ) hn W hm q
    exact ⟨G, ρ, F, rs, ρ1, W, e1, fun vs H1 F1 s1 R1 => .inl (w vs H1 F1 s1 R1)⟩
  · unfold eCallX at hm
    obtain ⟨⟨rs, ρ1⟩, e1, hm⟩ := Option.bind_eq_some_iff.mp hm
    obtain ⟨⟨ts, ρ2⟩, e2, hm⟩ := Option.bind_eq_some_iff.mp hm
    obtain ⟨gs, e3, hm⟩ := Option.bind_eq_some_iff.mp hm
    split at hm
    · rename_i da
      obtain ⟨x, e4, hm⟩ := Option.bind_eq_some_iff.mp hm
      cases hm
      refine ⟨G, ρ, F, rs, ρ1, W, e1, fun vs H1 F1 s1 R1 => .inr ?_⟩
      obtain ⟨F2, s2, R2⟩ := ag1_ok s1.wd R1 e2
      obtain ⟨A1, A2, A3⟩ := ag2_ok s2.wd R2 e3
      have s12 := s1.trans s2
      have li0 : liA vs gs = [] := liA_da da.1
      refine ⟨by rw [A1.len]; exact hx _ _ e4, F2, gs, ex, s2.wd.sub, A1, da.1, e4, fun cls d H' F' ff sub kp nf R => ?_⟩
      have s3 := after_call (is := []) (as := []) (os := []) s2.wd List.nodup_nil rfl (fun k i a h _ => by simp at h) ff sub (fun b o h _ => kp b o h) nf trivial
      exact q H' F' s3.wd (s12.ff.trans ff) cls d R
    · cases hm
theorem se_callX (tk : L2N.Takes X Wx) (F : FnOk X.prog X.w X.K X.mg X.base (L2N.CX X.prog X.w) k fa fd ps (spFX X.K n f xf)) (hn : ∀ gs z, f gs = some z → gs.length = n) (hx : ∀ gs z, xf gs = some z → gs.length = n) (hr : Room k X.A) (hm : X.mg x = some (.ref fa)) (hk : PySem.W.keepIn X.K (.ref fa) = true) (hb : Binds X.K fd ps []) (hg : Gl X x)
    (ha : SA X (e :: es) ms) (hdb : (x == ("__debug__" : Str)) = false := by decide) (he : starEach (e :: es) X.env = (false, eval e X.env) :: starEach es X.env := by rfl) (hpl : (backTo pos (starEach es X.env)).any (·.1) = false := by rfl) :
    SEX X Wx (.Call (.Name x p) (e :: es) [] pos) (eCall f fs ms) (eCallX xf fs ms) := pe_weak (pe_callS F hr hg hm hk hb (fun σ => L2N.passAt tk σ) ha hdb he hpl) fun _ _ _ h => tcallX_of hn hx h
/-- a call that surely does not raise -/
theorem se_callN (F : FnOk X.prog X.w X.K X.mg X.base (L2N.CX X.prog X.w) k fa fd ps (spFX X.K n f xf)) (hn : ∀ gs z, f gs = some z → gs.length = n) (hr : Room k X.A) (hm : X.mg x = some (.ref fa)) (hk : PySem.W.keepIn X.K (.ref fa) = true) (hb : Binds X.K fd ps []) (hg : Gl X x)
    (ha : SA X (e :: es) ms) (hdb : (x == ("__debug__" : Str)) = false := by decide) (he : starEach (e :: es) X.env = (false, eval e X.env) :: starEach es X.env := by rfl) (hpl : (backTo pos (starEach es X.env)).any (·.1) = false := by rfl) :
    SE X (.Call (.Name x p) (e :: es) [] pos) (eCall f fs ms) := pe_weak (pe_call F hr hg hm hk hb .nil passLN ha hdb he hpl) fun σ H Q ⟨G, ρ, F, r0, ρ', W, hm, q⟩ => by
  obtain ⟨rs, ρ1, e1, w⟩ := tcall_core (E := E0) hn W hm q
  exact ⟨G, ρ, F, rs, ρ1, W, e1, fun vs H1 F1 s1 R1 => by show spFX X.K n f xf (vs ++ []) H1 Q E0; rw [List.append_nil]; exact .inl (w vs H1 F1 s1 R1)⟩
end
end Sw
/-! Sw27: try .. except C as e, isinstance of a caught exception. -/
namespace Sw
open PySem PySem.Spec PyProof.Rows L2

/-- two runs that differ in the address of the caught exception alone -/
def UM (i : Nat) (s0 s1 : Sl) {α : Type} (m0 m1 : M α) : Prop := ∀ ρ r ρ1, ρ[i]? = some s0 → m0 ρ = some (r, ρ1) → ρ1[i]? = some s0 ∧ m1 (ρ.set i s1) = some (r, ρ1.set i s1)
section
variable {i j : Nat} {a dx : Addr} {f : Option (PySem.Str × D)} {α : Type}
theorem set_ne {ρ : Rho} {s : Sl} (h : j ≠ i) : (ρ.set i s)[j]? = ρ[j]? := List.getElem?_set_ne (Ne.symm h)
theorem um_var (h : j ≠ i) : UM i (.xa 0 0 f) (.xa a dx f) (eVar j) (eVar j) := fun ρ r ρ1 h0 e => by
  unfold eVar at e ⊢
  rw [set_ne h]
  split at e <;> cases e
  · exact ⟨h0, rfl⟩
  · exact ⟨h0, rfl⟩
  · exact ⟨h0, rfl⟩
theorem um_c {x : D} : UM i (.xa 0 0 f) (.xa a dx f) (eC x) (eC x) := fun ρ r ρ1 h0 e => by
  cases e
  exact ⟨h0, rfl⟩
variable {b b' c c' : M Vl} {t t' u u' : M Bool} {s s' v v' : S}
theorem um_and (h1 : UM i (.xa 0 0 f) (.xa a dx f) b b') (h2 : UM i (.xa 0 0 f) (.xa a dx f) c c') : UM i (.xa 0 0 f) (.xa a dx f) (eAnd b c) (eAnd b' c') := fun ρ r ρ1 h0 e => by
  unfold eAnd at e ⊢
  obtain ⟨⟨x, ρ2⟩, e1, e⟩ := Option.bind_eq_some_iff.mp e
  obtain ⟨k, e2⟩ := h1 ρ x ρ2 h0 e1
  rw [e2]
  dsimp only [Option.bind_some] at e ⊢
  split at e
  · exact h2 ρ2 r ρ1 k e
  · cases e; exact ⟨k, rfl⟩
  · cases e
theorem um_or (h1 : UM i (.xa 0 0 f) (.xa a dx f) b b') (h2 : UM i (.xa 0 0 f) (.xa a dx f) c c') : UM i (.xa 0 0 f) (.xa a dx f) (eOr b c) (eOr b' c') := fun ρ r ρ1 h0 e => by
  unfold eOr at e ⊢
  obtain ⟨⟨x, ρ2⟩, e1, e⟩ := Option.bind_eq_some_iff.mp e
  obtain ⟨k, e2⟩ := h1 ρ x ρ2 h0 e1
  rw [e2]
  dsimp only [Option.bind_some] at e ⊢
  split at e
  · exact h2 ρ2 r ρ1 k e
  · cases e; exact ⟨k, rfl⟩
  · cases e
theorem um_not (h1 : UM i (.xa 0 0 f) (.xa a dx f) b b') : UM i (.xa 0 0 f) (.xa a dx f) (eNot b) (eNot b') := fun ρ r ρ1 h0 e => by
  unfold eNot at e ⊢
  obtain ⟨⟨x, ρ2⟩, e1, e⟩ := Option.bind_eq_some_iff.mp e
  obtain ⟨k, e2⟩ := h1 ρ x ρ2 h0 e1
  rw [e2]
  dsimp only [Option.bind_some] at e ⊢
  split at e
  · cases e; exact ⟨k, rfl⟩
  · cases e
theorem um_tE (h1 : UM i (.xa 0 0 f) (.xa a dx f) b b') : UM i (.xa 0 0 f) (.xa a dx f) (tE b) (tE b') := fun ρ r ρ1 h0 e => by
  unfold tE at e ⊢
  obtain ⟨⟨x, ρ2⟩, e1, e⟩ := Option.bind_eq_some_iff.mp e
  obtain ⟨k, e2⟩ := h1 ρ x ρ2 h0 e1
  rw [e2]
  dsimp only [Option.bind_some] at e ⊢
  split at e
  · cases e; exact ⟨k, rfl⟩
  · cases e
theorem um_tAnd (h1 : UM i (.xa 0 0 f) (.xa a dx f) t t') (h2 : UM i (.xa 0 0 f) (.xa a dx f) u u') : UM i (.xa 0 0 f) (.xa a dx f) (tAnd t u) (tAnd t' u') := fun ρ r ρ1 h0 e => by
  unfold tAnd at e ⊢
  obtain ⟨⟨x, ρ2⟩, e1, e⟩ := Option.bind_eq_some_iff.mp e
  obtain ⟨k, e2⟩ := h1 ρ x ρ2 h0 e1
  rw [e2]
  dsimp only [Option.bind_some] at e ⊢
  split at e
  · rename_i hx; rw [if_pos hx]; exact h2 ρ2 r ρ1 k e
  · rename_i hx; rw [if_neg hx]; cases e; exact ⟨k, rfl⟩
theorem um_tOr (h1 : UM i (.xa 0 0 f) (.xa a dx f) t t') (h2 : UM i (.xa 0 0 f) (.xa a dx f) u u') : UM i (.xa 0 0 f) (.xa a dx f) (tOr t u) (tOr t' u') := fun ρ r ρ1 h0 e => by
  unfold tOr at e ⊢
  obtain ⟨⟨x, ρ2⟩, e1, e⟩ := Option.bind_eq_some_iff.mp e
  obtain ⟨k, e2⟩ := h1 ρ x ρ2 h0 e1
  rw [e2]
  dsimp only [Option.bind_some] at e ⊢
  split at e
  · rename_i hx; rw [if_pos hx]; cases e; exact ⟨k, rfl⟩
  · rename_i hx; rw [if_neg hx]; exact h2 ρ2 r ρ1 k e
theorem um_tNot (h1 : UM i (.xa 0 0 f) (.xa a dx f) t t') : UM i (.xa 0 0 f) (.xa a dx f) (tNot t) (tNot t') := fun ρ r ρ1 h0 e => by
  unfold tNot at e ⊢
  obtain ⟨⟨x, ρ2⟩, e1, e⟩ := Option.bind_eq_some_iff.mp e
  obtain ⟨k, e2⟩ := h1 ρ x ρ2 h0 e1
  rw [e2]
  cases e
  exact ⟨k, rfl⟩
theorem um_if (h1 : UM i (.xa 0 0 f) (.xa a dx f) t t') (h2 : UM i (.xa 0 0 f) (.xa a dx f) s s') (h3 : UM i (.xa 0 0 f) (.xa a dx f) v v') : UM i (.xa 0 0 f) (.xa a dx f) (sIf t s v) (sIf t' s' v') := fun ρ r ρ1 h0 e => by
  unfold sIf at e ⊢
  obtain ⟨⟨x, ρ2⟩, e1, e⟩ := Option.bind_eq_some_iff.mp e
  obtain ⟨k, e2⟩ := h1 ρ x ρ2 h0 e1
  rw [e2]
  dsimp only [Option.bind_some] at e ⊢
  split at e
  · rename_i hx; rw [if_pos hx]; exact h2 ρ2 r ρ1 k e
  · rename_i hx; rw [if_neg hx]; exact h3 ρ2 r ρ1 k e
theorem um_seq (h1 : UM i (.xa 0 0 f) (.xa a dx f) s s') (h2 : UM i (.xa 0 0 f) (.xa a dx f) v v') : UM i (.xa 0 0 f) (.xa a dx f) (sSeq s v) (sSeq s' v') := fun ρ r ρ1 h0 e => by
  unfold sSeq at e ⊢
  obtain ⟨⟨x, ρ2⟩, e1, e⟩ := Option.bind_eq_some_iff.mp e
  obtain ⟨k, e2⟩ := h1 ρ x ρ2 h0 e1
  rw [e2]
  dsimp only [Option.bind_some] at e ⊢
  cases x with
  | nx => exact h2 ρ2 r ρ1 k e
  | bk => cases e; exact ⟨k, rfl⟩
  | ct => cases e; exact ⟨k, rfl⟩
  | rt y => cases e; exact ⟨k, rfl⟩
  | ex y => cases e; exact ⟨k, rfl⟩
theorem um_nx : UM i (.xa 0 0 f) (.xa a dx f) sNx sNx := fun ρ r ρ1 h0 e => by
  cases e
  exact ⟨h0, rfl⟩
theorem um_ret (h1 : UM i (.xa 0 0 f) (.xa a dx f) b b') : UM i (.xa 0 0 f) (.xa a dx f) (sRet b) (sRet b') := fun ρ r ρ1 h0 e => by
  unfold sRet at e ⊢
  obtain ⟨⟨x, ρ2⟩, e1, e⟩ := Option.bind_eq_some_iff.mp e
  obtain ⟨k, e2⟩ := h1 ρ x ρ2 h0 e1
  rw [e2]
  dsimp only [Option.bind_some] at e ⊢
  cases x with
  | fz y => cases e; exact ⟨k, rfl⟩
  | fr y => cases e; exact ⟨k, rfl⟩
  | bw j =>
    dsimp only at e ⊢
    by_cases ne : j = i
    · subst ne
      rw [k] at e
      cases e
    · rw [set_ne ne]
      split at e
      · cases e; exact ⟨k, rfl⟩
      · cases e
theorem um_frz {ρ ρ1 : Rho} {r : Vl} {x : D} (h0 : ρ[i]? = some (.xa 0 0 f)) (e : frz ρ r = some (x, ρ1)) : ρ1[i]? = some (.xa 0 0 f) ∧ frz (ρ.set i (.xa a dx f)) r = some (x, ρ1.set i (.xa a dx f)) := by
  cases r with
  | fz y => cases e; exact ⟨h0, rfl⟩
  | fr y => cases e; exact ⟨h0, rfl⟩
  | bw j =>
    unfold frz at e ⊢
    by_cases ne : j = i
    · subst ne
      dsimp only at e
      rw [h0] at e
      cases e
    · dsimp only at e ⊢
      rw [set_ne ne]
      split at e
      · cases e
        exact ⟨by rw [List.getElem?_set_ne ne]; exact h0, by rw [List.set_comm _ _ (Ne.symm ne)]⟩
      · cases e
theorem um_asg {k : Nat} (hk : k ≠ i) (h1 : UM i (.xa 0 0 f) (.xa a dx f) b b') : UM i (.xa 0 0 f) (.xa a dx f) (sAsg k b) (sAsg k b') := fun ρ r ρ1 h0 e => by
  unfold sAsg at e ⊢
  obtain ⟨⟨x, ρ2⟩, e1, e⟩ := Option.bind_eq_some_iff.mp e
  obtain ⟨ρ3, e3, e⟩ := Option.bind_eq_some_iff.mp e
  obtain ⟨k1, e2⟩ := h1 ρ x ρ2 h0 e1
  rw [e2]
  cases e
  have key : ρ1[i]? = some (.xa 0 0 f) ∧ asg k x (ρ2.set i (.xa a dx f)) = some (ρ1.set i (.xa a dx f)) := by
    dsimp only at e3
    unfold asg at e3 ⊢
    rw [set_ne hk]
    split at e3
    · cases e3
    · cases e3
    · cases x with
      | fz y => cases e3; exact ⟨by rw [List.getElem?_set_ne hk]; exact k1, by dsimp only; rw [List.set_comm _ _ (Ne.symm hk)]⟩
      | fr y => cases e3; exact ⟨by rw [List.getElem?_set_ne hk]; exact k1, by dsimp only; rw [List.set_comm _ _ (Ne.symm hk)]⟩
      | bw j =>
        obtain ⟨⟨y, ρ4⟩, e4, e3⟩ := Option.bind_eq_some_iff.mp e3
        obtain ⟨k2, e5⟩ := um_frz (a := a) (dx := dx) k1 e4
        cases e3
        exact ⟨by rw [List.getElem?_set_ne hk]; exact k2, by dsimp only; rw [e5]; dsimp only [Option.bind_some]; rw [List.set_comm _ _ (Ne.symm hk)]⟩
  obtain ⟨q1, q2⟩ := key
  refine ⟨q1, ?_⟩
  dsimp only [Option.bind_some]
  rw [q2]
  rfl
/-- isinstance(e, ..), e the caught exception: o the answer; hf: it has a field -/
def eIsx (i : Nat) (a dx : Addr) (hf : Bool) (o : Option Bool) : M Vl := fun ρ => match ρ[i]? with
  | some (.xa b dy f) => if b = a ∧ dy = dx ∧ f.isSome = hf then o.bind fun c => some (.fz (.bl c), ρ) else none
  | _ => none
theorem um_isx {o : Option Bool} {hf : Bool} : UM i (.xa 0 0 f) (.xa a dx f) (eIsx i 0 0 hf o) (eIsx i a dx hf o) := fun ρ r ρ1 h0 e => by
  unfold eIsx at e ⊢
  have hi : i < ρ.length := (List.getElem?_eq_some_iff.mp h0).1
  rw [h0] at e
  dsimp only at e
  split at e
  · rename_i hc
    rw [List.getElem?_set_self hi]
    dsimp only
    rw [if_pos ⟨rfl, rfl, hc.2.2⟩]
    obtain ⟨c, e1, e⟩ := Option.bind_eq_some_iff.mp e
    cases e
    rw [e1]
    exact ⟨h0, rfl⟩
  · cases e
/-- e.k -/
def eFldX (i : Nat) (a dx : Addr) (hf : Bool) (k : PySem.Str) : M Vl := fun ρ => match ρ[i]? with
  | some (.xa b dy (some (n, y))) => if b = a ∧ dy = dx ∧ n = k ∧ hf = true then some (.fz y, ρ) else none
  | _ => none
theorem um_fldx {k : PySem.Str} {hf : Bool} : UM i (.xa 0 0 f) (.xa a dx f) (eFldX i 0 0 hf k) (eFldX i a dx hf k) := fun ρ r ρ1 h0 e => by
  unfold eFldX at e ⊢
  have hi : i < ρ.length := (List.getElem?_eq_some_iff.mp h0).1
  rw [h0] at e
  rw [List.getElem?_set_self hi]
  cases f with
  | none => cases e
  | some p =>
    obtain ⟨n, y⟩ := p
    dsimp only at e ⊢
    split at e
    · rename_i hc
      rw [if_pos ⟨rfl, rfl, hc.2.2⟩]
      cases e
      exact ⟨h0, rfl⟩
    · cases e
theorem um_look {ρ : Rho} {r : Vl} {x : D} (h0 : ρ[i]? = some (.xa 0 0 f)) (e : look ρ r = some x) : look (ρ.set i (.xa a dx f)) r = some x := by
  cases r with
  | fz y => exact e
  | fr y => exact e
  | bw j =>
    unfold look at e ⊢
    by_cases ne : j = i
    · subst ne
      dsimp only at e
      rw [h0] at e
      cases e
    · dsimp only at e ⊢
      rw [set_ne ne]
      exact e
theorem um_bin {g : D → D → Option D} (h1 : UM i (.xa 0 0 f) (.xa a dx f) b b') (h2 : UM i (.xa 0 0 f) (.xa a dx f) c c') : UM i (.xa 0 0 f) (.xa a dx f) (eBin g b c) (eBin g b' c') := fun ρ r ρ1 h0 e => by
  unfold eBin at e ⊢
  obtain ⟨⟨x, ρ2⟩, e1, e⟩ := Option.bind_eq_some_iff.mp e
  obtain ⟨⟨y, ρ3⟩, e2, e⟩ := Option.bind_eq_some_iff.mp e
  obtain ⟨dx', e3, e⟩ := Option.bind_eq_some_iff.mp e
  obtain ⟨dy, e4, e⟩ := Option.bind_eq_some_iff.mp e
  obtain ⟨dz, e5, e⟩ := Option.bind_eq_some_iff.mp e
  obtain ⟨k, q1⟩ := h1 ρ x ρ2 h0 e1
  obtain ⟨k2, q2⟩ := h2 ρ2 y ρ3 k e2
  cases e
  rw [q1]; dsimp only [Option.bind_some]; rw [q2]; dsimp only [Option.bind_some]
  rw [um_look k2 e3]; dsimp only [Option.bind_some]; rw [um_look k2 e4]; dsimp only [Option.bind_some]
  rw [e5]
  exact ⟨k2, rfl⟩
theorem um_un {g : D → Option D} (h1 : UM i (.xa 0 0 f) (.xa a dx f) b b') : UM i (.xa 0 0 f) (.xa a dx f) (eUn g b) (eUn g b') := fun ρ r ρ1 h0 e => by
  unfold eUn at e ⊢
  obtain ⟨⟨x, ρ2⟩, e1, e⟩ := Option.bind_eq_some_iff.mp e
  obtain ⟨dx', e3, e⟩ := Option.bind_eq_some_iff.mp e
  obtain ⟨dz, e5, e⟩ := Option.bind_eq_some_iff.mp e
  obtain ⟨k, q1⟩ := h1 ρ x ρ2 h0 e1
  cases e
  rw [q1]; dsimp only [Option.bind_some]
  rw [um_look k e3]; dsimp only [Option.bind_some]
  rw [e5]
  exact ⟨k, rfl⟩
variable {l l' : M (List Vl)}
theorem um_nil : UM i (.xa 0 0 f) (.xa a dx f) aNil aNil := fun ρ r ρ1 h0 e => by
  cases e
  exact ⟨h0, rfl⟩
theorem um_cons (h1 : UM i (.xa 0 0 f) (.xa a dx f) b b') (h2 : UM i (.xa 0 0 f) (.xa a dx f) l l') : UM i (.xa 0 0 f) (.xa a dx f) (aCons b l) (aCons b' l') := fun ρ r ρ1 h0 e => by
  unfold aCons at e ⊢
  obtain ⟨⟨x, ρ2⟩, e1, e⟩ := Option.bind_eq_some_iff.mp e
  obtain ⟨⟨xs, ρ3⟩, e2, e⟩ := Option.bind_eq_some_iff.mp e
  obtain ⟨k, q1⟩ := h1 ρ x ρ2 h0 e1
  obtain ⟨k2, q2⟩ := h2 ρ2 xs ρ3 k e2
  cases e
  rw [q1]; dsimp only [Option.bind_some]; rw [q2]
  exact ⟨k2, rfl⟩
theorem um_ag1 : ∀ {fs : List Bool} {rs : List Vl} {ρ ρ1 : Rho} {ts : List (D ⊕ Nat)}, ρ[i]? = some (.xa 0 0 f) → ag1 fs rs ρ = some (ts, ρ1) → ρ1[i]? = some (.xa 0 0 f) ∧ ag1 fs rs (ρ.set i (.xa a dx f)) = some (ts, ρ1.set i (.xa a dx f))
  | fs, [], ρ, ρ1, ts, h0, e => by
    unfold ag1 at e ⊢
    cases e
    exact ⟨h0, rfl⟩
  | fs, r :: rs, ρ, ρ1, ts, h0, e => by
    unfold ag1 at e ⊢
    split at e
    · rename_i hf
      rw [if_pos hf]
      cases r with
      | bw j =>
        obtain ⟨⟨us, ρ2⟩, e1, e⟩ := Option.bind_eq_some_iff.mp e
        obtain ⟨k, q⟩ := um_ag1 h0 e1
        cases e
        dsimp only
        rw [q]
        exact ⟨k, rfl⟩
      | fz y => cases e
      | fr y => cases e
    · rename_i hf
      rw [if_neg hf]
      obtain ⟨⟨x, ρ2⟩, e1, e⟩ := Option.bind_eq_some_iff.mp e
      obtain ⟨⟨us, ρ3⟩, e2, e⟩ := Option.bind_eq_some_iff.mp e
      obtain ⟨k, q⟩ := um_frz (a := a) (dx := dx) h0 e1
      obtain ⟨k2, q2⟩ := um_ag1 k e2
      cases e
      rw [q]; dsimp only [Option.bind_some]; rw [q2]
      exact ⟨k2, rfl⟩
theorem um_ag2 {ρ : Rho} (h0 : ρ[i]? = some (.xa 0 0 f)) : ∀ {ts : List (D ⊕ Nat)} {gs : List Ag}, ag2 ρ ts = some gs → agI ts = [] → ag2 (ρ.set i (.xa a dx f)) ts = some gs
  | [], gs, e, _ => by unfold ag2 at e ⊢; exact e
  | .inl x :: r, gs, e, n => by
    unfold ag2 at e ⊢
    obtain ⟨gs', e1, e⟩ := Option.bind_eq_some_iff.mp e
    cases e
    rw [um_ag2 h0 e1 (by unfold agI at n; exact n)]
    rfl
  | .inr j :: r, gs, e, n => by unfold agI at n; cases n
/-- a call of a def that only reads data -/
def eCall0 (g : Fn) (m : M (List Vl)) : M Vl := fun ρ => (m ρ).bind fun p => (ag1 [] p.1 p.2).bind fun q => (ag2 q.2 q.1).bind fun gs => if agI q.1 = [] then (g gs).bind fun z => match z.1 with
  | .fz x => some (.fz x, q.2)
  | _ => none else none
theorem um_call {g : Fn} (h1 : UM i (.xa 0 0 f) (.xa a dx f) l l') : UM i (.xa 0 0 f) (.xa a dx f) (eCall0 g l) (eCall0 g l') := fun ρ r ρ1 h0 e => by
  unfold eCall0 at e ⊢
  obtain ⟨⟨xs, ρ2⟩, e1, e⟩ := Option.bind_eq_some_iff.mp e
  obtain ⟨⟨ts, ρ3⟩, e2, e⟩ := Option.bind_eq_some_iff.mp e
  obtain ⟨gs, e3, e⟩ := Option.bind_eq_some_iff.mp e
  obtain ⟨k, q1⟩ := h1 ρ xs ρ2 h0 e1
  obtain ⟨k2, q2⟩ := um_ag1 (a := a) (dx := dx) k e2
  split at e
  · rename_i hn
    obtain ⟨z, e4, e⟩ := Option.bind_eq_some_iff.mp e
    rw [q1]; dsimp only [Option.bind_some]; rw [q2]; dsimp only [Option.bind_some]; rw [um_ag2 k2 e3 hn]; dsimp only [Option.bind_some]
    rw [if_pos hn, e4]
    dsimp only [Option.bind_some]
    split at e
    · cases e; exact ⟨k2, rfl⟩
    · cases e
  · cases e
end

/-- a, b = f(..), f a def that raises -/
theorem ss_asgTX {X : Cx} {Wx : WX} {tg e : Expr} {me : M Vl} {x : XS} {is : List Nat} {g : D → Rho → Option Rho} {pos : Pos} (he : SEX X Wx e me x) (hg : SG X tg is g) (hs : swapsWithSole [tg] e pos.line X.env = pure false := by rfl) (hw : swappedStores [tg] e X.env = pure none := by rfl)
    (h1 : (assignEach [tg] X.env).map (·.2) = [assign tg X.env] := by rfl) : SSW X Wx (.Assign [tg] e pos) (sX (sAsgT me g) x) := by
  refine ps_weak (ps_asg he hg hs hw h1) fun D σ H h => ?_
  rcases tsx_of h with ⟨G, ρ, F, fl, ρ', W, hm, q⟩ | h
  · unfold sAsgT at hm
    obtain ⟨⟨r, ρ1⟩, e1, hm⟩ := Option.bind_eq_some_iff.mp hm
    refine .inl ⟨G, ρ, F, r, ρ1, W, e1, fun v H1 F1 s1 R => ?_⟩
    split at hm
    · rename_i x hx
      dsimp only at hx
      subst hx
      obtain ⟨ρ2, e2, hm⟩ := Option.bind_eq_some_iff.mp hm
      cases hm
      exact ⟨G, ρ1, F1, x, _, s1.wd, R, e2, fun σ2 W2 _ => q σ2 H1 F1 W2 s1.ff⟩
    · cases hm
  · exact .inr h

/-! ### try -/
def sTry (i : Nat) (ca : Exn → Option Bool) (b : S) (su : Addr → Addr → Exn → S) : S := fun ρ => (b ρ).bind fun p => match p.1 with
  | .ex e => match p.2[i]? with
    | some .no => (ca e).bind fun c => if c = true then (su 0 0 e (p.2.set i (.xa 0 0 e.f))).bind fun q => (match q.1 with
      | .ex _ => none
      | fl => some (fl, q.2.set i .no)) else some (.ex e, p.2)
    | _ => none
  | fl => some (fl, p.2)
theorem wd_unset {K : PySem.W.Frag} {G : Gd} {ρ : Rho} {σ : L2.St} {H F : Hp} {i : Nat} {s0 : Sl} (W : Wd K G ρ σ H F) (h0 : ρ[i]? = some s0) (nio : ∀ xs, s0 ≠ .io xs) : Wd K G (ρ.set i .no) (σ.set i none) H F := by
  have h := wd_wipe (vs := [i]) (σ' := σ.set i none) W (fun j hj => List.getElem?_set_ne (fun e => hj (by rw [e]; exact List.mem_cons_self))) (by rw [List.length_set]) (fun v hv s e xs z => by
    cases hv with
    | head => rw [h0] at e; cases e; exact nio xs z
    | tail _ h => cases h)
  exact h
section
variable {X : Cx} {Wx : WX} {x n : Str} {c : Value} {i : Nat} {body suite : List Stmt} {b₀ : Stmt} {np pos pos' : Pos} {mb : S} {su : Addr → Addr → Exn → S} {ca : Exn → Option Bool}
theorem ss_try (hs : X.stack = X.env :: X.outer) (hf : X.env.frame = some X.env.locals) (hN : X.N.Nodup) (hi : X.N[i]? = some n) (hln : X.env.kindOf n = some .local) (hc : Names X x c) (tk : L2N.Takes X Wx)
    (hca : ∀ e b C, ca e = some b → ClsN X.K e.c C → PySem.W.exmOne X.K (.ref C) c = some b)
    (uni : ∀ a dx e, UM i (.xa 0 0 e.f) (.xa a dx e.f) (su 0 0 e) (su a dx e))
    (hb : ∀ (W : WX) (pn : List (Addr × Obj)) (xe : Value → Shared → Prop), L2N.Takes (X.tr pn xe) W → PassesOwn (model X.prog X.w) X.A X.env xe → SBW (X.tr pn xe) W body mb)
    (hsu : ∀ (a C dx : Addr) (oe : Obj) (d : Option Addr) (pn : List (Addr × Obj)) (e : Exn), ca e = some true → ClsN X.K e.c C → (e.f = none → d = none) → (e.f ≠ none → d = some dx) → L2N.Zn (.ref C) d oe → (∃ vs, oe.data = .fields vs) → SBW (X.suite a ((a, oe) :: pn)) WF (b₀ :: suite) (su a dx e)) :
    SSW X Wx (.Try body [.ExceptHandler (some (.Name x np)) (some n) (b₀ :: suite) pos'] [] [] pos) (sTry i ca mb su) := by
  refine ps_weak (L2N.ps_try_as (tb := fun W => tSW X.K W mb) (ts := fun a cls d D σ H => ∃ (e : Exn) (C dx : Addr), ca e = some true ∧ ClsN X.K e.c C ∧ cls = .ref C ∧ (e.f = none → d = none) ∧ (e.f ≠ none → d = some dx) ∧ tSW X.K WF (su a dx e) D σ H) (Wout := Wx) (c := c)
    hs hf hN hi hln hc tk hb (fun a oe cls d pn hz hfl => ⟨fun pins s σ H D I q => ?_⟩)) fun D σ H ⟨G, ρ, F, fl, ρ', W, hm, q⟩ => ?_
  · obtain ⟨e, C, dx, hce, cn, rfl, r1, r2, h⟩ := q
    exact (hsu a C dx oe d pn e hce cn r1 r2 hz hfl).run pins s σ H D I h
  · unfold sTry at hm
    obtain ⟨⟨f1, ρ1⟩, e1, hm⟩ := Option.bind_eq_some_iff.mp hm
    refine ⟨G, ρ, F, f1, ρ1, W, e1, fun σ' H' F' W' ff => ?_⟩
    cases f1 with
    | nx => cases hm; exact q σ' H' F' W' ff
    | bk => cases hm; exact q σ' H' F' W' ff
    | ct => cases hm; exact q σ' H' F' W' ff
    | rt v => cases hm; exact q σ' H' F' W' ff
    | ex e =>
      intro cls d R
      have R0 := R
      obtain ⟨C, cn, rfl, r1, r2⟩ := R
      dsimp only at hm
      split at hm
      · rename_i hno
        obtain ⟨b, eb, hm⟩ := Option.bind_eq_some_iff.mp hm
        refine ⟨b, hca e b C eb cn, fun hb a na => ?_, fun hb => ?_⟩
        · rw [if_pos hb] at hm
          obtain ⟨⟨f2, ρ2⟩, e2, hm⟩ := Option.bind_eq_some_iff.mp hm
          obtain ⟨dx, hd, hx⟩ : ∃ dx, (e.f ≠ none → d = some dx) ∧ XaR X.K F' dx e.f := by
            cases ef : e.f with
            | none => exact ⟨0, fun z => absurd rfl z, trivial⟩
            | some p =>
              obtain ⟨dx, h1, h2⟩ := r2 (by rw [ef]; exact fun z => nomatch z)
              rw [ef] at h2
              exact ⟨dx, fun _ => h1, h2⟩
          have hi1 : i < ρ1.length := (List.getElem?_eq_some_iff.mp hno).1
          have hiσ : i < σ'.length := by rw [← W'.len]; exact hi1
          obtain ⟨u1, u2⟩ := uni a dx e _ _ _ (List.getElem?_set_self hi1) e2
          rw [List.set_set] at u2
          have W1 : Wd X.K G (ρ1.set i (.xa a dx e.f)) (σ'.set i (some (.ref a))) H' F' := W'.set hno (fun _ z => nomatch z) (fun _ z => nomatch z) ⟨List.getElem?_set_self hiσ, hx⟩ (fun _ _ z => nomatch z)
          refine ⟨e, C, dx, (by rw [← hb]; exact eb), cn, rfl, r1, hd, G, _, F', f2, _, W1, u2, fun σ3 H3 F3 W3 f3 => ?_⟩
          have hi2 : i < ρ2.length := (List.getElem?_eq_some_iff.mp u1).1
          have W4 : Wd X.K G (ρ2.set i .no) (σ3.set i none) H3 F3 := by
            have := wd_unset W3 (List.getElem?_set_self hi2) (fun _ z => nomatch z)
            rw [List.set_set] at this
            exact this
          cases f2 with
          | nx => cases hm; exact q _ H3 F3 W4 (ff.trans f3)
          | bk => cases hm; exact q _ H3 F3 W4 (ff.trans f3)
          | ct => cases hm; exact q _ H3 F3 W4 (ff.trans f3)
          | rt v => cases hm; exact q _ H3 F3 W4 (ff.trans f3)
          | ex y => cases hm
        · rw [if_neg (by rw [hb]; decide)] at hm
          cases hm
          exact q σ' H' F' W' ff _ _ R0
      · cases hm
end
/-! ### isinstance of the caught exception -/
/-- isinstance(e, c): D its class, d its dict -/
def rIsX (K : PySem.W.Frag) (D a : Addr) (d : Option Addr) : List V → Hp → VK → Prop := fun xs H Q => ∃ (c : V) (u : Value) (b : Bool), xs = [.ref a, c] ∧ ClsV c u ∧ PySem.W.kitOne K (.ref D) u = some b ∧ (∀ dx, d = some dx → ∃ fs, H dx = some (.xd fs)) ∧ Q (.bl b) H
/-- isinstance(e, (A, B, ..)) -/
def rIsXT (K : PySem.W.Frag) (D a : Addr) (d : Option Addr) : List V → Hp → VK → Prop := fun xs H Q => ∃ (tp : Addr) (cs : List V) (us : List Value) (b : Bool), xs = [.ref a, .ref tp] ∧ H tp = some (.tup cs) ∧ Paired ClsV cs us ∧ PySem.W.kitAny K (.ref D) us = some b ∧ (∀ dx, d = some dx → ∃ fs, H dx = some (.xd fs)) ∧ Q (.bl b) H
section
variable {X : Cx} {a D : Addr} {oe : Obj} {d : Option Addr} {pn : List (Addr × Obj)}
theorem kit_exc (C : ExcC X.K D) (hz : L2N.Zn (.ref D) d oe) (hf : ∃ vs, oe.data = .fields vs) {pins : List (Addr × Obj)} {σ : L2.St} {H : Hp} {s : Shared} (I : Inv (X.suite a ((a, oe) :: pn)) pins σ H s) (hd : ∀ dx, d = some dx → ∃ fs, H dx = some (.xd fs)) :
    ∃ P : Heap → Prop, PySem.W.KitX X.K (.ref a) (.ref D) P ∧ P s.heap := by
  obtain ⟨hget, _⟩ := I.pin (a, oe) (List.mem_append.mpr (.inl List.mem_cons_self))
  obtain ⟨vs, hv⟩ := hf
  have hcl : (PySem.W.clsIn X.K D).isSome = true := by
    obtain ⟨cd, hc, _⟩ := PySem.W.any_some C.hd
    rw [hc]
    rfl
  obtain ⟨od, J⟩ : ∃ od, PySem.W.InstAt s.heap a oe D od := by
    have nc : PySem.W.notCls oe = true := by unfold PySem.W.notCls; rw [hv] <;> rfl
    cases e : d with
    | none => exact ⟨none, hget, hz.1, nc, by rw [hz.2.1, e]; trivial⟩
    | some dx =>
      obtain ⟨fs, ea⟩ := hd dx e
      obtain ⟨mA, hns, hr⟩ := (show ObjOk X.prog X.w H s.heap dx (.xd fs) from I.hok dx _ ea)
      obtain ⟨od, ho, hl⟩ := lookIn_ns hns
      exact ⟨some od, hget, hz.1, nc, by rw [hz.2.1, e]; exact ho⟩
  exact ⟨_, PySem.W.kitx_exc (od := od) hcl C.hg C.hk C.hs C.ha C.hn C.ht C.hm, J⟩
theorem call_isX (C : ExcC X.K D) (hz : L2N.Zn (.ref D) d oe) (hf : ∃ vs, oe.data = .fields vs) : CallR (X.suite a ((a, oe) :: pn)) (.builtin "isinstance") (rIsX X.K D a d) := by
  intro pins s σ H xs us Q I r h
  obtain ⟨c, u, b, rfl, k, e, hd, q⟩ := h
  obtain ⟨u1, u2, rfl, r1, r2⟩ := vals2 r
  cases (show u1 = Value.ref a from r1)
  have e2 := k.eq r2
  subst e2
  obtain ⟨P, Z, p⟩ := kit_exc C hz hf I hd
  exact PySem.W.kia_one Z I.kIn p e (fun z => nomatch z) fun tk => ⟨.bl b, H, I.tok tk, rfl, q⟩
theorem call_isXT (C : ExcC X.K D) (hz : L2N.Zn (.ref D) d oe) (hf : ∃ vs, oe.data = .fields vs) : CallR (X.suite a ((a, oe) :: pn)) (.builtin "isinstance") (rIsXT X.K D a d) := by
  intro pins s σ H xs us Q I r h
  obtain ⟨tp, cs, ws, b, rfl, hT, k, e, hd, q⟩ := h
  obtain ⟨u1, u2, rfl, r1, r2⟩ := vals2 r
  cases (show u2 = Value.ref tp from r2)
  cases (show u1 = Value.ref a from r1)
  obtain ⟨P, Z, p⟩ := kit_exc C hz hf I hd
  obtain ⟨_, its, rv, o, h1, h2, n, h3⟩ := (show ObjOk X.prog X.w H s.heap tp (.tup cs) from I.hok tp _ hT)
  have e3 := ClsV.all k rv
  subst e3
  obtain ⟨oc, od, dt, sl⟩ := o
  simp only at h2 h3
  subst h2 h3
  exact PySem.W.kia_tup Z I.kIn p h1 e (fun z => nomatch z) fun tk => ⟨.bl b, H, I.tok tk, rfl, q⟩
end
section
variable {X : Cx} {a D dx : Addr} {hf : Bool} {d : Option Addr} {oe : Obj} {pn : List (Addr × Obj)} {i : Nat} {o : Option Bool} {p p2 pos : Pos} {ec : Expr} {x : Str} {cv : V} {u : Value}
theorem isx_of {K : PySem.W.Frag} {G : Gd} {ρ ρ' : Rho} {σ : L2.St} {H F : Hp} {r0 : Vl} (hd0 : hf = false → d = none) (hd1 : hf = true → d = some dx) (W : Wd K G ρ σ H F) (hm : eIsx i a dx hf o ρ = some (r0, ρ')) : σ[i]? = some (some (.ref a)) ∧ (∀ dx, d = some dx → ∃ fs, H dx = some (.xd fs)) ∧ ∃ c, o = some c ∧ r0 = .fz (.bl c) ∧ ρ' = ρ := by
  unfold eIsx at hm
  split at hm
  · rename_i b dy f hx
    split at hm
    · rename_i hb
      obtain ⟨rfl, rfl, h3⟩ := hb
      obtain ⟨c, e1, hm⟩ := Option.bind_eq_some_iff.mp hm
      cases hm
      obtain ⟨s1, s2⟩ := W.sl i _ hx
      refine ⟨s1, fun dx' e => ?_, c, e1, rfl, rfl⟩
      cases hf with
      | false => rw [hd0 rfl] at e; cases e
      | true =>
        rw [hd1 rfl] at e
        cases e
        cases f with
        | none => cases h3
        | some q =>
          obtain ⟨k, y⟩ := q
          obtain ⟨v, e2, _⟩ := s2
          exact ⟨_, W.sub _ _ e2⟩
    · cases hm
  · cases hm
theorem se_isx (hci : CallR X (.builtin "isinstance") (rIsX X.K D a d)) (hd0 : hf = false → d = none) (hd1 : hf = true → d = some dx) (hm : X.mg "isinstance" = none) (hg : Gl X "isinstance") (he : PE X (.Name x p2) (tVar i)) (hec : PE X ec (tC cv)) (hcv : ClsV cv u) (ho : ∀ b, o = some b → PySem.W.kitOne X.K (.ref D) u = some b)
    (hs : starEach [.Name x p2, ec] X.env = (false, eval (.Name x p2) X.env) :: starEach [ec] X.env := by rfl) (hs2 : starEach [ec] X.env = (false, eval ec X.env) :: starEach [] X.env := by rfl) (hpl : (backTo pos (starEach [ec] X.env)).any (·.1) = false := by rfl) :
    SE X (.Call (.Name "isinstance" p) [.Name x p2, ec] [] pos) (eIsx i a dx hf o) := by
  refine pe_weak (pe_callB hci hg hm (by decide +kernel) (pa_cons he (pa_cons hec pa_nil hs2) hs) (by decide) (by decide) hs hpl) fun σ H Q ⟨G, ρ, F, r0, ρ', W, hm, q⟩ => ?_
  obtain ⟨s1, s2, c, e1, rfl, rfl⟩ := isx_of hd0 hd1 W hm
  exact ⟨.ref a, s1, _, _, c, rfl, hcv, ho c e1, s2, q _ H F (Ste.refl W) (.bl c)⟩
/-- class names of a tuple -/
inductive ClsEs (X : Cx) : List Expr → List V → List Value → Prop where
  | nil : ClsEs X [] [] []
  | cons {e : Expr} {es : List Expr} {v : V} {vs : List V} {u : Value} {us : List Value} (h : PE X e (tC v)) (hc : ClsV v u) (hs : starEach (e :: es) X.env = (false, eval e X.env) :: starEach es X.env) (r : ClsEs X es vs us) : ClsEs X (e :: es) (v :: vs) (u :: us)
def tCs : List V → TA
  | [] => tNil
  | v :: vs => tCons (tC v) (tCs vs)
theorem ClsEs.pa {X : Cx} : ∀ {es : List Expr} {vs : List V} {us : List Value}, ClsEs X es vs us → PA X es (tCs vs) ∧ Paired ClsV vs us
  | _, _, _, .nil => ⟨pa_nil, .nil⟩
  | _, _, _, .cons h hc hs r => ⟨pa_cons h r.pa.1 hs, .cons hc r.pa.2⟩
theorem tCs_of : ∀ {vs : List V} {σ : L2.St} {H : Hp} {Q : List V → Hp → Prop}, Q vs H → tCs vs σ H Q
  | [], _, _, _, q => q
  | v :: vs, σ, H, Q, q => by
    show tC v σ H fun x H1 => tCs vs σ H1 fun xs H2 => Q (x :: xs) H2
    exact tCs_of (Q := fun xs H2 => Q (v :: xs) H2) q
theorem se_isxT {es : List Expr} {vs : List V} {us : List Value} {ep : Pos} {x1 : _} (hci : CallR X (.builtin "isinstance") (rIsXT X.K D a d)) (hd0 : hf = false → d = none) (hd1 : hf = true → d = some dx) (hm : X.mg "isinstance" = none) (hg : Gl X "isinstance") (he : PE X (.Name x p2) (tVar i)) (hes : ClsEs X es vs us) (hlen : es.length ≤ 20) (hz : vs.length = es.length)
    (ho : ∀ b, o = some b → PySem.W.kitAny X.K (.ref D) us = some b)
    (hs : starEach [.Name x p2, .Tuple es x1 ep] X.env = (false, eval (.Name x p2) X.env) :: starEach [.Tuple es x1 ep] X.env := by rfl) (hs2 : starEach [.Tuple es x1 ep] X.env = (false, eval (.Tuple es x1 ep) X.env) :: starEach [] X.env := by rfl) (hpl : (backTo pos (starEach [.Tuple es x1 ep] X.env)).any (·.1) = false := by rfl) :
    SE X (.Call (.Name "isinstance" p) [.Name x p2, .Tuple es x1 ep] [] pos) (eIsx i a dx hf o) := by
  refine pe_weak (pe_callB hci hg hm (by decide +kernel) (pa_cons he (pa_cons (pe_tup hes.pa.1) pa_nil hs2) hs) (by decide) (by decide) hs hpl) fun σ H Q ⟨G, ρ, F, r0, ρ', W, hm, q⟩ => ?_
  obtain ⟨s1, s2, c, e1, rfl, rfl⟩ := isx_of hd0 hd1 W hm
  refine ⟨.ref a, s1, ?_⟩
  refine tCs_of (Q := _) ⟨by rw [hz]; rw [sizeLine_eq]; omega, fun tp hp => ?_⟩
  have A := Alc.new (o := HO.tup vs) W.sub hp
  exact ⟨tp, vs, us, c, rfl, upd_same, hes.pa.2, ho c e1, fun dx e => let ⟨fs, h⟩ := s2 dx e; ⟨fs, by rw [upd_ne (fun z => by rw [z, hp] at h; cases h)]; exact h⟩, q _ _ _ (W.alc A) (.bl c)⟩
/-- e.k -/
theorem se_fldx {n : Str} (C : ExcC X.K D) (hno : PySem.W.findIn X.K (.ref D) n = some none) (hz : L2N.Zn (.ref D) d oe) (hfl : ∃ vs, oe.data = .fields vs) (hd1 : hf = true → d = some dx) (he : PE (X.suite a ((a, oe) :: pn)) (.Name x p2) (tVar i))
    (hb : attributeBase (.Name x p2) n X.env (eval (.Name x p2) X.env) = eval (.Name x p2) X.env := by rfl) : SE (X.suite a ((a, oe) :: pn)) (.Attribute (.Name x p2) n pos) (eFldX i a dx hf n) := by
  refine pe_weak (pe_xf ⟨C.hg, C.hk, C.hs, C.hd⟩ hno hz.zc hfl he hb) fun σ H Q ⟨G, ρ, F, r0, ρ', W, hm, q⟩ => ?_
  unfold eFldX at hm
  split at hm
  · rename_i b dy k y hx
    split at hm
    · rename_i hbb
      obtain ⟨rfl, rfl, rfl, hhf⟩ := hbb
      cases hm
      obtain ⟨s1, v, e2, R⟩ := W.sl i _ hx
      exact ⟨.ref b, s1, rfl, rfl, dy, _, v, hd1 hhf, W.sub _ _ e2, by simp [List.lookup], q v H F (Ste.refl W) R⟩
    · cases hm
  · cases hm
end
/-! ### a def called in an except suite -/
theorem hd0_of {f : Option (PySem.Str × D)} {d : Option Addr} (r : f = none → d = none) : f.isSome = false → d = none := fun h => r (by cases f with
  | none => rfl
  | some _ => cases h)
theorem hd1_of {f : Option (PySem.Str × D)} {d : Option Addr} {dx : Addr} (r : f ≠ none → d = some dx) : f.isSome = true → d = some dx := fun h => r (fun z => by rw [z] at h; cases h)
theorem huH {k : Nat} {A : Around} (r : L2H.RoomH k A) : A.units + 64 < cLine := by have := r.un; omega
theorem hot_suite {X : Cx} {a : Addr} {oe : Obj} {c : Value} {d : Option Addr} {pn : List (Addr × Obj)} (hz : L2N.Zn c d oe) (hf : ∃ vs, oe.data = .fields vs) : L2H.HotC (X.suite a ((a, oe) :: pn)) := by
  obtain ⟨vs, hv⟩ := hf
  exact ⟨(a, oe), ⟨rfl, vs, hv, hz.2.2 vs hv⟩, List.mem_cons_self⟩
section
variable {X : Cx} {f : Fn} {ms : M (List Vl)} {n k : Nat} {fa : Addr} {fd : FuncData} {ps : List Str} {x : Str} {e : Expr} {es : List Expr} {p pos : Pos}
theorem se_callH (F : L2H.FnH X.prog X.w X.K X.mg X.base CX0 k fa fd ps (spF X.K n f)) (hc : L2H.HotC X) (hn : ∀ gs z, f gs = some z → gs.length = n) (hr : L2H.RoomH k X.A) (hm : X.mg x = some (.ref fa)) (hk : PySem.W.keepIn X.K (.ref fa) = true) (hb : Binds X.K fd ps []) (hg : Gl X x)
    (ha : SA X (e :: es) ms) (hdb : (x == ("__debug__" : Str)) = false := by decide) (he : starEach (e :: es) X.env = (false, eval e X.env) :: starEach es X.env := by rfl) (hpl : (backTo pos (starEach es X.env)).any (·.1) = false := by rfl) :
    SE X (.Call (.Name x p) (e :: es) [] pos) (eCall0 f ms) := pe_weak (L2H.pe_callH (E := fun _ => E0) F hr hc hg hm hk hb (fun σ pins H s e s' I h => pass0 pins σ H s e s' I h) ha hdb he hpl) fun σ H Q ⟨G, ρ, F, r0, ρ', W, hm, q⟩ => by
  have h2 : eCall f [] ms ρ = some (r0, ρ') := by
    unfold eCall0 at hm
    obtain ⟨⟨xs, ρ2⟩, e1, hm⟩ := Option.bind_eq_some_iff.mp hm
    obtain ⟨⟨ts, ρ3⟩, e2, hm⟩ := Option.bind_eq_some_iff.mp hm
    obtain ⟨gs, e3, hm⟩ := Option.bind_eq_some_iff.mp hm
    split at hm
    · rename_i hi
      obtain ⟨z, e4, hm⟩ := Option.bind_eq_some_iff.mp hm
      unfold eCall
      rw [e1]; dsimp only [Option.bind_some]; rw [e2]; dsimp only [Option.bind_some]; rw [e3]; dsimp only [Option.bind_some]
      dsimp only at hi
      rw [if_pos (by rw [hi]; exact List.nodup_nil), e4]
      dsimp only [Option.bind_some]
      obtain ⟨z1, z2⟩ := z
      cases z1 with
      | fz y => cases hm; rw [hi]; dsimp only; unfold puts; rfl
      | fr y => cases hm
      | bw y => cases hm
    · cases hm
  obtain ⟨rs, ρ1, e1, w⟩ := tcall_core (E := E0) hn W h2 q
  exact ⟨G, ρ, F, rs, ρ1, W, e1, fun vs H1 F1 s1 R1 => w vs H1 F1 s1 R1⟩
end
theorem fn_okH {P : Program} {w : World} {K : PySem.W.Frag} {mg : Str → Option Value} {base : Heap} {x qual : Str} {st : Stmt} {f : Addr} {fd : FuncData} {N ps : List Str} {k n nl : Nat} {m : S} (Fu : FunG K x qual st f fd) (Sc : FnScope N ps (defScope st)) (hn : ps.length = n) (hl : N.length = nl) (hle : n ≤ nl)
    (hb : ∀ (cdv : Value) (A : Around) (outer : List Env) (s : Shared) (H : Hp) (E : XK) (p : Addr × Obj), L2H.RoomH k (A.deeper (envOfC qual (defScope st) s.heap.objs.size f cdv)) → SB (L2H.cxH CX0 P w K mg base N qual (defScope st) f cdv A outer s H E p) (defBody st) m) :
    L2H.FnH P w K mg base CX0 (k + 1) f fd ps (spF K n (fnS n nl m)) := by
  obtain ⟨oc, od, dV, kV, doc, pm, an, cdv, ct, osl, rfl, lk, hcd⟩ := Fu.ex
  refine L2H.fn_ofH lk hcd Sc (fun vs H Q E h => by rw [h.1, hn]) (fun A outer s H vs Q E p hot hr h => ?_)
  obtain ⟨hv, F, gs, r, os, sub, AR, nd, hf, q⟩ := h
  refine ⟨_, hb cdv A outer s H E p hr, ?_⟩
  unfold fnS at hf
  split at hf
  · rename_i hgs
    obtain ⟨⟨fl, ρ'⟩, e1, hf⟩ := Option.bind_eq_some_iff.mp hf
    have W := wd_start AR nd sub hgs hl hle
    have snd := iaOf_snd 0 AR
    have le : gs.length ≤ (gs.map slOf ++ List.replicate (nl - n) Sl.no).length := by rw [List.length_append, List.length_map]; omega
    have outs : ∀ {σ' : L2.St} {H' F' : Hp}, Wd K ⟨H, F, iaOf 0 vs gs, nl⟩ ρ' σ' H' F' → σ'.length = nl → OutsR K F' H' (liA vs gs) (outsOf gs ρ') := fun {σ' H' F'} W' hσ => by
      refine outs_ok (G := ⟨H, F, iaOf 0 vs gs, nl⟩) (σ := σ') 0 AR (fun i s' e => by rw [Nat.zero_add]; exact W'.sl i s' e) (fun i a xs h1 h2 => ?_) ?_
      · have := mem_iaOf 0 AR h1 h2
        have z := W'.ai _ _ this
        rw [Nat.zero_add] at z
        exact ⟨z.1, by rw [Nat.zero_add]; exact z.2⟩
      · have := W'.len
        omega
    refine ⟨⟨H, F, iaOf 0 vs gs, nl⟩, _, F, fl, ρ', W, e1, fun σ' H' F' W' ff => ?_⟩
    have kp : ∀ b o, H b = some o → b ∉ liA vs gs → H' b = some o := fun b o h h2 => W'.kp b o h (by rw [snd]; exact h2)
    have hσ : σ'.length = nl := W'.gl
    cases fl with
    | nx => cases hf; exact q _ H' F' ff W'.sub kp W'.nw (outs W' hσ) .non
    | bk => cases hf
    | ct => cases hf
    | ex x => cases hf
    | rt z =>
      cases z with
      | fz y => cases hf; exact fun v R => q v H' F' ff W'.sub kp W'.nw (outs W' hσ) R
      | fr y => cases hf; exact fun v R => q v H' F' ff W'.sub kp W'.nw (outs W' hσ) R
      | bw y => cases hf
  · cases hf
/-! ### what the text says of exceptions' classes -/
theorem kit_own {K : PySem.W.Frag} {D C : Addr} {b : Bool} (h1 : PySem.W.isClsIn K C = true) (h2 : PySem.W.typeIn K (.ref C) = some (.type "type")) (h3 : PySem.W.subIn K (.ref D) (.ref C) = some b) (hb : D = C → b = true) : PySem.W.kitOne K (.ref D) (.ref C) = some b := by
  unfold PySem.W.kitOne
  split
  · rename_i z
    have e : D = C := Value.ref.inj (beq_iff_eq.mp z)
    rw [hb e]
  · show (if ((PySem.W.clsIn K C).isSome && PySem.W.typeIn K (.ref C) == some (.type "type")) = true then PySem.W.subIn K (.ref D) (.ref C) else none) = some b
    have h1' : (PySem.W.clsIn K C).isSome = true := h1
    rw [h1', h2, if_pos (by rfl)]
    exact h3
theorem kit_self {K : PySem.W.Frag} {C : Addr} : PySem.W.kitOne K (.ref C) (.ref C) = some true := by
  unfold PySem.W.kitOne
  rw [if_pos (by exact beq_self_eq_true _)]
theorem kit_blt {K : PySem.W.Frag} {D : Addr} {T : String} {b : Bool} (h1 : PySem.W.kitMeta T = true) (h3 : PySem.W.subIn K (.ref D) (.type T) = some b) : PySem.W.kitOne K (.ref D) (.type T) = some b := by
  unfold PySem.W.kitOne
  rw [if_neg (fun z => by cases beq_iff_eq.mp z)]
  show (if PySem.W.kitMeta T = true then PySem.W.subIn K (.ref D) (.type T) else none) = some b
  rw [if_pos h1]
  exact h3
def xAny (f : PySem.Str → Option Bool) : List PySem.Str → Option Bool
  | [] => some false
  | k :: ks => match f k with
    | some true => some true
    | some false => xAny f ks
    | none => none
/-- the tuple's classes, one by one -/
inductive KitL (K : PySem.W.Frag) (D : Addr) (f : PySem.Str → Option Bool) : List PySem.Str → List Value → Prop where
  | nil : KitL K D f [] []
  | cons {k : PySem.Str} {ks : List PySem.Str} {u : Value} {us : List Value} (h : ∀ b, f k = some b → PySem.W.kitOne K (.ref D) u = some b) (r : KitL K D f ks us) : KitL K D f (k :: ks) (u :: us)
theorem KitL.ok {K : PySem.W.Frag} {D : Addr} {f : PySem.Str → Option Bool} : ∀ {ks : List PySem.Str} {us : List Value}, KitL K D f ks us → ∀ b, xAny f ks = some b → PySem.W.kitAny K (.ref D) us = some b
  | _, _, .nil, b, h => by
    unfold xAny at h
    cases h
    rfl
  | _, _, .cons h r, b, e => by
    unfold xAny at e
    split at e
    · rename_i z
      cases e
      exact kitAny_cons (h _ z) (fun q => nomatch q) fun _ => rfl
    · rename_i z
      exact kitAny_cons (h _ z) (fun _ => r.ok b e) fun q => nomatch q
    · cases e
end Sw
/-! Sw28: reckoning with exceptions. -/
namespace Sw
open L2
section
variable {ρ : Rho} {s s' s'' : S} {x : XS} {QS : Fl → Rho → Prop} {i : Nat}
theorem sv_raise_l {c : PySem.Str} (h : QS (.ex ⟨c, none⟩) ρ) : Sv (sRaise0 c) ρ QS := ⟨_, _, rfl, h⟩
theorem sv_raise_s {c : PySem.Str} (h : QS (.ex ⟨c, none⟩) ρ) : Sv (sSeq (sRaise0 c) s) ρ QS := sv_seq ⟨_, _, rfl, h⟩
theorem sv_x (h : Sv s ρ QS) : Sv (sX s x) ρ QS := by
  obtain ⟨fl, ρ1, e, q⟩ := h
  exact ⟨fl, ρ1, by unfold sX; rw [e], q⟩
theorem sv_x_s (h : Sv (sSeq s s') ρ QS) : Sv (sSeq (sX s x) s') ρ QS := by
  obtain ⟨fl, ρ1, e, q⟩ := h
  refine ⟨fl, ρ1, ?_, q⟩
  have un : ∀ a : S, sSeq a s' ρ = (a ρ).bind fun p => match p.1 with
    | .nx => s' p.2
    | fl => some (fl, p.2) := fun _ => rfl
  rw [un] at e ⊢
  cases e1 : s ρ with
  | none => rw [e1] at e; cases e
  | some z =>
    have : sX s x ρ = some z := by unfold sX; rw [e1]
    rw [this, ← e1]
    exact e
theorem sv_xx {e : Exn} {ρ1 : Rho} (h1 : s ρ = none) (h2 : x ρ = some (e, ρ1)) (h : QS (.ex e) ρ1) : Sv (sX s x) ρ QS := ⟨.ex e, ρ1, by unfold sX; rw [h1, h2]; rfl, h⟩
/-- a def that raises -/
def Fx (f : Fn) (xf : XFn) (gs : List Ag) (e : Exn) : Prop := f gs = none ∧ xf gs = some e
theorem fx_fn {n nl : Nat} {gs : List Ag} {e : Exn} (hn : gs.length = n) (hd : gs.all isDa = true) (h : Sv s (gs.map slOf ++ List.replicate (nl - n) .no) fun fl _ => fl = .ex e) : Fx (fnS n nl s) (fnE n nl s) gs e := by
  obtain ⟨fl, ρ1, e1, rfl⟩ := h
  constructor
  · unfold fnS; rw [if_pos hn, e1]; rfl
  · unfold fnE; rw [if_pos ⟨hn, hd⟩, e1]; rfl
theorem xcall {f : Fn} {xf : XFn} {fs : List Bool} {ms : M (List Vl)} {rs : List Vl} {ρ1 ρ2 : Rho} {ts : List (D ⊕ Nat)} {gs : List Ag} {e : Exn} (h1 : ms ρ = some (rs, ρ1)) (h2 : ag1 fs rs ρ1 = some (ts, ρ2)) (h3 : ag2 ρ2 ts = some gs) (h : Fx f xf gs e) (hd : gs.all isDa = true) (hi : agI ts = []) :
    eCall f fs ms ρ = none ∧ eCallX xf fs ms ρ = some (e, ρ2) := by
  constructor
  · unfold eCall
    rw [h1]; dsimp only [Option.bind_some]; rw [h2]; dsimp only [Option.bind_some]; rw [h3]; dsimp only [Option.bind_some]
    rw [if_pos (by rw [hi]; exact List.nodup_nil), h.1]
    rfl
  · unfold eCallX
    rw [h1]; dsimp only [Option.bind_some]; rw [h2]; dsimp only [Option.bind_some]; rw [h3]; dsimp only [Option.bind_some]
    rw [if_pos ⟨hd, hi⟩, h.2]
    rfl
theorem xasg {m : M Vl} {k : Nat} (h : m ρ = none) : sAsg k m ρ = none := by unfold sAsg; rw [h]; rfl
theorem xret {m : M Vl} (h : m ρ = none) : sRet m ρ = none := by unfold sRet; rw [h]; rfl
theorem xdrop {m : M Vl} (h : m ρ = none) : sDrop m ρ = none := by unfold sDrop; rw [h]; rfl
/-- try: what the body leaves; an exception goes to the suite -/
theorem sv_try {ca : Exn → Option Bool} {b : S} {su : PySem.Addr → PySem.Addr → Exn → S} (h : Sv b ρ fun fl ρ1 => match fl with
    | .ex e => ρ1[i]? = some .no ∧ ∃ c, ca e = some c ∧ (c = true → Sv (su 0 0 e) (ρ1.set i (.xa 0 0 e.f)) fun fl ρ2 => (∀ y, fl ≠ .ex y) ∧ QS fl (ρ2.set i .no)) ∧ (c = false → QS (.ex e) ρ1)
    | fl => QS fl ρ1) : Sv (sTry i ca b su) ρ QS := by
  obtain ⟨fl, ρ1, e1, h⟩ := h
  unfold Sv sTry
  rw [e1]
  dsimp only [Option.bind_some]
  cases fl with
  | nx => exact ⟨_, _, rfl, h⟩
  | bk => exact ⟨_, _, rfl, h⟩
  | ct => exact ⟨_, _, rfl, h⟩
  | rt v => exact ⟨_, _, rfl, h⟩
  | ex e =>
    obtain ⟨hno, c, e2, h1, h2⟩ := h
    dsimp only
    rw [hno, e2]
    dsimp only [Option.bind_some]
    cases c with
    | false => rw [if_neg (by decide)]; exact ⟨_, _, rfl, h2 rfl⟩
    | true =>
      rw [if_pos rfl]
      obtain ⟨f2, ρ2, e3, nx, q⟩ := h1 rfl
      rw [e3]
      dsimp only [Option.bind_some]
      cases f2 with
      | ex y => exact absurd rfl (nx y)
      | nx => exact ⟨_, _, rfl, q⟩
      | bk => exact ⟨_, _, rfl, q⟩
      | ct => exact ⟨_, _, rfl, q⟩
      | rt v => exact ⟨_, _, rfl, q⟩
theorem sv_raise1_l {c f : PySem.Str} {m : M Vl} (h : Ev m ρ fun r ρ1 => ∃ z ρ2, frz ρ1 (stl r) = some (z, ρ2) ∧ QS (.ex ⟨c, some (f, z)⟩) ρ2) : Sv (sRaise1 c f m) ρ QS := by
  obtain ⟨r, ρ1, e1, z, ρ2, e2, q⟩ := h
  exact ⟨_, ρ2, by unfold sRaise1; rw [e1]; dsimp only [Option.bind_some]; rw [e2]; rfl, q⟩
theorem sv_raise1_s {c f : PySem.Str} {m : M Vl} (h : Ev m ρ fun r ρ1 => ∃ z ρ2, frz ρ1 (stl r) = some (z, ρ2) ∧ QS (.ex ⟨c, some (f, z)⟩) ρ2) : Sv (sSeq (sRaise1 c f m) s) ρ QS := by
  obtain ⟨fl, ρ1, e, q⟩ := sv_raise1_l (QS := fun fl ρ1 => (∃ y, fl = .ex y) ∧ QS fl ρ1) (ρ := ρ) (c := c) (f := f) (m := m) (by
    obtain ⟨r, ρ1, e1, z, ρ2, e2, q⟩ := h
    exact ⟨r, ρ1, e1, z, ρ2, e2, ⟨_, rfl⟩, q⟩)
  obtain ⟨⟨y, rfl⟩, q⟩ := q
  exact sv_seq ⟨_, ρ1, e, q⟩
theorem ev_isx {a dx : PySem.Addr} {f : Option (PySem.Str × D)} {hf : Bool} {o : Option Bool} {c : Bool} {Q : Vl → Rho → Prop} (h : ρ[i]? = some (.xa a dx f)) (hh : f.isSome = hf) (ho : o = some c) (q : Q (.fz (.bl c)) ρ) : Ev (eIsx i a dx hf o) ρ Q := ⟨_, _, by unfold eIsx; rw [h]; dsimp only; rw [if_pos ⟨rfl, rfl, hh⟩, ho]; rfl, q⟩
theorem ev_fldx {a dx : PySem.Addr} {k : PySem.Str} {y : D} {hf : Bool} (hh : hf = true) {Q : Vl → Rho → Prop} (h : ρ[i]? = some (.xa a dx (some (k, y)))) (q : Q (.fz y) ρ) : Ev (eFldX i a dx hf k) ρ Q := ⟨_, _, by unfold eFldX; rw [h]; dsimp only; rw [if_pos ⟨rfl, rfl, rfl, hh⟩], q⟩
theorem xasgT {m : M Vl} {g : D → Rho → Option Rho} (h : m ρ = none) : sAsgT m g ρ = none := by unfold sAsgT; rw [h]; rfl
end
end Sw
/-! Sw29: text.find(sign, i). -/
namespace Sw
open PySem PySem.Spec PyProof.Rows L2
def fFind3 : D → List D → Option D
  | .str s, [.str [c], .int i] => some (.int (Txt.find3 ⟨s.toArray⟩ ⟨#[c]⟩ i))
  | _, _ => none
theorem find3_lt (s : List Nat) (c : Nat) (i : Int) : -1 ≤ Txt.find3 ⟨s.toArray⟩ ⟨#[c]⟩ i ∧ Txt.find3 ⟨s.toArray⟩ ⟨#[c]⟩ i < s.length := by
  unfold Txt.find3
  rcases PySem.StrLaws.occ_head_from ⟨s.toArray⟩ ⟨#[c]⟩ _ 1 (Nat.le_refl 1) with ⟨h1, _⟩ | ⟨k, r, h1, _, h2, _⟩
  · rw [h1]
    refine ⟨by decide, ?_⟩
    show (-1 : Int) < (s.length : Int)
    omega
  · rw [h1]
    have hi := (PySem.StrLaws.subAt_one _ c k).mp h2
    have hi : s[k]? = some c := by simpa using hi
    have := (List.getElem?_eq_some_iff.mp hi).1
    refine ⟨by show (-1 : Int) ≤ (k : Int); omega, by show (k : Int) < _; omega⟩
theorem ms_find3 {K : PySem.W.Frag} : MetS K (fun x xs H Q => ∃ (a b : Str) (i : Int), x = .str a ∧ xs = [.str b, .int i] ∧ Q (.int (Txt.find3 a b i)) H) fFind3 := by
  intro H F v vs x xs z s hx hxs e Q q
  unfold fFind3 at e
  split at e
  · cases e
    obtain ⟨u, w, rfl, hu, hw⟩ := vws2 hxs
    rw [vw_str hx, vw_str hu, vw_int hw]
    exact ⟨_, _, _, rfl, rfl, q _ H F (Alc.refl s) (.int _)⟩
  · cases e
section
variable {X : Cx} {e e2 o : Expr} {mo : M Vl} {ms : M (List Vl)} {apos cpos : Pos}
theorem se_find3 (ho : SE X o mo) (ha : SA X [e, e2] ms)
    (hbase : attributeBase o "find" X.env (eval o X.env) = eval o X.env := by rfl)
    (hfew : ((backTo cpos (starEach [e, e2] X.env)).all (fun x => !x.1) && (backToKw cpos (keywordEach [] X.env)).all (fun x => x.1.isSome)
      && decide ([e, e2].length + ([] : List Keyword).length + (if ([] : List Keyword).isEmpty then 0 else 1) < 30)) = true := by rfl)
    (hline : (apos.endLine == cpos.line) = true := by rfl) (hs : starEach [e, e2] X.env = (false, eval e X.env) :: starEach [e2] X.env := by rfl) (hplain : (backTo cpos (starEach [e2] X.env)).any (·.1) = false := by rfl) :
    SE X (.Call (.Attribute o "find" apos) [e, e2] [] cpos) (eMet fFind3 mo ms) := se_met PySem.F.slot_str_find PySem.F.type_str_find L2.mt_find3 (fun x xs z h => by
  unfold fFind3 at h
  split at h
  · exact ⟨_, rfl⟩
  · cases h) ms_find3 ho ha hbase hfew hline hs hplain
end
end Sw
/-! Sw30: sorted of any list of data that are alike (texts of any number, tuples of texts and ints). -/
namespace Sw
open PySem PySem.Spec PyProof.Rows L2 PySem.W
def tupQ : D → Bool
  | .tup (_ :: _) => true
  | _ => false
def othQ : D → Bool
  | .tup _ => false
  | .non => false
  | .obj _ _ _ => false
  | _ => true
/-- may be sorted as data -/
def sortQ (xs : List D) : Bool := xs.all (fun x => shD x && decide ((toP x).depth ≤ 8)) && (xs.all tupQ || xs.all othQ) && xs.all (fun x => xs.all fun y => PySem.W.alike (toP x) (toP y)) && decide (xs.length ≤ lim)
def sortE (xs : List D) : List D := xs.mergeSort (PySem.W.dataLe false toP)
def rSortedDat (K : PySem.W.Frag) : List V → Hp → VK → Prop := fun vs H Q => ∃ (a : Addr) (xs : List V) (bs : List D) (F : Hp), vs = [V.ref a] ∧ SqL K H a xs ∧ Same F H ∧ Reps K F xs bs ∧ sortQ bs = true ∧
  ∀ ys p, Reps K F ys (sortE bs) → H p = none → Q (.ref p) (upd H p (.lst ys))
section
variable {X : Cx}
theorem each_of_reps {K : PySem.W.Frag} {F : Hp} : ∀ {xs : List V} {us : List Value} {bs : List D}, Vals xs us → Reps K F xs bs → EachIs (fun u b => ∃ x, RelV x u ∧ Rep K F x b) us bs
  | _, _, _, .nil, .nil => .nil
  | _, _, _, .cons r1 r2, .cons h1 h2 => .cons ⟨_, r1, h1⟩ (each_of_reps r2 h2)
theorem reps_of_each {K : PySem.W.Frag} {F : Hp} : ∀ {us : List Value} {bs : List D}, EachIs (fun u b => ∃ x, RelV x u ∧ Rep K F x b) us bs → ∃ ys, Vals ys us ∧ Reps K F ys bs
  | _, _, .nil => ⟨[], .nil, .nil⟩
  | _, _, .cons ⟨x, r, h⟩ t => by
    obtain ⟨ys, h1, h2⟩ := reps_of_each t
    exact ⟨x :: ys, .cons r h1, .cons h h2⟩
theorem each_reads {K : PySem.W.Frag} {pins : List (Addr × Obj)} {σ : L2.St} {F H : Hp} {s : Shared} {XX : Cx} (I : Inv XX pins σ H s) (e : Same F H) : ∀ {us : List Value} {bs : List D}, (∀ b ∈ bs, plnD b = true) → EachIs (fun u b => ∃ x, RelV x u ∧ Rep XX.K F x b) us bs → EachIs (fun u b => ∃ as, Reads s.heap u (toP b) as) us bs
  | _, _, _, .nil => .nil
  | _, _, p, .cons ⟨x, r, h⟩ t => .cons (Dp.reads I _ x _ (h.dp e (p _ List.mem_cons_self)) r) (each_reads (K := K) I e (fun b hb => p b (List.mem_cons_of_mem _ hb)) t)
theorem cr_sortedDat (hu : X.A.units + 64 < cLine) : CallR X (.builtin "sorted") (rSortedDat X.K) := by
  intro pins s σ H vs us Q I r h
  obtain ⟨a, xs, bs, F, rfl, hs, sf, hR, hq, q⟩ := h
  obtain ⟨its, rv, hl, hz⟩ := I.list hs
  obtain ⟨u, rfl, ru⟩ := vals1 r
  obtain rfl : u = Value.ref a := ru
  unfold sortQ at hq
  rw [Bool.and_eq_true, Bool.and_eq_true, Bool.and_eq_true] at hq
  obtain ⟨⟨⟨q1, q2⟩, q3⟩, q4⟩ := hq
  have q1' : ∀ b ∈ bs, shD b = true ∧ (toP b).depth ≤ 8 := fun b hb => by
    have := List.all_eq_true.mp q1 b hb
    rw [Bool.and_eq_true, decide_eq_true_eq] at this
    exact this
  have e1 := each_of_reps rv hR
  have e2 := each_reads (K := X.K) I sf (fun b hb => shD_pln (q1' b hb).1) e1
  have hal : AllAlike (bs.map toP) := by
    intro d hd d' hd'
    obtain ⟨b, hb, rfl⟩ := List.mem_map.mp hd
    obtain ⟨b', hb', rfl⟩ := List.mem_map.mp hd'
    exact List.all_eq_true.mp (List.all_eq_true.mp q3 b hb) b' hb'
  have hk : Sortable (bs.map toP) := by
    rcases Bool.or_eq_true_iff.mp q2 with h | h
    · refine .inl fun d hd => ?_
      obtain ⟨b, hb, rfl⟩ := List.mem_map.mp hd
      have := List.all_eq_true.mp h b hb
      unfold tupQ at this
      split at this
      · exact ⟨_, _, by unfold toP toPs; rfl⟩
      · cases this
    · refine .inr fun d hd => ?_
      obtain ⟨b, hb, rfl⟩ := List.mem_map.mp hd
      have := List.all_eq_true.mp h b hb
      cases b <;> first | (cases this; done) | (constructor <;> (intros; simp [toP]))
  refine sorted_data hl.isList e1 e2 hal hk (lim_of (of_decide_eq_true q4)) (fun b hb => by have := (q1' b hb).2; omega) fun out ho he => ?_
  obtain ⟨ys, y1, y2⟩ := reps_of_each he
  have hd : s.heap.objs.size ≤ s.heap.objs.size + 1 := Nat.le_succ _
  obtain ⟨n, hn⟩ : ∃ n, (sortedAll s.heap its (List.toArray out)).get? (s.heap.objs.size + 1) = some (seqObj "list" out.toArray n) := sortedAll_at s.heap its out.toArray
  refine ⟨.ref (s.heap.objs.size + 1), upd H (s.heap.objs.size + 1) (.lst ys), I.laid (t' := s.toks) (fun b o e => sortedAll_old e) hd ⟨?_, out, n, y1, hn⟩, rfl, q ys _ y2 (I.hok.fresh hd)⟩
  rw [y1.length, ho, ← e1.length, ← rv.length]
  exact hz
end
/-- sorted(xs): ints, texts, data that are alike -/
def sortG (xs : List D) : Option (List D) := if sortQ xs = true then some (sortE xs) else none
def eSortG (ms : M (List Vl)) : M Vl := fun ρ => (ms ρ).bind fun p => match p.1 with
  | [r] => (look p.2 r).bind fun x => match x with
    | .lst xs => (sortG xs).bind fun ys => some (.fr ys, p.2)
    | _ => none
  | _ => none
section
variable {X : Cx} {e : Expr} {ms : M (List Vl)} {p pos : Pos}
theorem se_sortG (hu : X.A.units + 64 < cLine) (hm : X.mg "sorted" = none) (hg : Gl X "sorted") (ha : SA X [e] ms) (he : starEach [e] X.env = (false, eval e X.env) :: starEach [] X.env := by rfl) (hpl : (backTo pos (starEach [] X.env)).any (·.1) = false := by rfl) :
    SE X (.Call (.Name "sorted" p) [e] [] pos) (eSortG ms) := by
  refine pe_weak (pe_callB (cr_sortedDat hu) hg hm (by decide +kernel) ha (by decide) (by decide) he hpl) fun σ H Q ⟨G, ρ, F, r0, ρ', W, hm, q⟩ => ?_
  unfold eSortG at hm
  obtain ⟨⟨rs, ρ1⟩, e1, hm⟩ := Option.bind_eq_some_iff.mp hm
  split at hm
  · rename_i r hr
    dsimp only at hr
    subst hr
    obtain ⟨x, e2, hm⟩ := Option.bind_eq_some_iff.mp hm
    split at hm
    · rename_i xs
      obtain ⟨ys, e3, hm⟩ := Option.bind_eq_some_iff.mp hm
      cases hm
      unfold sortG at e3
      split at e3
      · rename_i hq
        cases e3
        refine ⟨G, ρ, F, [r], ρ1, W, e1, fun vs H1 F1 s1 R1 => ?_⟩
        obtain ⟨v, rfl, Rv⟩ : ∃ v, vs = [v] ∧ VlS X.K σ F1 v r := by
          match vs, R1 with
          | [v], z => exact ⟨v, rfl, z.1⟩
        obtain ⟨a, us, rfl, h1, h2⟩ := vw_of s1.wd Rv e2
        exact ⟨a, us, xs, F1, rfl, SqL.of h1, s1.wd.sub, h2, hq, fun ys p hy hp => new_fr s1 hy hp q⟩
      · cases e3
    · cases hm
  · cases hm
end
end Sw
/-! Sw31: own classes: methods, properties, operators by own special methods, isinstance. -/
namespace Sw
open PySem PySem.Spec PyProof.Rows L2
theorem zip_lookup_none {m : PySem.Str} : ∀ {ks : List PySem.Str} {vs : List V}, ks.contains m = false → (ks.zip vs).lookup m = none
  | [], _, _ => rfl
  | _ :: _, [], _ => rfl
  | k :: ks, v :: vs, h => by
    rw [List.contains_cons, Bool.or_eq_false_iff] at h
    rw [List.zip_cons_cons, List.lookup_cons, h.1]
    exact zip_lookup_none h.2
/-- an instance of c without an attribute m of its own -/
def isOb (c m : PySem.Str) : Vl → Bool
  | .fz (.obj c' ks _) => decide (c' = c) && !ks.contains m
  | _ => false
theorem isOb_ok {c m : PySem.Str} {r : Vl} (h : isOb c m r = true) : ∃ ks xs, r = .fz (.obj c ks xs) ∧ ks.contains m = false := by
  unfold isOb at h
  split at h
  · rw [Bool.and_eq_true, decide_eq_true_eq, Bool.not_eq_true'] at h
    obtain ⟨rfl, h2⟩ := h
    exact ⟨_, _, rfl, h2⟩
  · cases h
def eMeth (c m : PySem.Str) (f : Fn) (mo : M Vl) (ms : M (List Vl)) : M Vl := fun ρ => (mo ρ).bind fun p => if isOb c m p.1 = true then eCall f [] (aCons (fun _ => some p) ms) ρ else none
section
variable {X : Cx} {e o : Expr} {es : List Expr} {mo : M Vl} {ms : M (List Vl)} {f : Fn} {c m : PySem.Str} {C g : Addr} {pos apos : Pos} {fd : FuncData} {ps : List Str} {k n : Nat}
theorem rep_ob {K : PySem.W.Frag} {F : Hp} {v : V} {ks : List PySem.Str} {xs : List D} (hC : ClsN K c C) (h : Rep K F v (.obj c ks xs)) : ∃ a dx vs, v = .ref a ∧ F a = some (.ins C dx (ks.zip vs)) ∧ vs.length = ks.length ∧ Reps K F vs xs := by
  cases h with
  | obj h1 h2 h3 h4 =>
    have := hC.uniq h1
    subst this
    exact ⟨_, _, _, rfl, h2, h3, h4⟩
theorem tmeth_of {K : PySem.W.Frag} {E : XK} (hC : ClsN K c C) (hn : ∀ gs z, f gs = some z → gs.length = n) {σ : L2.St} {H : Hp} {Q : VK} (h : tM K (eMeth c m f mo ms) σ H Q) : tMeth C m (spF K n f) [] E (tM K mo) (tMA K ms) σ H Q := by
  obtain ⟨G, ρ, F, r0, ρ', W, hm, q⟩ := h
  unfold eMeth at hm
  obtain ⟨⟨r, ρm⟩, e0, hm⟩ := Option.bind_eq_some_iff.mp hm
  dsimp only at hm
  split at hm
  · rename_i hb
    obtain ⟨ks, xs, rfl, hk⟩ := isOb_ok hb
    obtain ⟨rs, ρ1, e1, w⟩ := tcall_core (E := E) hn W hm q
    unfold aCons at e1
    obtain ⟨p, e2, e1⟩ := Option.bind_eq_some_iff.mp e1
    cases e2
    obtain ⟨⟨ys, ρ2⟩, e3, e1⟩ := Option.bind_eq_some_iff.mp e1
    cases e1
    refine tm_use W e0 fun v H1 F1 s1 R1 => ?_
    obtain ⟨a, dx, vs, rfl, ha, hl, _⟩ := rep_ob hC (show Rep K F1 v (.obj c ks xs) from R1)
    refine ⟨a, dx, _, rfl, s1.wd.sub _ _ ha, zip_lookup_none hk, G, ρm, F1, ys, ρ2, s1.wd, e3, fun us H2 F2 s2 R2 => ?_⟩
    show spF K n f (.ref a :: (us ++ [])) H2 Q E
    rw [List.append_nil]
    exact w (.ref a :: us) H2 F2 (s1.trans s2) ⟨R1.ste s2, R2⟩
  · cases hm
theorem se_meth {pl : Sem Bool} (hC : ClsN X.K c C) (cl : Cls X.K C) (hm : Meth X.K C m g) (F : FnOk X.prog X.w X.K X.mg X.base CX0 k g fd ps (spF X.K n f)) (hn : ∀ gs z, f gs = some z → gs.length = n) (hr : Room k X.A) (hb : Binds X.K fd ps [])
    (ho : SE X o mo) (ha : SA X (e :: es) ms)
    (hst : starEach (e :: es) X.env = (false, eval e X.env) :: starEach es X.env := by rfl) (hpl : (backTo pos (starEach es X.env)).any (·.1) = false := by rfl)
    (ht : eval (.Call (.Attribute o m apos) (e :: es) [] pos) X.env = (do
      let ov ← eval o X.env
      standAt apos.atName
      let (f, first) ← holding [ov] (getMethod ov m pl)
      callWith pos f first (backTo pos (starEach (e :: es) X.env)) (backToKw pos (keywordEach [] X.env))) := by rfl) :
    SE X (.Call (.Attribute o m apos) (e :: es) [] pos) (eMeth c m f mo ms) := pe_weak (pe_meth (pl := pl) ho cl hm F hr hb .nil pass0 ha hst hpl ht) fun _ _ _ h => tmeth_of hC hn h
theorem se_meth0 {pl : Sem Bool} (hC : ClsN X.K c C) (cl : Cls X.K C) (hm : Meth X.K C m g) (F : FnOk X.prog X.w X.K X.mg X.base CX0 k g fd ps (spF X.K n f)) (hn : ∀ gs z, f gs = some z → gs.length = n) (hr : Room k X.A) (hb : Binds X.K fd ps [])
    (ho : SE X o mo)
    (ht : eval (.Call (.Attribute o m apos) [] [] pos) X.env = (do
      let ov ← eval o X.env
      standAt apos.atName
      let (f, first) ← holding [ov] (getMethod ov m pl)
      callWith pos f first (backTo pos (starEach [] X.env)) (backToKw pos (keywordEach [] X.env))) := by rfl) :
    SE X (.Call (.Attribute o m apos) [] [] pos) (eMeth c m f mo aNil) := pe_weak (pe_meth0 (pl := pl) ho cl hm F hr hb .nil pass0 ht) fun σ H Q h => by
  obtain ⟨G, ρ, F, r0, ρ', W, hm, q⟩ := tmeth_of (E := E0) hC hn h
  refine ⟨G, ρ, F, r0, ρ', W, hm, fun v H' F' s R => ?_⟩
  obtain ⟨a, dx, fs, h1, h2, h3, G1, ρ1, F1, r1, ρ1', W1, hm1, q1⟩ := q v H' F' s R
  cases hm1
  exact ⟨a, dx, fs, h1, h2, h3, q1 [] H' F1 (Ste.refl W1) trivial⟩
/-! ### a property -/
def eProp (c : PySem.Str) (f : Fn) (mo : M Vl) : M Vl := eMeth c PySem.Str.empty f mo aNil
theorem se_prop {p : Addr} (hC : ClsN X.K c C) (cl : Cls X.K C) (hp : PropOf X.K C m p g) (F : FnOk X.prog X.w X.K X.mg X.base CX0 k g fd ps (spF X.K n f)) (hn : ∀ gs z, f gs = some z → gs.length = n) (hr : Room (k + 1) X.A) (hb : Binds X.K fd ps [])
    (ho : SE X o mo) (hab : attributeBase o m X.env (eval o X.env) = eval o X.env) : SE X (.Attribute o m pos) (eProp c f mo) := pe_weak (pe_prop ho cl hp F hr hb .nil pass0 hab) fun σ H Q h => by
  obtain ⟨G, ρ, F, r0, ρ', W, hm, q⟩ := tmeth_of (E := E0) hC hn h
  refine ⟨G, ρ, F, r0, ρ', W, hm, fun v H' F' s R => ?_⟩
  obtain ⟨a, dx, fs, h1, h2, h3, G1, ρ1, F1, r1, ρ1', W1, hm1, q1⟩ := q v H' F' s R
  cases hm1
  subst h1
  exact ⟨a, dx, fs, rfl, h2, q1 [] H' F1 (Ste.refl W1) trivial⟩
end
/-! ### operators -/
section
variable {X : Cx} {f : Fn} {c : PySem.Str} {C g : Addr} {fd : FuncData} {ps : List Str} {k n : Nat} {pins : List (Addr × Obj)} {σ : L2.St} {H : Hp} {s : Shared} {Q : VK}
theorem own_run {us : List Value} {vs : List V} (F : FnOk X.prog X.w X.K X.mg X.base CX0 k g fd ps (spF X.K n f)) (hr : Room k X.A) (hb : Binds X.K fd ps []) (I : Inv X pins σ H s) (r : Vals vs us) (h : spF X.K n f vs H Q E0) :
    wpAny (model X.prog X.w) X.A (call (.ref g) us) (EP X pins σ Q) X.xe s := run_fn F hr hb .nil pass0 I r (by rw [List.append_nil]; exact h)
theorem own_run1 {us : List Value} {vs : List V} {E' : Value → Shared → Prop} (F : FnOk X.prog X.w X.K X.mg X.base CX0 k g fd ps (spF X.K n f)) (hr : Room (k + 1) X.A) (hb : Binds X.K fd ps []) (I : Inv X pins σ H s) (r : Vals vs us) (h : spF X.K n f vs H Q E0) :
    wpAny (model X.prog X.w) X.A.in1 (call (.ref g) us) (EP X pins σ Q) E' s := by
  have hl : us.length = ps.length := by rw [← F.len _ _ _ _ h, ← r.length]
  have hb' := hb s us I.kIn (by simpa using hl)
  rw [List.append_nil] at hb'
  refine wpAny_call (codeAny_mono (F.run X.A.in1 X.stack s H ⟨us, []⟩ us vs Q E0 hr.in1 I.env0.in1 hb' r h) fun r s' hq => ?_)
  cases r with
  | error e => exact hq.elim
  | ok fl =>
    cases fl with
    | ret u => exact I.after hq
    | next => exact False.elim hq
    | brk => exact False.elim hq
    | cont => exact False.elim hq
/-- a def's promise at data -/
theorem spf_data {K : PySem.W.Frag} {F : Hp} {vs : List V} {gs : List Ag} {z : D} {os : List (List D)} (hlen : vs.length = n) (sF : Same F H) (hA : AgsR K F H vs gs) (hl : liA vs gs = []) (e : f gs = some (.fz z, os)) (q : ∀ v H' F', Alc F H F' H' → Rep K F' v z → Q v H') : spF K n f vs H Q E0 := by
  refine ⟨hlen, F, gs, .fz z, os, sF, hA, by rw [hl]; exact List.nodup_nil, e, fun v H' F' ff sub kp nf _ res => ?_⟩
  refine q v H' F' ⟨ff, sub, fun b o hb => kp b o hb (by rw [hl]; exact List.not_mem_nil), nf⟩ res
theorem ins_look {a dx : Addr} {fs : List (Str × V)} (I : Inv X pins σ H s) (ea : H a = some (.ins C dx fs)) : ∃ ox od, PySem.W.InstAt s.heap a ox C od := by
  obtain ⟨mA, J, _⟩ := ins_get I.hok ea
  obtain ⟨od, J, _⟩ := J.look
  exact ⟨_, _, J⟩
/-- a value of the layer is not NotImplemented -/
def IsV (K : PySem.W.Frag) (v : V) : Prop := ∃ F d, Rep K F v d
theorem isv_cmp {v : V} {u : Value} {K : PySem.W.Frag} {R : Value → Shared → Prop} {s' : Shared} (h : IsV K v) (r : RelV v u) (q : R u s') : PySem.W.CmpBack R u s' := by
  obtain ⟨F, d, h⟩ := h
  cases h with
  | non => cases r; exact q
  | bl b => cases r; exact q
  | int i => obtain ⟨t, rfl⟩ := r; exact q
  | str x => obtain ⟨t, rfl⟩ := r; exact q
  | lst _ _ => cases r; exact q
  | scr _ => cases r; exact q
  | tup _ _ => cases r; exact q
  | obj _ _ _ _ => cases r; exact q
theorem nl_rep {K : PySem.W.Frag} {F : Hp} {v : V} {x : D} (n : ∀ xs, x ≠ .lst xs) (h : Vw K H F v x) : Rep K F v x := by
  cases x with
  | lst xs => exact absurd rfl (n xs)
  | non => exact h
  | bl b => exact h
  | int i => exact h
  | str t => exact h
  | tup xs => exact h
  | scr xs => exact h
  | obj c ks xs => exact h
def isOf (c : PySem.Str) : D → Bool
  | .obj c' _ _ => decide (c' = c)
  | _ => false
theorem isOf_ok {x : D} (h : isOf c x = true) : ∃ ks xs, x = .obj c ks xs := by
  unfold isOf at h
  split at h
  · rw [decide_eq_true_eq] at h; subst h; exact ⟨_, _, rfl⟩
  · cases h
/-- x op y, both instances of the class -/
def rOwn2 (K : PySem.W.Frag) (C : Addr) (f : Fn) : R2 := fun x y H Q => ∃ a b dx dy fs gs, x = .ref a ∧ y = .ref b ∧ H a = some (.ins C dx fs) ∧ H b = some (.ins C dy gs) ∧ spF K 2 f [x, y] H (fun v H' => IsV K v ∧ Q v H') E0
def fOwn2 (c : PySem.Str) (f : Fn) : D → D → Option D := fun x y => if (isOf c x && isOf c y) = true then (f [.da x, .da y]).bind fun r => match r.1 with
  | .fz z => some z
  | _ => none else none
theorem os_own2 {K : PySem.W.Frag} (hC : ClsN K c C) : OpS K (rOwn2 K C f) (fOwn2 c f) := by
  intro H F v u x y z s hx hy e Q q
  unfold fOwn2 at e
  split at e
  · rename_i hc
    rw [Bool.and_eq_true] at hc
    obtain ⟨kx, xs, rfl⟩ := isOf_ok hc.1
    obtain ⟨ky, ys, rfl⟩ := isOf_ok hc.2
    obtain ⟨⟨r, os⟩, e1, e2⟩ := Option.bind_eq_some_iff.mp e
    have hx : Rep K F v _ := hx
    have hy : Rep K F u _ := hy
    obtain ⟨a, dx, vs, rfl, ha, _⟩ := rep_ob hC hx
    obtain ⟨b, dy, us, rfl, hb, _⟩ := rep_ob hC hy
    cases r with
    | fz w =>
      cases e2
      exact ⟨a, b, dx, dy, _, _, rfl, rfl, s _ _ ha, s _ _ hb, spf_data (gs := [.da (.obj c kx xs), .da (.obj c ky ys)]) rfl s ⟨hx, hy, trivial⟩ rfl e1 fun v H' F' A R => ⟨⟨F', _, R⟩, q v H' F' A R⟩⟩
    | fr w => cases e2
    | bw i => cases e2
  · cases e
theorem op_own {op : Operator} (hc : PySem.W.selfFirst X.K C = true) (hs : PySem.W.findIn X.K (.ref C) (PySem.dunder op.info.2) = some (some (.ref g))) (hf : PySem.W.isFn X.K (.ref g) = true)
    (F : FnOk X.prog X.w X.K X.mg X.base CX0 k g fd ps (spF X.K 2 f)) (hr : Room k X.A) (hb : Binds X.K fd ps []) : OpR X (binaryOp op) (rOwn2 X.K C f) := by
  intro pins s σ H x y v u Q I rx ry h
  obtain ⟨a, b, dx, dy, fs, gs, rfl, rfl, ha, hb', sp⟩ := h
  cases rx
  cases ry
  obtain ⟨ox, od, J⟩ := ins_look I ha
  obtain ⟨oy, od', J'⟩ := ins_look I hb'
  obtain ⟨m, hF⟩ := I.fr
  refine PySem.W.binop_K hF I.ok.mod.kin J J'.type hc hs hf (wpAny_mono (own_run F hr hb I (show Vals [V.ref a, V.ref b] [Value.ref a, Value.ref b] from .cons rfl (.cons rfl .nil)) sp) (fun w s' z => ?_) fun _ _ z => z)
  obtain ⟨v, H', I', rv, iv, q⟩ := z
  exact isv_cmp iv rv ⟨v, H', I', rv, q⟩
theorem oOwn {op : Operator} (hC : ClsN X.K c C) (hc : PySem.W.selfFirst X.K C = true) (hs : PySem.W.findIn X.K (.ref C) (PySem.dunder op.info.2) = some (some (.ref g))) (hf : PySem.W.isFn X.K (.ref g) = true)
    (F : FnOk X.prog X.w X.K X.mg X.base CX0 k g fd ps (spF X.K 2 f)) (hr : Room k X.A) (hb : Binds X.K fd ps []) : Op2 X (binaryOp op) (fOwn2 c f) := ⟨_, op_own hc hs hf F hr hb, os_own2 hC⟩
/-- ~x -/
def rOwnInv (K : PySem.W.Frag) (C : Addr) (f : Fn) : V → Hp → VK → Prop := fun x H Q => ∃ a dx fs, x = .ref a ∧ H a = some (.ins C dx fs) ∧ spF K 1 f [x] H Q E0
def fOwn1 (c : PySem.Str) (f : Fn) : D → Option D := fun x => if isOf c x = true then (f [.da x]).bind fun r => match r.1 with
  | .fz z => some z
  | _ => none else none
theorem us_ownInv {K : PySem.W.Frag} (hC : ClsN K c C) : UnS K (rOwnInv K C f) (fOwn1 c f) := by
  intro H F v x z s hx e Q q
  unfold fOwn1 at e
  split at e
  · rename_i hc
    obtain ⟨kx, xs, rfl⟩ := isOf_ok hc
    obtain ⟨⟨r, os⟩, e1, e2⟩ := Option.bind_eq_some_iff.mp e
    have hx : Rep K F v _ := hx
    obtain ⟨a, dx, vs, rfl, ha, _⟩ := rep_ob hC hx
    cases r with
    | fz w =>
      cases e2
      exact ⟨a, dx, _, rfl, s _ _ ha, spf_data (gs := [.da (.obj c kx xs)]) rfl s ⟨hx, trivial⟩ rfl e1 fun v H' F' A R => q v H' F' A R⟩
    | fr w => cases e2
    | bw i => cases e2
  · cases e
theorem un_ownInv (hs : PySem.W.findIn X.K (.ref C) "__invert__" = some (some (.ref g))) (hf : PySem.W.isFn X.K (.ref g) = true)
    (F : FnOk X.prog X.w X.K X.mg X.base CX0 k g fd ps (spF X.K 1 f)) (hr : Room k X.A) (hb : Binds X.K fd ps []) : UnR X (unaryOp .Invert) (rOwnInv X.K C f) := by
  intro pins s σ H x v Q I rx h
  obtain ⟨a, dx, fs, rfl, ha, sp⟩ := h
  cases rx
  obtain ⟨ox, od, J⟩ := ins_look I ha
  obtain ⟨m, hF⟩ := I.fr
  exact PySem.W.ksp_inv hF I.ok.mod.kin J hs hf (own_run F hr hb I (show Vals [V.ref a] [Value.ref a] from .cons rfl .nil) sp)
theorem se_inv {a : Expr} {ma : M Vl} {pos : Pos} (hC : ClsN X.K c C) (hs : PySem.W.findIn X.K (.ref C) "__invert__" = some (some (.ref g))) (hf : PySem.W.isFn X.K (.ref g) = true)
    (F : FnOk X.prog X.w X.K X.mg X.base CX0 k g fd ps (spF X.K 1 f)) (hr : Room k X.A) (hb : Binds X.K fd ps []) (ha : SE X a ma) : SE X (.UnaryOp .Invert a pos) (eUn (fOwn1 c f) ma) := se_un (un_ownInv hs hf F hr hb) (us_ownInv hC) ha
/-- x in y, y an instance -/
def rOwnIn (K : PySem.W.Frag) (C : Addr) (f : Fn) (neg : Bool) : R2 := fun x y H Q => ∃ a dx fs, y = .ref a ∧ H a = some (.ins C dx fs) ∧ spF K 2 f [y, x] H (fun v H' => ∃ b, v = .bl b ∧ Q (.bl (b != neg)) H') E0
def notL : D → Bool
  | .lst _ => false
  | _ => true
theorem notL_ok {x : D} (h : notL x = true) : ∀ xs, x ≠ .lst xs := fun xs e => by subst e; cases h
def fOwnIn (c : PySem.Str) (f : Fn) (neg : Bool) : D → D → Option D := fun x y => if (isOf c y && notL x) = true then (f [.da y, .da x]).bind fun r => match r.1 with
  | .fz (.bl b) => some (.bl (b != neg))
  | _ => none else none
theorem os_ownIn {K : PySem.W.Frag} {neg : Bool} (hC : ClsN K c C) : OpS K (rOwnIn K C f neg) (fOwnIn c f neg) := by
  intro H F v u x y z s hx hy e Q q
  unfold fOwnIn at e
  split at e
  · rename_i hc
    rw [Bool.and_eq_true] at hc
    obtain ⟨ky, ys, rfl⟩ := isOf_ok hc.1
    obtain ⟨⟨r, os⟩, e1, e2⟩ := Option.bind_eq_some_iff.mp e
    have hx := nl_rep (notL_ok hc.2) hx
    have hy : Rep K F u _ := hy
    obtain ⟨a, dx, vs, rfl, ha, _⟩ := rep_ob hC hy
    dsimp only at e2
    split at e2
    · rename_i b
      cases e2
      refine ⟨a, dx, _, rfl, s _ _ ha, spf_data (gs := [.da (.obj c ky ys), .da x]) rfl s ⟨hy, hx, trivial⟩ (by cases v <;> rfl) e1 fun v H' F' A R => ?_⟩
      cases R
      exact ⟨b, rfl, q _ H' F' A (.bl _)⟩
    · cases e2
  · cases e
theorem op_ownIn (hs : PySem.W.findIn X.K (.ref C) "__contains__" = some (some (.ref g))) (hf : PySem.W.isFn X.K (.ref g) = true)
    (F : FnOk X.prog X.w X.K X.mg X.base CX0 k g fd ps (spF X.K 2 f)) (hr : Room k X.A) (hb : Binds X.K fd ps []) : OpR X (compareOp .In) (rOwnIn X.K C f false) := by
  intro pins s σ H x y v u Q I rx ry h
  obtain ⟨a, dx, fs, rfl, ha, sp⟩ := h
  cases ry
  obtain ⟨ox, od, J⟩ := ins_look I ha
  obtain ⟨m, hF⟩ := I.fr
  refine PySem.W.in_K hF I.ok.mod.kin J hs hf (wpAny_mono (own_run F hr hb I (show Vals [V.ref a, x] [Value.ref a, v] from .cons rfl (.cons rx .nil)) sp) (fun w s' z => ?_) fun _ _ z => z)
  obtain ⟨v, H', I', rv, b, rfl, q⟩ := z
  cases rv
  rw [show (b != false) = b by cases b <;> rfl] at q
  exact wpAny_truthy_bool (show EP X pins σ Q (.bool b) _ from ⟨.bl b, H', I', rfl, q⟩)
theorem op_ownNi (hs : PySem.W.findIn X.K (.ref C) "__contains__" = some (some (.ref g))) (hf : PySem.W.isFn X.K (.ref g) = true)
    (F : FnOk X.prog X.w X.K X.mg X.base CX0 k g fd ps (spF X.K 2 f)) (hr : Room k X.A) (hb : Binds X.K fd ps []) : OpR X (compareOp .NotIn) (rOwnIn X.K C f true) := by
  intro pins s σ H x y v u Q I rx ry h
  obtain ⟨a, dx, fs, rfl, ha, sp⟩ := h
  cases ry
  obtain ⟨ox, od, J⟩ := ins_look I ha
  obtain ⟨m, hF⟩ := I.fr
  refine PySem.W.notIn_K hF I.ok.mod.kin J hs hf (wpAny_mono (own_run F hr hb I (show Vals [V.ref a, x] [Value.ref a, v] from .cons rfl (.cons rx .nil)) sp) (fun w s' z => ?_) fun _ _ z => z)
  obtain ⟨v, H', I', rv, b, rfl, q⟩ := z
  cases rv
  rw [show (b != true) = (!b) by cases b <;> rfl] at q
  exact wpAny_truthy_bool (show EP X pins σ Q (.bool (!b)) _ from ⟨.bl (!b), H', I', rfl, q⟩)
theorem oOwnIn (hC : ClsN X.K c C) (hs : PySem.W.findIn X.K (.ref C) "__contains__" = some (some (.ref g))) (hf : PySem.W.isFn X.K (.ref g) = true)
    (F : FnOk X.prog X.w X.K X.mg X.base CX0 k g fd ps (spF X.K 2 f)) (hr : Room k X.A) (hb : Binds X.K fd ps []) : Op2 X (compareOp .In) (fOwnIn c f false) := ⟨_, op_ownIn hs hf F hr hb, os_ownIn hC⟩
theorem oOwnNi (hC : ClsN X.K c C) (hs : PySem.W.findIn X.K (.ref C) "__contains__" = some (some (.ref g))) (hf : PySem.W.isFn X.K (.ref g) = true)
    (F : FnOk X.prog X.w X.K X.mg X.base CX0 k g fd ps (spF X.K 2 f)) (hr : Room k X.A) (hb : Binds X.K fd ps []) : Op2 X (compareOp .NotIn) (fOwnIn c f true) := ⟨_, op_ownNi hs hf F hr hb, os_ownIn hC⟩
/-- len(x), x an instance -/
def rOwnLen (K : PySem.W.Frag) (C : Addr) (f : Fn) : List V → Hp → VK → Prop := fun vs H Q => ∃ a dx fs, vs = [.ref a] ∧ H a = some (.ins C dx fs) ∧ spF K 1 f [.ref a] H (fun v H' => ∃ i, v = .int i ∧ (0 ≤ i ∧ i < 2 ^ 63) ∧ Q (.int i) H') E0
def cOwnLen (c : PySem.Str) (f : Fn) : List D → Option D
  | [x] => if isOf c x = true then (f [.da x]).bind fun r => match r.1 with
    | .fz (.int i) => if 0 ≤ i ∧ i < 1000000000 then some (.int i) else none
    | _ => none else none
  | _ => none
theorem cs_ownLen {K : PySem.W.Frag} (hC : ClsN K c C) : CallS K (rOwnLen K C f) (cOwnLen c f) := by
  intro H F vs xs z s hx e Q q
  unfold cOwnLen at e
  split at e
  · rename_i x
    obtain ⟨v, rfl, hv⟩ := vws1 hx
    split at e
    · rename_i hc
      obtain ⟨kx, xs, rfl⟩ := isOf_ok hc
      obtain ⟨⟨r, os⟩, e1, e2⟩ := Option.bind_eq_some_iff.mp e
      have hx : Rep K F v _ := hv
      obtain ⟨a, dx, vs, rfl, ha, _⟩ := rep_ob hC hx
      dsimp only at e2
      split at e2
      · rename_i i
        split at e2
        · rename_i hi
          cases e2
          refine ⟨a, dx, _, rfl, s _ _ ha, spf_data (gs := [.da (.obj c kx xs)]) rfl s ⟨hx, trivial⟩ rfl e1 fun v H' F' A R => ?_⟩
          cases R
          exact ⟨i, rfl, ⟨hi.1, Int.lt_trans hi.2 (by decide)⟩, q _ H' F' A (.int _)⟩
        · cases e2
      · cases e2
    · cases e
  · cases e
theorem cr_ownLen (hs : PySem.W.findIn X.K (.ref C) "__len__" = some (some (.ref g))) (hf : PySem.W.isFn X.K (.ref g) = true)
    (F : FnOk X.prog X.w X.K X.mg X.base CX0 k g fd ps (spF X.K 1 f)) (hr : Room (k + 1) X.A) (hb : Binds X.K fd ps []) : CallR X (.builtin "len") (rOwnLen X.K C f) := by
  intro pins s σ H vs us Q I r h
  obtain ⟨a, dx, fs, rfl, ha, sp⟩ := h
  obtain ⟨u, rfl, ru⟩ := vals1 r
  obtain rfl : u = Value.ref a := ru
  obtain ⟨ox, od, J⟩ := ins_look I ha
  obtain ⟨m, hF⟩ := I.fr
  refine PySem.W.len_K hF I.ok.mod.kin J hs hf (wpAny_mono (own_run1 F hr hb I (show Vals [V.ref a] [Value.ref a] from .cons rfl .nil) sp) (fun w s' z => ?_) fun _ _ z => z)
  obtain ⟨v, H', I', rv, i, rfl, hi, q⟩ := z
  obtain ⟨t, rfl⟩ := rv
  exact ⟨hi, .int i, H', I'.tok _, ⟨_, rfl⟩, q⟩
end
/-! ### isinstance(x, C) -/
structure IsiC (K : PySem.W.Frag) (C : Addr) : Prop where
  ha : PySem.W.findIn K (.ref C) "__class__" = some (some (.builtin "object.__class__"))
  hn : PySem.W.specialIn K (.builtin "object.__class__") "__get__" = some (some (.builtin "getset_descriptor.__get__"))
  tk : PySem.W.takesIn K (.builtin "object.__class__") = some true
  hm : PySem.W.mroIn K C (.type "object") = some true
  no : PySem.W.kitOne K (.type "NoneType") (.ref C) = some false
  bl : PySem.W.kitOne K (.type "bool") (.ref C) = some false
  it : PySem.W.kitOne K (.type "int") (.ref C) = some false
  st : PySem.W.kitOne K (.type "str") (.ref C) = some false
  ls : PySem.W.kitOne K (.type "list") (.ref C) = some false
  tp : PySem.W.kitOne K (.type "tuple") (.ref C) = some false
def fIsC (c : PySem.Str) : D → Option D
  | .obj c' _ _ => if c' = c then some (.bl true) else none
  | _ => some (.bl false)
section
variable {X : Cx} {a : Expr} {ma : M Vl} {pos p p2 : Pos} {c y : PySem.Str} {C : Addr}
theorem se_isC (hm : X.mg "isinstance" = none) (hg : Gl X "isinstance") (hC : ClsN X.K c C) (cl : Cls X.K C) (i : IsiC X.K C) (hm2 : X.mg y = some (.ref C)) (hg2 : Gl X y) (ha : SE X a ma) (hdb : (y == ("__debug__" : Str)) = false := by decide)
    (he : starEach [a, .Name y p2] X.env = (false, eval a X.env) :: starEach [.Name y p2] X.env := by rfl) (he2 : starEach [.Name y p2] X.env = (false, eval (.Name y p2) X.env) :: starEach [] X.env := by rfl) (hpl : (backTo pos (starEach [.Name y p2] X.env)).any (·.1) = false := by rfl) :
    SE X (.Call (.Name "isinstance" p) [a, .Name y p2] [] pos) (eUn (fIsC c) ma) := by
  have pT : PE X (.Name y p2) (tC (.ref C)) := pe_glob hg2 hm2 rfl hdb
  refine pe_weak (pe_callB call_isi hg hm (by decide +kernel) (pa_cons ha (pa_cons pT pa_nil he2) he) (by decide) (by decide) he hpl) fun σ H Q ⟨G, ρ, F, r0, ρ', W, hm, q⟩ => ?_
  unfold eUn at hm
  obtain ⟨⟨x, ρ1⟩, e1, hm⟩ := Option.bind_eq_some_iff.mp hm
  obtain ⟨dx, e3, hm⟩ := Option.bind_eq_some_iff.mp hm
  obtain ⟨dz, e5, hm⟩ := Option.bind_eq_some_iff.mp hm
  cases hm
  refine tm_use W e1 fun v H1 F1 s1 R1 => ?_
  have hv := vw_of s1.wd R1 e3
  by_cases io : ∃ c' ks xs, dx = .obj c' ks xs
  · obtain ⟨c', ks, xs, rfl⟩ := io
    have e6 : (if c' = c then some (D.bl true) else none) = some dz := e5
    split at e6
    · rename_i ec
      subst ec
      obtain rfl : D.bl true = dz := Option.some.inj e6
      obtain ⟨b, dx, vs, rfl, hb, _⟩ := rep_ob hC (show Rep X.K F1 v (.obj c' ks xs) from hv)
      exact ⟨.ref b, .ref C, .ref C, .ref C, true, rfl, .own C, .base (.ins (s1.wd.sub _ _ hb) cl i.ha i.hn i.tk i.hm), by unfold PySem.W.kitOne; rw [if_pos (beq_self_eq_true _)], q _ H1 F1 s1 (.bl true)⟩
    · cases e6
  · have no : ∀ c ks xs, dx ≠ .obj c ks xs := fun c ks xs e => io ⟨c, ks, xs, e⟩
    have e6 : dz = .bl false := by
      cases dx <;> first | (exact absurd rfl (no _ _ _)) | (cases e5; rfl)
    subst e6
    refine ⟨v, .ref C, _, .ref C, false, rfl, .own C, tyx no s1.wd.sub hv, ?_, q _ H1 F1 s1 (.bl false)⟩
    cases dx with
    | non => exact i.no
    | bl b => exact i.bl
    | int j => exact i.it
    | str t => exact i.st
    | lst xs => exact i.ls
    | tup xs => exact i.tp
    | scr xs => exact i.ls
    | obj c ks xs => exact absurd rfl (no _ _ _)
end
end Sw
/-! Sw32: calls that leave arguments to their defaults; == by an own __eq__. -/
namespace Sw
open PySem PySem.Spec PyProof.Rows L2
theorem fund_g {K : PySem.W.Frag} {x qual : PySem.Str} {st : Stmt} {f : Addr} {fd : FuncData} {dvs : List V} {kws : List (Str × V)} (F : FunD K x qual (defArgs st) (defBody st) (defScope st) dvs kws f fd) : FunG K x qual st f fd := by
  obtain ⟨oc, od, dV, kV, doc, pm, an, cdv, ct, osl, e, lk, hcd, _, _⟩ := F.ex
  exact ⟨oc, od, dV, kV, doc, pm, an, cdv, ct, osl, e, lk, hcd⟩
theorem fund_mk {K : PySem.W.Frag} {x qual : Str} {st : Stmt} {f T : Addr} {oc : Value} {od an : Option Addr} {osl : Array (Option Value)} {kV doc pm cdv ct : Value} {dvs : List V} {oT : Obj} {its : List Value} {nT : Nat} (l : K.lookup f = some ⟨oc, od, .func (PySem.W.fnOf x qual (defArgs st) (defBody st) (defScope st) (.ref T) kV doc pm an cdv ct), osl⟩)
    (c : PySem.W.codeIn K cdv qual = true) (k : PySem.W.keepIn K (.ref f) = true) (lT : K.lookup T = some oT) (dT : oT.data = .seq its.toArray nT) (hd : dvs ≠ []) (r : Vals dvs its) :
    FunD K x qual (defArgs st) (defBody st) (defScope st) dvs [] f (PySem.W.fnOf x qual (defArgs st) (defBody st) (defScope st) (.ref T) kV doc pm an cdv ct) :=
  ⟨⟨oc, od, .ref T, kV, doc, pm, an, cdv, ct, osl, rfl, l, c, .inr ⟨hd, T, oT, its, nT, rfl, lT, dT, r⟩, .inl rfl⟩, k⟩
theorem binds_all {K : PySem.W.Frag} {fd : FuncData} {ps : List Str} (h : ∃ ds, Vals [] ds ∧ Binds K fd ps ds) : Binds K fd ps [] := by
  obtain ⟨ds, v, b⟩ := h
  cases v
  exact b
/-- constants of data -/
def CstV (K : PySem.W.Frag) : List V → List D → Prop
  | [], [] => True
  | v :: vs, d :: ds => (∀ F : Hp, Rep K F v d) ∧ CstV K vs ds
  | _, _ => False
theorem VlSs.cst {K : PySem.W.Frag} {σ : L2.St} {F : Hp} : ∀ {vs : List V} {rs : List Vl} {dvs : List V} {ds : List D}, VlSs K σ F vs rs → CstV K dvs ds → VlSs K σ F (vs ++ dvs) (rs ++ ds.map .fz)
  | [], [], [], [], _, _ => trivial
  | [], [], _ :: _, _ :: _, h, c => ⟨c.1 F, VlSs.cst (vs := []) (rs := []) h c.2⟩
  | [], [], [], _ :: _, _, c => c.elim
  | [], [], _ :: _, [], _, c => c.elim
  | v :: vs, r :: rs, dvs, ds, h, c => ⟨h.1, VlSs.cst h.2 c⟩
  | [], _ :: _, _, _, h, _ => h.elim
  | _ :: _, [], _, _, h, _ => h.elim
/-- the arguments that are written, then the defaults -/
def aDef (ms : M (List Vl)) (ds : List D) : M (List Vl) := fun ρ => (ms ρ).bind fun p => some (p.1 ++ ds.map .fz, p.2)
section
variable {X : Cx} {e : Expr} {es : List Expr} {ms : M (List Vl)} {f : Fn} {fs : List Bool} {x : Str} {p pos : Pos} {fa : Addr} {fd : FuncData} {ps : List Str} {k n : Nat} {dvs : List V} {ds : List D} {dus : List Value}
theorem tcallD_of {K : PySem.W.Frag} {E : XK} (c : CstV K dvs ds) (hn : ∀ gs z, f gs = some z → gs.length = n) {σ : L2.St} {H : Hp} {Q : VK} (h : tM K (eCall f fs (aDef ms ds)) σ H Q) : tCall (spF K n f) dvs E (tMA K ms) σ H Q := by
  obtain ⟨G, ρ, F, r0, ρ', W, hm, q⟩ := h
  obtain ⟨rs, ρ1, e1, w⟩ := tcall_core (E := E) hn W hm q
  unfold aDef at e1
  obtain ⟨⟨ys, ρ2⟩, e2, e1⟩ := Option.bind_eq_some_iff.mp e1
  cases e1
  exact ⟨G, ρ, F, ys, ρ2, W, e2, fun vs H1 F1 s1 R1 => w (vs ++ dvs) H1 F1 s1 (R1.cst c)⟩
theorem se_callD (F : FnOk X.prog X.w X.K X.mg X.base CX0 k fa fd ps (spF X.K n f)) (hn : ∀ gs z, f gs = some z → gs.length = n) (hr : Room k X.A) (hm : X.mg x = some (.ref fa)) (hk : PySem.W.keepIn X.K (.ref fa) = true) (hb : ∃ dus, Vals dvs dus ∧ Binds X.K fd ps dus) (c : CstV X.K dvs ds) (hg : Gl X x)
    (ha : SA X (e :: es) ms) (hdb : (x == ("__debug__" : Str)) = false := by decide) (he : starEach (e :: es) X.env = (false, eval e X.env) :: starEach es X.env := by rfl) (hpl : (backTo pos (starEach es X.env)).any (·.1) = false := by rfl) :
    SE X (.Call (.Name x p) (e :: es) [] pos) (eCall f fs (aDef ms ds)) := by
  obtain ⟨dus, hd, hb⟩ := hb
  exact pe_weak (pe_call F hr hg hm hk hb hd pass0 ha hdb he hpl) fun _ _ _ h => tcallD_of c hn h
theorem se_make0 {c : PySem.Str} {C fi : Addr} {g : List D → Option (List PySem.Str × List D)} (M : Mk X.K C fi) (hC : ClsN X.K c C) (F : FnOk X.prog X.w X.K X.mg X.base CX0 k fi fd ps (spI X.K C n g)) (hn : ∀ ds z, g ds = some z → ds.length = n) (hr : Room (k + 1) X.A) (hg : Gl X x) (hm : X.mg x = some (.ref C)) (hb : ∃ dus, Vals dvs dus ∧ Binds X.K fd ps dus) (cs : CstV X.K dvs ds)
    (hdb : (x == ("__debug__" : Str)) = false := by decide) : SE X (.Call (.Name x p) [] [] pos) (eMake c g (aDef aNil ds)) := by
  obtain ⟨dus, hd, hb⟩ := hb
  refine pe_weak (pe_make0 M F hr hg hm hb hd pass0 hdb) fun σ H Q h => ?_
  have h2 := tmake_of (E := E0) hC hn h
  obtain ⟨G, ρ, F, rs, ρ1, W, e1, w⟩ := h2
  unfold aDef aNil at e1
  cases e1
  have h3 := w dvs H F (Ste.refl W) (VlSs.cst (vs := []) (rs := []) (K := X.K) (σ := σ) (F := F) trivial cs)
  intro y dy hy hdy hne
  have := h3 y dy hy hdy hne
  rw [List.append_nil] at this
  exact this
end
/-! ### == by an own __eq__ -/
section
variable {X : Cx} {f : Fn} {c : PySem.Str} {C g : Addr} {fd : FuncData} {ps : List Str} {k n : Nat}
/-- x == y, x an instance whose own __eq__ answers with a bool -/
def rOwnEq (K : PySem.W.Frag) (C : Addr) (f : Fn) : R2 := fun x y H Q => ∃ a dx fs t, x = .ref a ∧ H a = some (.ins C dx fs) ∧ TyX K H y t ∧ PySem.W.notFirst K C t = true ∧ spF K 2 f [x, y] H (fun v H' => ∃ b, v = .bl b ∧ Q (.bl b) H') E0
end
end Sw
/-! Sw33: reckoning with methods, own operators; texts picked out of a text. -/
namespace Sw
open L2
section
variable {ρ : Rho} {c m : PySem.Str} {f : Fn} {mo : M Vl} {ms : M (List Vl)} {Q : Vl → Rho → Prop}
theorem ev_meth (h : Ev mo ρ fun r ρ1 => ∃ x, r = .fz x ∧ isOb c m (.fz x) = true ∧ Ev (eCall f [] (aCons (eC x) ms)) ρ1 Q) : Ev (eMeth c m f mo ms) ρ Q := by
  obtain ⟨r, ρ1, e1, x, rfl, hb, r2, ρ2, e2, q⟩ := h
  refine ⟨r2, ρ2, ?_, q⟩
  unfold eMeth
  rw [e1]
  show (if isOb c m (.fz x) = true then _ else none) = _
  rw [if_pos hb]
  exact e2
theorem ev_prop (h : Ev mo ρ fun r ρ1 => ∃ x, r = .fz x ∧ isOb c PySem.Str.empty (.fz x) = true ∧ Ev (eCall f [] (aCons (eC x) aNil)) ρ1 Q) : Ev (eProp c f mo) ρ Q := ev_meth h
end
section
variable {c : PySem.Str} {f : Fn} {x y : D} {Q : D → Prop} {g h : D → D → Option D}
theorem giv_own2 (hx : isOf c x = true) (hy : isOf c y = true) (q : Fv f [.da x, .da y] fun r _ => ∃ z, r = .fz z ∧ Q z) : Giv (fOwn2 c f x y) Q := by
  obtain ⟨r, os, e, z, rfl, q⟩ := q
  refine ⟨z, ?_, q⟩
  unfold fOwn2
  rw [hx, hy, if_pos (show (true && true) = true from rfl), e]
  rfl
theorem giv_own1 (hx : isOf c x = true) (q : Fv f [.da x] fun r _ => ∃ z, r = .fz z ∧ Q z) : Giv (fOwn1 c f x) Q := by
  obtain ⟨r, os, e, z, rfl, q⟩ := q
  refine ⟨z, ?_, q⟩
  unfold fOwn1
  rw [if_pos hx, e]
  rfl
theorem giv_ownIn {neg : Bool} (hy : isOf c y = true) (hx : notL x = true) (q : Fv f [.da y, .da x] fun r _ => ∃ b, r = .fz (.bl b) ∧ Q (.bl (b != neg))) : Giv (fOwnIn c f neg x y) Q := by
  obtain ⟨r, os, e, b, rfl, q⟩ := q
  refine ⟨_, ?_, q⟩
  unfold fOwnIn
  rw [hx, hy, if_pos (show (true && true) = true from rfl), e]
  rfl
theorem giv_orl (h1 : Giv (g x y) Q) : Giv (orF g h x y) Q := by
  obtain ⟨z, e, q⟩ := h1
  exact ⟨z, by unfold orF; rw [e], q⟩
theorem giv_orr (h0 : g x y = none) (h1 : Giv (h x y) Q) : Giv (orF g h x y) Q := by
  obtain ⟨z, e, q⟩ := h1
  exact ⟨z, by unfold orF; rw [h0]; exact e, q⟩
theorem giv_isC {ks : List PySem.Str} {xs : List D} (q : Q (.bl true)) : Giv (fIsC c (.obj c ks xs)) Q := giv (by show (if c = c then _ else _) = _; rw [if_pos rfl]) q
theorem isOf_obj {ks : List PySem.Str} {xs : List D} : isOf c (.obj c ks xs) = true := by unfold isOf; exact decide_eq_true rfl
end
theorem obp {c m : PySem.Str} {x : D} {P : D → Prop} (h : isOb c m (.fz x) = true) (q : P x) : ∃ x', Vl.fz x = .fz x' ∧ isOb c m (.fz x') = true ∧ P x' := ⟨x, rfl, h, q⟩
theorem isOb_obj {c m : PySem.Str} {ks : List PySem.Str} {xs : List D} (h : ks.contains m = false) : isOb c m (.fz (.obj c ks xs)) = true := by
  show (decide (c = c) && !ks.contains m) = true
  rw [h, decide_eq_true rfl]
  rfl
theorem fzp {x : D} {P : D → Prop} (q : P x) : ∃ z, Vl.fz x = .fz z ∧ P z := ⟨x, rfl, q⟩
theorem fbp {b : Bool} {P : Bool → Prop} (q : P b) : ∃ z, Vl.fz (.bl b) = .fz (.bl z) ∧ P z := ⟨b, rfl, q⟩
/-- [c for c in src if test] of signs, the test changes nothing -/
theorem ev_pick {ρ : Rho} {v : Nat} {src : M (List D)} {t : M Bool} {Q : Vl → Rho → Prop} (cs : List Nat) (p : Nat → Bool) (hv : plainSl ρ[v]? = true) (hl : cs.length ≤ lim) (hs : ∀ {Q' : List D → Rho → Prop}, Q' (cs.map fun c => .str [c]) ρ → Ev src ρ Q')
    (ht : ∀ c ∈ cs, ∀ {Q' : Bool → Rho → Prop}, Q' (p c) (ρ.set v (.d (.str [c]))) → Ev t (ρ.set v (.d (.str [c]))) Q') (q : Q (.fr ((cs.filter p).map fun c => .str [c])) ρ) : Ev (eLc [v] src (gN v) t (eVar v)) ρ Q := by
  have hvl := plain_io hv
  exact ev_lcf cs (fun c => .str [c]) p (fun c => .str [c]) hv hl hs ht (fun c _ _ Q' q' => ev_vd (by rw [List.getElem?_set_self hvl]) q') q
theorem giv_pick {cs : List Nat} {Q : D → Prop} (hl : cs.length ≤ lim) (q : Q (.str cs)) : Giv (fJoin (.str []) [.lst (cs.map fun c => .str [c])]) Q := giv (join_signs hl) q
theorem sub_takeY {ts cs : List Nat} {i c : Nat} (h : ts.Sublist (cs.take i)) (hi : cs[i]? = some c) : (ts ++ [c]).Sublist (cs.take (i + 1)) := by
  rw [take_s hi]
  exact h.append (List.Sublist.refl _)
theorem sub_takeN {ts cs : List Nat} {i c : Nat} (h : ts.Sublist (cs.take i)) (hi : cs[i]? = some c) : ts.Sublist (cs.take (i + 1)) := by
  rw [take_s hi]
  exact h.trans (List.sublist_append_left _ _)
theorem set_same {ρ : Rho} {v : Nat} (hv : ρ[v]? = some .no) : ρ.set v .no = ρ := by
  obtain ⟨h, e⟩ := List.getElem?_eq_some_iff.mp hv
  rw [← e]
  exact List.set_getElem_self h
/-- [c for c in src if test] of signs, the test draws -/
theorem ev_pickR {e : Int} {v : Nat} {src : M (List D)} {t : M Bool} {Q : Vl → Rho → Prop} (P : List D → Rho) (cs : List Nat) {ds0 : List D} (h0 : DrE e ds0) (hv : ∀ ds, (P ds)[v]? = some .no) (hl : cs.length ≤ lim)
    (hs : ∀ {Q' : List D → Rho → Prop}, Q' (cs.map fun c => .str [c]) (P ds0) → Ev src (P ds0) Q')
    (ht : ∀ c ∈ cs, ∀ ds, DrE e ds → ∀ {Q' : Bool → Rho → Prop}, (∀ b ds', DrE e ds' → Q' b ((P ds').set v (.d (.str [c])))) → Ev t ((P ds).set v (.d (.str [c]))) Q')
    (q : ∀ (ts : List Nat) ds', ts.Sublist cs → DrE e ds' → Q (.fr (ts.map fun c => .str [c])) (P ds')) : Ev (eLc [v] src (gN v) t (eVar v)) (P ds0) Q := by
  have hvl : ∀ ds, v < (P ds).length := fun ds => (List.getElem?_eq_some_iff.mp (hv ds)).1
  refine ev_lc (fun k acc ρ => ∃ (ts : List Nat) (ds : List D), acc = ts.map (fun c => D.str [c]) ∧ ts.Sublist (cs.take k) ∧ DrE e ds ∧ ρ = P ds) (hs ?_)
  refine ⟨by simp only [List.all_cons, hv, List.all_nil]; rfl, ⟨[], ds0, rfl, List.nil_sublist _, h0, ?_⟩, ?_, ?_⟩
  · show (P ds0).set v .no = _
    exact set_same (hv ds0)
  · rintro i x hx acc ρ ⟨ts, ds, rfl, hts, hd, rfl⟩
    rw [List.getElem?_map] at hx
    cases hi : cs[i]? with
    | none => rw [hi] at hx; cases hx
    | some c =>
      rw [hi] at hx
      cases hx
      refine ⟨(P ds).set v (.d (.str [c])), asg_z (by rw [hv ds]; rfl), ht c (List.mem_of_getElem? hi) ds hd fun b ds' hd' => ?_⟩
      have hn : ts.length < lim := by
        have h1 := hts.length_le
        have h2 := (List.getElem?_eq_some_iff.mp hi).1
        rw [List.length_take] at h1
        omega
      refine ⟨fun _ => ev_vd (by rw [List.getElem?_set_self (hvl ds')]) ⟨_, _, rfl, by rw [List.length_map]; exact hn, ts ++ [c], ds', by rw [List.map_append]; rfl, sub_takeY hts hi, hd', ?_⟩, fun _ => ⟨ts, ds', rfl, sub_takeN hts hi, hd', ?_⟩⟩
      · show ((P ds').set v (.d (.str [c]))).set v .no = _
        rw [List.set_set, set_same (hv ds')]
      · show ((P ds').set v (.d (.str [c]))).set v .no = _
        rw [List.set_set, set_same (hv ds')]
  · rintro acc ρ' ⟨ts, ds, rfl, hts, hd, rfl⟩
    rw [List.length_map, List.take_length] at hts
    show Q _ ((P ds).set v (((P ds0)[v]?).getD .no))
    rw [hv ds0]
    show Q _ ((P ds).set v .no)
    rw [set_same (hv ds)]
    exact q ts ds hts hd
/-- [expr for x in src], the expression draws -/
theorem ev_lcR {α : Type} {e : Int} {v : Nat} {src : M (List D)} {ex : M Vl} {Q : Vl → Rho → Prop} (P : List D → Rho) (d : α → D) (G : α → Prop) (S : List D → Prop) {ds0 : List D} (hv : ∀ ds, (P ds)[v]? = some .no) (hl : ∀ xs, S xs → xs.length ≤ lim)
    (hs : ∀ {Q' : List D → Rho → Prop}, (∀ xs ds', S xs → DrE e ds' → Q' xs (P ds')) → Ev src (P ds0) Q')
    (he : ∀ xs, S xs → ∀ x ∈ xs, ∀ ds, DrE e ds → ∀ {Q' : Vl → Rho → Prop}, (∀ a ds', G a → DrE e ds' → Q' (.fz (d a)) ((P ds').set v (.d x))) → Ev ex ((P ds).set v (.d x)) Q')
    (q : ∀ xs (as : List α) ds', S xs → as.length = xs.length → (∀ a ∈ as, G a) → DrE e ds' → Q (.fr (as.map d)) (P ds')) : Ev (eLc [v] src (gN v) tYesM ex) (P ds0) Q := by
  have hvl : ∀ ds, v < (P ds).length := fun ds => (List.getElem?_eq_some_iff.mp (hv ds)).1
  refine ev_lc (fun k acc ρ => ∃ (as : List α) (ds : List D), acc = as.map d ∧ as.length = k ∧ (∀ a ∈ as, G a) ∧ DrE e ds ∧ ρ = P ds) (hs fun xs ds1 hS hd1 => ?_)
  refine ⟨by simp only [List.all_cons, hv, List.all_nil]; rfl, ⟨[], ds1, rfl, rfl, fun a h => absurd h List.not_mem_nil, hd1, ?_⟩, ?_, ?_⟩
  · show (P ds1).set v .no = _
    exact set_same (hv ds1)
  · rintro i x hx acc ρ ⟨as, ds, rfl, hk, hG, hd, rfl⟩
    refine ⟨(P ds).set v (.d x), asg_z (by rw [hv ds]; rfl), ev_tyes ?_⟩
    refine brn_t (he xs hS x (List.mem_of_getElem? hx) ds hd fun a ds' ga hd' => ?_)
    refine ⟨_, _, rfl, ?_, as ++ [a], ds', by rw [List.map_append]; rfl, by rw [List.length_append, hk]; rfl, fun b hb => ?_, hd', ?_⟩
    · rw [List.length_map, hk]
      have := (List.getElem?_eq_some_iff.mp hx).1
      have := hl xs hS
      omega
    · rcases List.mem_append.mp hb with h | h
      · exact hG b h
      · rw [List.mem_singleton.mp h]; exact ga
    · show ((P ds').set v (.d x)).set v .no = _
      rw [List.set_set, set_same (hv ds')]
  · rintro acc ρ' ⟨as, ds, rfl, hk, hG, hd, rfl⟩
    show Q _ ((P ds).set v (((P ds1)[v]?).getD .no))
    rw [hv ds1]
    show Q _ ((P ds).set v .no)
    rw [set_same (hv ds)]
    exact q xs as ds hS hk hG hd
end Sw
/-! Sw34: == by an own __eq__, len of an instance or another thing, text.count(sign). -/
namespace Sw
open PySem PySem.Spec PyProof.Rows L2
section
variable {X : Cx} {f : Fn} {c : PySem.Str} {C g : Addr} {fd : FuncData} {ps : List Str} {k n : Nat}
/-- no built-in type is a subclass -/
structure EqC (K : PySem.W.Frag) (C : Addr) : Prop where
  no : PySem.W.notFirst K C (.type "NoneType") = true
  bl : PySem.W.notFirst K C (.type "bool") = true
  it : PySem.W.notFirst K C (.type "int") = true
  st : PySem.W.notFirst K C (.type "str") = true
  tp : PySem.W.notFirst K C (.type "tuple") = true
def fOwnEq (c : PySem.Str) (f : Fn) : D → D → Option D := fun x y => if (isOf c x && (isOf c y || (!isO y && notL y && !isScr y))) = true then (f [.da x, .da y]).bind fun r => match r.1 with
  | .fz (.bl b) => some (.bl b)
  | _ => none else none
where isScr : D → Bool
  | .scr _ => true
  | _ => false
theorem os_ownEq {K : PySem.W.Frag} (hC : ClsN K c C) (cl : Cls K C) (i : IsiC K C) (q6 : EqC K C) : OpS K (rOwnEq K C f) (fOwnEq c f) := by
  intro H F v u x y z s hx hy e Q q
  unfold fOwnEq at e
  split at e
  · rename_i hc
    rw [Bool.and_eq_true] at hc
    obtain ⟨kx, xs, rfl⟩ := isOf_ok hc.1
    obtain ⟨⟨r, os⟩, e1, e2⟩ := Option.bind_eq_some_iff.mp e
    have hx : Rep K F v _ := hx
    obtain ⟨a, dx, vs, rfl, ha, _⟩ := rep_ob hC hx
    have nl : ∀ zs, y ≠ .lst zs := fun zs h => by
      subst h
      rcases Bool.or_eq_true_iff.mp hc.2 with h | h
      · cases h
      · rw [Bool.and_eq_true, Bool.and_eq_true] at h; cases h.1.2
    have hy' := nl_rep nl hy
    have ty : ∃ t, TyX K H u t ∧ PySem.W.notFirst K C t = true := by
      cases y with
      | non => exact ⟨_, tyx (fun _ _ _ h => by cases h) s hy, q6.no⟩
      | bl b => exact ⟨_, tyx (fun _ _ _ h => by cases h) s hy, q6.bl⟩
      | int j => exact ⟨_, tyx (fun _ _ _ h => by cases h) s hy, q6.it⟩
      | str t => exact ⟨_, tyx (fun _ _ _ h => by cases h) s hy, q6.st⟩
      | tup ys => exact ⟨_, tyx (fun _ _ _ h => by cases h) s hy, q6.tp⟩
      | lst ys => exact absurd rfl (nl ys)
      | scr ys =>
        rcases Bool.or_eq_true_iff.mp hc.2 with h | h
        · cases h
        · rw [Bool.and_eq_true] at h; cases h.2
      | obj c' ks ys =>
        have hc' : c' = c := by
          rcases Bool.or_eq_true_iff.mp hc.2 with h | h
          · exact of_decide_eq_true h
          · rw [Bool.and_eq_true, Bool.and_eq_true] at h; cases h.1.1
        subst hc'
        obtain ⟨b, dy, us, rfl, hb, _⟩ := rep_ob hC hy'
        exact ⟨.ref C, .base (.ins (s _ _ hb) cl i.ha i.hn i.tk i.hm), by unfold PySem.W.notFirst; rw [beq_self_eq_true]; rfl⟩
    obtain ⟨t, ty, nf⟩ := ty
    dsimp only at e2
    split at e2
    · rename_i b
      cases e2
      refine ⟨a, dx, _, t, rfl, s _ _ ha, ty, nf, spf_data (gs := [.da (.obj c kx xs), .da y]) rfl s ⟨hx, hy', trivial⟩ (by cases u <;> rfl) e1 fun v H' F' A R => ?_⟩
      cases R
      exact ⟨b, rfl, q _ H' F' A (.bl _)⟩
    · cases e2
  · cases e
theorem op_ownEq (hs : PySem.W.findIn X.K (.ref C) "__eq__" = some (some (.ref g))) (hf : PySem.W.isFn X.K (.ref g) = true) (hu : X.A.units + 64 < cLine)
    (F : FnOk X.prog X.w X.K X.mg X.base CX0 k g fd ps (spF X.K 2 f)) (hr : Room k X.A) (hb : Binds X.K fd ps []) : OpR X (compareOp .Eq) (rOwnEq X.K C f) := by
  intro pins s σ H x y v u Q I rx ry h
  obtain ⟨a, dx, fs, t, rfl, ha, ty, nf, sp⟩ := h
  cases rx
  obtain ⟨ox, od, J⟩ := ins_look I ha
  obtain ⟨m, hF⟩ := I.fr
  obtain ⟨P, Z, p, _⟩ := kit_of I ry ty
  show wpAny (model X.prog X.w) X.A (richCompare .Eq (.ref a) u) (EP X pins σ Q) X.xe s
  refine PySem.W.cmp_K (op := .Eq) (tb := t) (by omega) hF I.ok.mod.kin J (Z.ty _ _ I.kIn p) nf hs hf (wpAny_mono (own_run F hr hb I (show Vals [V.ref a, y] [Value.ref a, u] from .cons rfl (.cons ry .nil)) sp) (fun w s' z => ?_) fun _ _ z => z)
  obtain ⟨v, H', I', rv, b, rfl, q⟩ := z
  cases rv
  exact (show EP X pins σ Q (.bool b) s' from ⟨.bl b, H', I', rfl, q⟩)
theorem oOwnEq (hC : ClsN X.K c C) (cl : Cls X.K C) (i : IsiC X.K C) (q6 : EqC X.K C) (hs : PySem.W.findIn X.K (.ref C) "__eq__" = some (some (.ref g))) (hf : PySem.W.isFn X.K (.ref g) = true) (hu : X.A.units + 64 < cLine)
    (F : FnOk X.prog X.w X.K X.mg X.base CX0 k g fd ps (spF X.K 2 f)) (hr : Room k X.A) (hb : Binds X.K fd ps []) : Op2 X (compareOp .Eq) (fOwnEq c f) := ⟨_, op_ownEq hs hf hu F hr hb, os_ownEq hC cl i q6⟩
end
/-! ### len of an instance, or of another thing -/
def cLenO (c : PySem.Str) (f : Fn) : List D → Option D := fun xs => match cLen xs with
  | some z => some z
  | none => cOwnLen c f xs
section
variable {X : Cx} {e : Expr} {ms : M (List Vl)} {f : Fn} {c : PySem.Str} {C g : Addr} {fd : FuncData} {ps : List Str} {k : Nat} {p pos : Pos}
theorem cr_or {fv : Value} {r r' : List V → Hp → VK → Prop} (h : CallR X fv r) (h' : CallR X fv r') : CallR X fv (fun vs H Q => r vs H Q ∨ r' vs H Q) := fun pins s σ H xs us Q I rx q => q.elim (h pins s σ H xs us Q I rx) (h' pins s σ H xs us Q I rx)
theorem se_lenO (hC : ClsN X.K c C) (hs : PySem.W.findIn X.K (.ref C) "__len__" = some (some (.ref g))) (hf : PySem.W.isFn X.K (.ref g) = true)
    (F : FnOk X.prog X.w X.K X.mg X.base CX0 k g fd ps (spF X.K 1 f)) (hr : Room (k + 1) X.A) (hb : Binds X.K fd ps [])
    (hm : X.mg "len" = none) (hg : Gl X "len") (ha : SA X [e] ms) (he : starEach [e] X.env = (false, eval e X.env) :: starEach [] X.env := by rfl) (hpl : (backTo pos (starEach [] X.env)).any (·.1) = false := by rfl) : SE X (.Call (.Name "len" p) [e] [] pos) (eBlt (cLenO c f) ms) := by
  refine se_blt (cr_or call_len (cr_ownLen hs hf F hr hb)) ?_ hg hm PySem.boot_len ha (by decide) (by decide) he hpl
  intro H F vs xs z s hx e Q q
  unfold cLenO at e
  split at e
  · rename_i z' e1
    cases e
    exact .inl (cs_len H F vs xs _ s hx e1 Q q)
  · exact .inr (cs_ownLen hC H F vs xs z s hx e Q q)
end
/-! ### text.count(sign) -/
def fCnt : D → List D → Option D
  | .str s, [.str [c]] => some (.int (s.count c : Nat))
  | _, _ => none
theorem cnt_txt (s : List Nat) (c : Nat) : Txt.count ⟨s.toArray⟩ ⟨#[c]⟩ = ((s.count c : Nat) : Int) := by
  rw [count_is, countIn_signs_sum]
  show (s.map fun n => if decide (n = c) = true then (1 : Int) else 0).sum = _
  induction s with
  | nil => rfl
  | cons a s ih =>
    rw [List.map_cons, List.sum_cons, ih, List.count_cons]
    by_cases h : a = c
    · simp [h]; omega
    · simp [h]
theorem ms_cnt {K : PySem.W.Frag} : MetS K (fun x xs H Q => ∃ a b, x = .str a ∧ xs = [.str b] ∧ Q (.int (Txt.count a b)) H) fCnt := by
  intro H F v vs x xs z s hx hxs e Q q
  unfold fCnt at e
  split at e
  · rename_i t c
    cases e
    obtain ⟨w, rfl, hw⟩ := vws1 hxs
    rw [vw_str hx, vw_str hw]
    refine ⟨_, _, rfl, rfl, ?_⟩
    rw [cnt_txt]
    exact q _ H F (Alc.refl s) (.int _)
  · cases e
section
variable {X : Cx} {e o : Expr} {mo : M Vl} {ms : M (List Vl)} {apos cpos : Pos}
theorem se_count (ho : SE X o mo) (ha : SA X [e] ms)
    (hbase : attributeBase o "count" X.env (eval o X.env) = eval o X.env := by rfl)
    (hfew : ((backTo cpos (starEach [e] X.env)).all (fun x => !x.1) && (backToKw cpos (keywordEach [] X.env)).all (fun x => x.1.isSome)
      && decide ([e].length + ([] : List Keyword).length + (if ([] : List Keyword).isEmpty then 0 else 1) < 30)) = true := by rfl)
    (hline : (apos.endLine == cpos.line) = true := by rfl) (hs : starEach [e] X.env = (false, eval e X.env) :: starEach [] X.env := by rfl) (hplain : (backTo cpos (starEach [] X.env)).any (·.1) = false := by rfl) :
    SE X (.Call (.Attribute o "count" apos) [e] [] cpos) (eMet fCnt mo ms) := se_met PySem.F.slot_str_count PySem.F.type_str_count L2.mt_count (fun x xs z h => by
  unfold fCnt at h
  split at h
  · exact ⟨_, rfl⟩
  · cases h) ms_cnt ho ha hbase hfew hline hs hplain
end
end Sw
/-! Sw35: lists lent to a def that only reads them: they are data while the def runs, and one's own again behind it. -/
namespace Sw
open PySem PySem.Spec PyProof.Rows L2
mutual
/-- no list within -/
def nlD : D → Bool
  | .lst _ => false
  | .scr _ => false
  | .tup xs => nlDs xs
  | .obj _ _ xs => nlDs xs
  | _ => true
def nlDs : List D → Bool
  | [] => true
  | x :: xs => nlD x && nlDs xs
end
theorem sqt_off {K : PySem.W.Frag} {F F' : Hp} {a : Addr} {vs : List V} (k : ∀ b o, F b = some o → (∀ us, o ≠ .lst us) → F' b = some o) (h : SqT K F a vs) : SqT K F' a vs := by
  rcases h with (h | ⟨o, h⟩) | h
  · exact .inl (.inl (k _ _ h fun us e => by cases e))
  · exact .inl (.inr ⟨o, k _ _ h fun us e => by cases e⟩)
  · exact .inr h
mutual
theorem Rep.off {K : PySem.W.Frag} {F F' : Hp} (k : ∀ b o, F b = some o → (∀ us, o ≠ .lst us) → F' b = some o) : ∀ {v : V} {d : D}, nlD d = true → Rep K F v d → Rep K F' v d
  | _, _, _, .non => .non
  | _, _, _, .bl b => .bl b
  | _, _, _, .int i => .int i
  | _, _, _, .str s => .str s
  | _, _, n, .lst h r => by unfold nlD at n; cases n
  | _, _, n, .scr h => by unfold nlD at n; cases n
  | _, _, n, .tup h r => .tup (sqt_off k h) (Reps.off k (by unfold nlD at n; exact n) r)
  | _, _, n, .obj h1 h2 h3 r => .obj h1 (k _ _ h2 fun us e => by cases e) h3 (Reps.off k (by unfold nlD at n; exact n) r)
theorem Reps.off {K : PySem.W.Frag} {F F' : Hp} (k : ∀ b o, F b = some o → (∀ us, o ≠ .lst us) → F' b = some o) : ∀ {vs : List V} {ds : List D}, nlDs ds = true → Reps K F vs ds → Reps K F' vs ds
  | _, _, _, .nil => .nil
  | _, _, n, .cons h r => by
    unfold nlDs at n
    rw [Bool.and_eq_true] at n
    exact .cons (Rep.off k n.1 h) (Reps.off k n.2 r)
end
/-- the arguments: data, lists as they stand -/
def agL (ρ : Rho) : List (D ⊕ Nat) → Option (List D)
  | [] => some []
  | .inl x :: r => (agL ρ r).bind fun ds => some (x :: ds)
  | .inr i :: r => (own? ρ i).bind fun xs => (agL ρ r).bind fun ds => some (.lst xs :: ds)
def eCallL (f : Fn) (fs : List Bool) (a : M (List Vl)) : M Vl := fun ρ => (a ρ).bind fun p => (ag1 fs p.1 p.2).bind fun q => (agL q.2 q.1).bind fun ds => (f (ds.map .da)).bind fun z => match z.1 with
  | .fz x => if nlD x = true then some (.fz x, q.2) else none
  | .fr xs => if nlDs xs = true then some (.fr xs, q.2) else none
  | .bw _ => none
/-- the lent lists' addresses -/
def LS (σ : L2.St) : List V → List (D ⊕ Nat) → Addr → Prop
  | .ref a :: vs, .inr i :: r, b => (b = a ∧ σ[i]? = some (some (.ref a))) ∨ LS σ vs r b
  | _ :: vs, _ :: r, b => LS σ vs r b
  | _, _, _ => False
open Classical in
/-- with them as data -/
noncomputable def lentF (F H : Hp) (S : Addr → Prop) : Hp := fun b => if S b then H b else F b
open Classical in
noncomputable def offF (F : Hp) (S : Addr → Prop) : Hp := fun b => if S b then none else F b
section
variable {K : PySem.W.Frag} {G : Gd} {σ : L2.St} {H F : Hp} {ρ : Rho}
theorem agL_ok (W : Wd K G ρ σ H F) : ∀ {ts : List (D ⊕ Nat)} {vs : List V} {ds : List D}, TsR K σ F vs ts → agL ρ ts = some ds →
    (∀ b, LS σ vs ts b → F b = none ∧ ∃ us, H b = some (.lst us)) ∧ (∀ F', Same F F' → (∀ b, LS σ vs ts b → F' b = H b) → AgsR K F' H vs (ds.map .da)) ∧ ∀ vs', liA vs' (ds.map .da) = []
  | [], [], ds, _, e => by
    cases e
    exact ⟨fun b h => h.elim, fun _ _ _ => trivial, fun vs' => by
      cases vs' with
      | nil => rfl
      | cons a l => cases a <;> rfl⟩
  | [], _ :: _, _, h, _ => h.elim
  | .inl _ :: _, [], _, h, _ => h.elim
  | .inr _ :: _, [], _, h, _ => h.elim
  | .inl x :: ts, v :: vs, ds, h, e => by
    unfold agL at e
    obtain ⟨d2, e2, e⟩ := Option.bind_eq_some_iff.mp e
    cases e
    obtain ⟨h1, h2, h3⟩ := agL_ok W h.2 e2
    have q : ∀ b, LS σ (v :: vs) (.inl x :: ts) b → LS σ vs ts b := fun b z => by cases v <;> exact z
    have q' : ∀ b, LS σ vs ts b → LS σ (v :: vs) (.inl x :: ts) b := fun b z => by cases v <;> exact z
    exact ⟨fun b z => h1 b (q b z), fun F' s k => ⟨h.1.mono s, h2 F' s fun b z => k b (q' b z)⟩, fun vs' => by
      match vs' with
      | [] => rfl
      | u :: us => show liA (u :: us) (.da x :: d2.map .da) = []; cases u <;> exact h3 us⟩
  | .inr i :: ts, v :: vs, ds, h, e => by
    unfold agL at e
    obtain ⟨xs, e1, e⟩ := Option.bind_eq_some_iff.mp e
    obtain ⟨d2, e2, e⟩ := Option.bind_eq_some_iff.mp e
    cases e
    obtain ⟨h1, h2, h3⟩ := agL_ok W h.2 e2
    have hv := h.1
    have key : ∃ a us, v = .ref a ∧ H a = some (.lst us) ∧ Reps K F us xs ∧ F a = none := by
      rcases own_sl e1 with q | q
      · obtain ⟨a, us, z, p1, p2, p3, _⟩ := W.sl i _ q
        rw [hv] at z; cases z
        exact ⟨a, us, rfl, p1, p2, p3⟩
      · obtain ⟨a, us, z, p1, p2, p3, _⟩ := W.sl i _ q
        rw [hv] at z; cases z
        exact ⟨a, us, rfl, p1, p2, p3⟩
    obtain ⟨a, us, rfl, p1, p2, p3⟩ := key
    refine ⟨fun b z => ?_, fun F' s k => ⟨.lst ?_ (p2.mono s), h2 F' s fun b z => k b (.inr z)⟩, fun vs' => ?_⟩
    · rcases z with ⟨rfl, _⟩ | z
      · exact ⟨p3, us, p1⟩
      · exact h1 b z
    · rw [k a (.inl ⟨rfl, hv⟩)]; exact p1
    · match vs' with
      | [] => rfl
      | u :: us => show liA (u :: us) (.da (.lst xs) :: d2.map .da) = []; cases u <;> exact h3 us
variable {X : Cx} {e : Expr} {es : List Expr} {ms : M (List Vl)} {f : Fn} {fs : List Bool} {x : Str} {p pos : Pos} {fa : Addr} {fd : FuncData} {ps : List Str} {k n : Nat}
theorem tcallL_of {K : PySem.W.Frag} {E : XK} (hn : ∀ gs z, f gs = some z → gs.length = n) {σ : L2.St} {H : Hp} {Q : VK} (h : tM K (eCallL f fs ms) σ H Q) : tCall (spF K n f) [] E (tMA K ms) σ H Q := by
  obtain ⟨G, ρ, F, r0, ρ', W, hm, q⟩ := h
  unfold eCallL at hm
  obtain ⟨⟨rs, ρ1⟩, e1, hm⟩ := Option.bind_eq_some_iff.mp hm
  obtain ⟨⟨ts, ρ2⟩, e2, hm⟩ := Option.bind_eq_some_iff.mp hm
  obtain ⟨ds, e3, hm⟩ := Option.bind_eq_some_iff.mp hm
  obtain ⟨⟨z, os⟩, e4, hm⟩ := Option.bind_eq_some_iff.mp hm
  refine ⟨G, ρ, F, rs, ρ1, W, e1, fun vs H1 F1 s1 R1 => ?_⟩
  show spF K n f (vs ++ []) H1 Q E
  rw [List.append_nil]
  obtain ⟨F2, s2, R2⟩ := ag1_ok s1.wd R1 e2
  obtain ⟨A1, A2, A3⟩ := agL_ok s2.wd R2 e3
  have s12 := s1.trans s2
  have S := LS σ vs ts
  have sF : Same F2 (lentF F2 H1 (LS σ vs ts)) := fun b o h => by
    unfold lentF
    rw [if_neg (fun z => by rw [(A1 b z).1] at h; cases h)]
    exact h
  have sub : Same (lentF F2 H1 (LS σ vs ts)) H1 := fun b o h => by
    unfold lentF at h
    split at h
    · exact h
    · exact s2.wd.sub _ _ h
  have AR := A2 (lentF F2 H1 (LS σ vs ts)) sF fun b z => by unfold lentF; rw [if_pos z]
  refine ⟨by rw [AR.len]; exact hn _ _ e4, lentF F2 H1 (LS σ vs ts), ds.map .da, z, os, sub, AR, by rw [A3]; exact List.nodup_nil, e4, fun v H' F' ff sub' kp nf _ res => ?_⟩
  have hh : Same H1 H' := fun b o h => kp b o h (by rw [A3]; exact List.not_mem_nil)
  have A : Alc F2 H1 (offF F' (LS σ vs ts)) H' := by
    refine ⟨fun b o h => ?_, fun b o h => ?_, hh, fun b h => ?_⟩
    · unfold offF
      rw [if_neg (fun z => by rw [(A1 b z).1] at h; cases h)]
      exact ff _ _ (sF _ _ h)
    · unfold offF at h
      split at h
      · cases h
      · exact sub' _ _ h
    · unfold offF at h
      split at h
      · exact absurd rfl h
      · rename_i nb
        rcases nf b h with h | h
        · unfold lentF at h
          rw [if_neg nb] at h
          exact .inl h
        · exact .inr h
  have off : ∀ b o, F' b = some o → (∀ us, o ≠ .lst us) → offF F' (LS σ vs ts) b = some o := fun b o h nl => by
    unfold offF
    rw [if_neg (fun z => by
      obtain ⟨_, us, hus⟩ := A1 b z
      have := sub' _ _ h
      rw [hh _ _ hus] at this
      cases this
      exact nl us rfl)]
    exact h
  have s3 := s12.trans (s2.wd.alc A)
  cases z with
  | fz y =>
    dsimp only at hm
    split at hm
    · rename_i nl
      cases hm
      exact q v H' _ s3 (Rep.off off nl res)
    · cases hm
  | fr ys =>
    dsimp only at hm
    split at hm
    · rename_i nl
      cases hm
      obtain ⟨a, us, e5, u1, u2, u3, u4⟩ := res
      refine q v H' _ s3 ⟨a, us, e5, u1, Reps.off off nl u2, ?_, s12.back a u4, fun i o => ?_⟩
      · unfold offF
        split
        · rfl
        · exact u3
      · obtain ⟨_, z, _⟩ := s12.wd.ow_there o
        rw [u4] at z; cases z
    · cases hm
  | bw i => cases hm
theorem se_callL (F : FnOk X.prog X.w X.K X.mg X.base CX0 k fa fd ps (spF X.K n f)) (hn : ∀ gs z, f gs = some z → gs.length = n) (hr : Room k X.A) (hm : X.mg x = some (.ref fa)) (hk : PySem.W.keepIn X.K (.ref fa) = true) (hb : Binds X.K fd ps []) (hg : Gl X x)
    (ha : SA X (e :: es) ms) (hdb : (x == ("__debug__" : Str)) = false := by decide) (he : starEach (e :: es) X.env = (false, eval e X.env) :: starEach es X.env := by rfl) (hpl : (backTo pos (starEach es X.env)).any (·.1) = false := by rfl) :
    SE X (.Call (.Name x p) (e :: es) [] pos) (eCallL f fs ms) := pe_weak (pe_call F hr hg hm hk hb .nil pass0 ha hdb he hpl) fun _ _ _ h => tcallL_of (E := E0) hn h
end
/-! ### reckoning -/
section
variable {ρ : Rho} {ms : M (List Vl)} {f : Fn} {fs : List Bool} {Q : Vl → Rho → Prop}
def NlV : Vl → Prop
  | .fz x => nlD x = true
  | .fr xs => nlDs xs = true
  | .bw _ => False
theorem ev_callL (h : Ev ms ρ fun rs ρ1 => ∃ ts ρ2 ds, ag1 fs rs ρ1 = some (ts, ρ2) ∧ agL ρ2 ts = some ds ∧ Fv f (ds.map .da) fun r _ => NlV r ∧ Q r ρ2) : Ev (eCallL f fs ms) ρ Q := by
  obtain ⟨rs, ρ1, e1, ts, ρ2, ds, e2, e3, r, os, e4, nl, q⟩ := h
  refine ⟨r, ρ2, ?_, q⟩
  unfold eCallL
  rw [e1]
  show (ag1 fs rs ρ1).bind _ = _
  rw [e2]
  show (agL ρ2 ts).bind _ = _
  rw [e3]
  show (f (ds.map .da)).bind _ = _
  rw [e4]
  cases r with
  | fz x => have nl2 : nlD x = true := nl; show (if nlD x = true then _ else none) = _; rw [if_pos nl2]
  | fr xs => have nl2 : nlDs xs = true := nl; show (if nlDs xs = true then _ else none) = _; rw [if_pos nl2]
  | bw i => exact nl.elim
theorem argL {fs : List Bool} {rs : List Vl} {ρ1 ρ2 : Rho} {P : List D → Rho → Prop} {ts : List (D ⊕ Nat)} {ds : List D} (h1 : ag1 fs rs ρ1 = some (ts, ρ2)) (h2 : agL ρ2 ts = some ds) (h : P ds ρ2) : ∃ ts ρ2 ds, ag1 fs rs ρ1 = some (ts, ρ2) ∧ agL ρ2 ts = some ds ∧ P ds ρ2 := ⟨ts, ρ2, ds, h1, h2, h⟩
theorem nls_strs : ∀ ts : List (List Nat), nlDs (ts.map .str) = true
  | [] => rfl
  | t :: ts => by
    show (nlD (.str t) && nlDs (ts.map .str)) = true
    rw [nls_strs ts]
    rfl
end
end Sw
/-! Sw36: walks over instances whose __iter__ hands out iter(text) or iter(list). -/
namespace Sw
open PySem PySem.Spec PyProof.Rows L2
/-- a fresh iterator over a text -/
def StrIt (t : Str) (it : Addr) : HO := .ext fun h => ∃ (tk : Tok) (ty : String), (ty = "str_ascii_iterator" ∨ ty = "str_iterator") ∧ h.IsStrIter it ty t tk 0
theorem strIt_ok {P : Program} {w : World} {H : Hp} {h : Heap} {it : Addr} {t : Str} {tk : Tok} {ty : String} (hty : ty = "str_ascii_iterator" ∨ ty = "str_iterator") (e : h.IsStrIter it ty t tk 0) : ObjOk P w H h it (StrIt t it) := by
  have e' := e
  obtain ⟨o, ho, r⟩ := e
  refine ⟨⟨tk, ty, hty, e'⟩, ⟨o, ho⟩, fun h1 h2 q k => ?_⟩
  obtain ⟨tk, ty, hty, o, ho, r⟩ := q
  exact ⟨tk, ty, hty, o, k _ ho, r⟩
def ItAt (K : PySem.W.Frag) (H : Hp) (x : V) (it : Addr) (u : HO) : Prop := (∃ t, x = .str t ∧ u = StrIt t it) ∨ ∃ l zs, x = .ref l ∧ SqL K H l zs ∧ u = ItO l it 0
def rIterA (K : PySem.W.Frag) (n : Nat) : List V → Hp → VK → Prop := fun xs H Q => ∃ x, xs = [x] ∧ ((∃ t, x = .str t) ∨ ∃ l zs, x = .ref l ∧ SqL K H l zs) ∧ ∀ it u, n ≤ it → H it = none → ItAt K H x it u → Q (.ref it) (upd H it u)
theorem call_iterA {X : Cx} : CallR X (.builtin "iter") (rIterA X.K X.s_0.heap.objs.size) := by
  intro pins s σ H xs us Q I r h
  obtain ⟨x, rfl, hx, q⟩ := h
  rcases hx with ⟨t, rfl⟩ | ⟨l, zs, rfl, hq⟩
  · obtain ⟨u, rfl, ru⟩ := r.one
    obtain ⟨tk, rfl⟩ := ru
    refine Calls.call_function_entry (by decide +kernel) (by decide +kernel) PySem.W.kdk_entry_iter (PySem.W.kdk_args_iter _) ?_
    unfold Builtin.«iter»
    refine wpAny_bind (m := someArgs "iter" 1 2 _) (wpAny_of_eq (a := [Value.str t tk]) (by first | rfl | kernel_rfl!) ?_)
    show wpAny _ _ (pyIter (.str t tk) >>= _) _ _ _
    cases ha : t.cps.all (· < 128)
    · refine wpAny_bind (wpAny_pyIter_wide ha (wpAny_pure ⟨_, rfl, ?_⟩))
      have st : (s.heap.push { cls := .type "str_iterator", data := .fields #[.str t tk, .int 0 0] }).IsStrIter s.heap.objs.size "str_iterator" t tk 0 := ⟨_, Heap.get?_push_size _ rfl, rfl, rfl⟩
      exact ⟨.ref s.heap.objs.size, _, I.laid (t' := s.toks) (fun b u e => Heap.get?_push_of_some _ e) (Nat.le_refl _) (strIt_ok (.inr rfl) st), rfl, q _ _ I.sz (I.hok.fresh (Nat.le_refl _)) (.inl ⟨t, rfl, rfl⟩)⟩
    · refine wpAny_bind (wpAny_pyIter_ascii ha (wpAny_pure ⟨_, rfl, ?_⟩))
      have st : (s.heap.push { cls := .type "str_ascii_iterator", data := .fields #[.str t tk, .int 0 0] }).IsStrIter s.heap.objs.size "str_ascii_iterator" t tk 0 := ⟨_, Heap.get?_push_size _ rfl, rfl, rfl⟩
      exact ⟨.ref s.heap.objs.size, _, I.laid (t' := s.toks) (fun b u e => Heap.get?_push_of_some _ e) (Nat.le_refl _) (strIt_ok (.inl rfl) st), rfl, q _ _ I.sz (I.hok.fresh (Nat.le_refl _)) (.inl ⟨t, rfl, rfl⟩)⟩
  · obtain ⟨u, rfl, ru⟩ := r.one
    cases ru
    obtain ⟨its, rv, pl, hz⟩ := I.list hq
    refine GNX.call_iter pl.isList ?_
    exact ⟨.ref s.heap.objs.size, _, I.laid (t' := s.toks) (fun b u e => Heap.get?_push_of_some _ e) (Nat.le_refl _) (itO_ok (Heap.get?_push_size _ rfl)), rfl, q _ _ I.sz (I.hok.fresh (Nat.le_refl _)) (.inr ⟨l, zs, rfl, hq, rfl⟩)⟩
def itD : D → Bool
  | .str _ => true
  | .lst _ => true
  | _ => false
/-- what an __iter__ promises: a fresh iterator over the field Fd -/
def spIt (K : PySem.W.Frag) (n : Nat) (c Fd : PySem.Str) (vs : List V) (H : Hp) (Q : VK) : Prop := ∃ (F : Hp) (v : V) (ks : List PySem.Str) (xs : List D) (z : D), vs = [v] ∧ Same F H ∧ Rep K F v (.obj c ks xs) ∧ fAt c Fd (.obj c ks xs) = some z ∧ itD z = true ∧
  ∀ x H' F' it u, n ≤ it → Alc F H F' H' → Rep K F' x z → H' it = none → ItAt K H' x it u → Q (.ref it) (upd H' it u)
structure ItFn (P : Program) (w : World) (K : PySem.W.Frag) (mg : Str → Option Value) (base : Heap) (k : Nat) (f : Addr) (fd : FuncData) (ps : List Str) (c Fd : PySem.Str) : Prop where
  len : ps.length = 1
  run : ∀ (A : Around) (outer : List Env) (s : Shared) (H : Hp) (us : List Value) (vs : List V) (Q : VK), Room k A → Env0 P w K mg base A outer s H → BindsTo s fd ⟨us, []⟩ (ps.zip us) → Vals vs us → spIt K s.heap.objs.size c Fd vs H Q →
    codeAny (model P w) A (.call (.ref f) ⟨us, []⟩) (CR CX0 outer P w H s Q E0) s
def tIt (K : PySem.W.Frag) (n : Nat) (c Fd : PySem.Str) : TS := tSeq (tRet (tCB (rIterA K n) (tMA K (aCons (eUn (fAt c Fd) (eVar 0)) aNil)))) tNext
theorem fn_it {P : Program} {w : World} {K : PySem.W.Frag} {mg : Str → Option Value} {base : Heap} {x qual : Str} {st : Stmt} {f : Addr} {fd : FuncData} {N ps : List Str} {k nl : Nat} {c Fd : PySem.Str} (Fu : FunG K x qual st f fd) (Sc : FnScope N ps (defScope st)) (hn : ps.length = 1) (hl : N.length = nl) (hle : 1 ≤ nl)
    (hb : ∀ (cdv : Value) (A : Around) (outer : List Env) (s : Shared) (H : Hp) (E : XK), Room k (A.deeper (envOfC qual (defScope st) s.heap.objs.size f cdv)) → PSs (cxOf CX0 P w K mg base N qual (defScope st) f cdv A outer s H E).nox (defBody st) (tIt K s.heap.objs.size c Fd)) :
    ItFn P w K mg base (k + 1) f fd ps c Fd := by
  obtain ⟨oc, od, dV, kV, doc, pm, an, cdv, ct, osl, rfl, lk, hcd⟩ := Fu.ex
  refine ⟨hn, fun A outer s H us vs Q hr e0 hbt rv h => ?_⟩
  obtain ⟨F, v, ks, xs, z, rfl, sub, R, hz, hi, q⟩ := h
  refine LamX.run_ofS lk hcd Sc hr e0 hbt rv (by rw [hn]; rfl) fun hr' => ?_
  refine ⟨_, (hb cdv A outer s H E0 hr').nox, ?_⟩
  have AR : AgsR K F H [v] [.da (.obj c ks xs)] := ⟨R, trivial⟩
  have li : liA [v] [Ag.da (.obj c ks xs)] = [] := by cases v <;> rfl
  have W := wd_start (n := 1) AR (by rw [li]; exact List.nodup_nil) sub rfl hl hle
  have snd := iaOf_snd 0 AR
  have ev : aCons (eUn (fAt c Fd) (eVar 0)) aNil ([.da (.obj c ks xs)].map slOf ++ List.replicate (nl - 1) .no) = some ([.fz z], [.da (.obj c ks xs)].map slOf ++ List.replicate (nl - 1) .no) := by
    have e1 : eUn (fAt c Fd) (eVar 0) (.d (.obj c ks xs) :: List.replicate (nl - 1) .no) = some (.fz z, .d (.obj c ks xs) :: List.replicate (nl - 1) .no) := by
      show (fAt c Fd (.obj c ks xs)).bind _ = _
      rw [hz]
      rfl
    show (eUn (fAt c Fd) (eVar 0) (.d (.obj c ks xs) :: List.replicate (nl - 1) .no)).bind _ = _
    rw [e1]
    rfl
  refine ⟨_, _, F, _, _, W, ev, fun us H1 F1 s1 R1 => ?_⟩
  obtain ⟨y, rfl, Ry⟩ := vls1 R1
  have kp : ∀ b o, H b = some o → H1 b = some o := fun b o h => s1.wd.kp b o h (by rw [snd, li]; exact List.not_mem_nil)
  refine ⟨y, rfl, ?_, fun it u hn hit hat => q y H1 F1 it u hn ⟨s1.ff, s1.wd.sub, kp, s1.wd.nw⟩ Ry hit hat⟩
  cases z with
  | str t =>
    cases Ry
    exact .inl ⟨_, rfl⟩
  | lst ys =>
    cases Ry with
    | lst h1 h2 => exact .inr ⟨_, _, rfl, SqL.of (s1.wd.sub _ _ h1)⟩
  | _ => cases hi
/-- a walk over an instance of c, whose __iter__ walks its field Fd -/
def iOwn (c Fd : PySem.Str) (m : M Vl) : M (List D) := fun ρ => (m ρ).bind fun p => match p.1 with
  | .fz x => if isOf c x = true then (fAt c Fd x).bind fun z => if itD z = true then (itemsOf z).bind fun xs => some (xs, p.2) else none else none
  | _ => none
theorem isOf_inv {c : PySem.Str} {x : D} (h : isOf c x = true) : ∃ ks xs, x = .obj c ks xs := by
  cases x with
  | obj c' ks xs =>
    have e : c' = c := of_decide_eq_true h
    subst e
    exact ⟨ks, xs, rfl⟩
  | _ => cases h
theorem iOwn_inv {c Fd : PySem.Str} {m : M Vl} {ρ ρ' : Rho} {ys : List D} (h : iOwn c Fd m ρ = some (ys, ρ')) : ∃ ks xs z, m ρ = some (.fz (.obj c ks xs), ρ') ∧ fAt c Fd (.obj c ks xs) = some z ∧ itD z = true ∧ itemsOf z = some ys := by
  unfold iOwn at h
  obtain ⟨⟨r, ρ1⟩, e1, h⟩ := Option.bind_eq_some_iff.mp h
  dsimp only at h
  split at h
  · rename_i x
    split at h
    · rename_i hc
      obtain ⟨ks, xs', rfl⟩ := isOf_inv hc
      obtain ⟨z, e2, h⟩ := Option.bind_eq_some_iff.mp h
      split at h
      · rename_i hi
        obtain ⟨xs, e3, h⟩ := Option.bind_eq_some_iff.mp h
        cases h
        exact ⟨ks, xs', z, e1, e2, hi, e3⟩
      · cases h
    · cases h
  · cases h
section
variable {X : Cx} {c Fd : PySem.Str} {C g : Addr} {fd : FuncData} {ps : List Str} {k : Nat} {pins : List (Addr × Obj)} {σ : L2.St} {H : Hp} {s : Shared}
/-- the call of __iter__, the iterator is new -/
theorem it_call {A1 : Around} {Q : Value → Shared → Prop} {E : Value → Shared → Prop} {a : Addr} {F1 : Hp} {ks : List PySem.Str} {xs : List D} {z : D} (sb : Sub X k A1) (F : ItFn X.prog X.w X.K X.mg X.base k g fd ps c Fd) (hb : Binds X.K fd ps []) (I : Inv X pins σ H s)
    (sF : Same F1 H) (R : Rep X.K F1 (.ref a) (.obj c ks xs)) (hz : fAt c Fd (.obj c ks xs) = some z) (hi : itD z = true)
    (q : ∀ x H' F' it u s', s.heap.objs.size ≤ it → Alc F1 H F' H' → Rep X.K F' x z → H' it = none → ItAt X.K H' x it u → Inv X pins σ (upd H' it u) s' → Q (.ref it) s') :
    wpAny (model X.prog X.w) A1 (call (.ref g) [.ref a]) Q E s := by
  have e0 : Env0 X.prog X.w X.K X.mg X.base A1 X.stack s H := by
    have e := I.env0
    exact ⟨by rw [sb.fr]; exact e.frames, e.mod, e.bs, e.bsz, e.funs, e.frf, e.hok, e.bare⟩
  have r2 : Vals [V.ref a] [Value.ref a] := .cons rfl .nil
  have hbt := hb s [.ref a] I.kIn (by rw [F.len]; rfl)
  rw [List.append_nil] at hbt
  refine wpAny_call (codeAny_mono (F.run A1 X.stack s H [.ref a] [.ref a] (fun v H2 => ∃ x H' F' it u, v = .ref it ∧ H2 = upd H' it u ∧ s.heap.objs.size ≤ it ∧ Alc F1 H F' H' ∧ Rep X.K F' x z ∧ H' it = none ∧ ItAt X.K H' x it u) sb.room e0 hbt r2
    ⟨F1, .ref a, ks, xs, z, rfl, sF, R, hz, hi, fun x H' F' it u hn al Rx hit hat => ⟨x, H', F', it, u, rfl, rfl, hn, al, Rx, hit, hat⟩⟩) fun r s' hq => ?_)
  cases r with
  | error e => exact hq.elim
  | ok fl =>
    cases fl with
    | ret u =>
      obtain ⟨v, H2, I2, rv, x, H', F', it, u, rfl, rfl, hn, al, Rx, hit, hat⟩ := I.after hq
      cases rv
      exact q x H' F' it u s' hn al Rx hit hat I2
    | next => exact False.elim hq
    | brk => exact False.elim hq
    | cont => exact False.elim hq
theorem si_own {tg e : Expr} {me : M Vl} (hC : ClsN X.K c C) (hs : PySem.W.findIn X.K (.ref C) "__iter__" = some (some (.ref g))) (hf : PySem.W.isFn X.K (.ref g) = true) (F : ItFn X.prog X.w X.K X.mg X.base k g fd ps c Fd) (hr : Room k X.A) (hb : Binds X.K fd ps []) (h : SE X e me) : SI X tg e (iOwn c Fd me) := by
  refine ⟨fun pins s σ H R I ⟨G, ρ, Fh, ys, ρ', W, hm, q⟩ => ?_⟩
  obtain ⟨ks, xs, z, e1, e2, hi, e3⟩ := iOwn_inv hm
  refine thn (h.run pins s σ H (fun v H1 => ∃ F1, Ste X.K G ρ σ H Fh ρ' H1 F1 ∧ Rep X.K F1 v (.obj c ks xs)) I (tm_use W e1 fun v H1 F1 s1 R1 => ⟨F1, s1, R1⟩)) fun u s1 ⟨v, H1, I1, rv, F1, st, R1⟩ => ?_
  obtain ⟨a, dx, vs, rfl, ha, hl, _⟩ := rep_ob hC R1
  cases rv
  obtain ⟨ox, od, J⟩ := ins_look I1 (st.wd.sub _ _ ha)
  obtain ⟨m, hF⟩ := I1.fr
  refine PySem.W.owit_iter hF I1.ok.mod.kin J hs hf ?_
  refine it_call ⟨hr, rfl⟩ F hb I1 st.wd.sub R1 e2 hi fun x H' F' it u s' hn al Rx hit hat I2 => ?_
  unfold PySem.W.OwitIt
  have ho := I2.hok it u upd_same
  rcases hat with ⟨t, rfl, rfl⟩ | ⟨l, zs, rfl, hq, rfl⟩
  · obtain ⟨tk, ty, hty, st'⟩ := ho.1
    have hT : s'.TypeIs (.ref it) ty := by
      obtain ⟨o, e, cc, _⟩ := st'
      exact ⟨o, e, cc⟩
    have fin : PIE X pins σ tg R (.ref it) s' := by
      refine ⟨it, [it], _, Its t, ItX.dropH (upd H' it (StrIt t it)) it, rfl, ItX.inv_drop I2 upd_same, turn_str it t tk ty hty, st', fun b hb => ?_, ?_⟩
      · have e : b = it := by simpa using hb
        rw [e]
        exact ItX.inv_fp I2 upd_same (Nat.le_trans I1.sz hn)
      · rw [ItX.dropH_upd hit]
        cases z with
        | str w =>
          cases Rx
          cases e3
          exact q _ _ F' (st.trans (st.wd.alc al)) (jr_str _)
        | lst w => cases Rx
        | _ => cases hi
    rcases hty with rfl | rfl
    · exact wpAny_specialOf hT PySem.F.slot_str_ascii_iterator_next.lookup fin
    · exact wpAny_specialOf hT PySem.F.slot_str_iterator_next.lookup fin
  · have eo : s'.heap.get? it = some (GNX.itObj l 0) := ho.1
    have hT : s'.TypeIs (.ref it) "list_iterator" := ⟨_, eo, rfl⟩
    have fin : PIE X pins σ tg R (.ref it) s' := by
      refine ⟨it, [it], _, ItX.ItlF X.K l 0, ItX.dropH (upd H' it (ItO l it 0)) it, rfl, ItX.inv_drop I2 (φ := fun h => h.get? it = some (GNX.itObj l 0)) upd_same, ItX.turn_listF l it 0, ⟨_, eo, rfl, rfl⟩, fun b hb => ?_, ?_⟩
      · have e : b = it := by simpa using hb
        rw [e]
        exact ItX.inv_fp I2 upd_same (Nat.le_trans I1.sz hn)
      · rw [ItX.dropH_upd hit]
        cases z with
        | lst w =>
          cases e3
          cases Rx with
          | lst h1 h2 =>
            refine q _ _ F' (st.trans (st.wd.alc al)) ?_
            have jr := jr_list (K := X.K) (SqL.of h1) h2
            exact ⟨fun i H s hi => by
              show (Itl X.K l).go (0 + i) H
              rw [Nat.zero_add]
              exact jr.go i H s hi, fun i H F1 x H' hi s1 s2 y => jr.yl i H F1 x H' hi s1 s2 (by
              have y : (Itl X.K l).yld (0 + i) H x H' := y
              rw [Nat.zero_add] at y
              exact y), fun i H s hi => by
              show (Itl X.K l).stop (0 + i) H
              rw [Nat.zero_add]
              exact jr.st i H s hi⟩
        | str w => cases Rx
        | _ => cases hi
    exact wpAny_specialOf hT slot_listiter_next.lookup fin
end
end Sw
/-! Sw37: list(o) of an instance whose __iter__ hands out iter(text) or iter(list), with a __len__ of its own. -/
namespace Sw
open PySem PySem.Spec PyProof.Rows L2
section
variable {X : Cx} {pins : List (Addr × Obj)} {σ : L2.St} {H : Hp} {s : Shared}
/-- the rest of an iterator is put behind the list at q -/
theorem it_loop {A1 : Around} {it q : Addr} {fp : List Addr} {n : Nat} {P : Nat → Value → Prop} {St : Nat → Heap → Prop} {out : List V} {Rs : Result → Shared → Prop} (W : Walks X.prog X.w A1.in1 it fp [it] n P St) (hP : ∀ i v, P i v → ∃ x, out[i]? = some x ∧ RelV x v) (hn : out.length = n) (hz : n < sizeLine) (hqi : it ≠ q) (hqf : q ∉ fp) (fpo : FpOk X pins H it)
    (hdone : ∀ s', Inv X pins σ (upd H q (.lst out)) s' → Rs (.ok (.ret .none)) s') :
    ∀ (m i : Nat) (s : Shared), n - i = m → i ≤ n → Inv X pins σ (upd H q (.lst (out.take i))) s → St i s.heap → codeAny (model X.prog X.w) A1 (.builtin "list.extend.loop" ⟨[.ref q, .ref it, .none], []⟩) Rs s := by
  obtain ⟨f0, f1, f2, f3, f4, f5⟩ := fpo
  have hiq : ∀ o, upd H q o it = none := fun o => by rw [upd_ne hqi]; exact f0
  intro m
  induction m with
  | zero =>
    intro i s hm hi I st
    have e : i = n := by omega
    subst e
    refine codeAny_builtin PySem.F.entry_extend_loop ?_
    rw [Around.under_plainId PySem.F.plain_extend_loop _]
    show wpAny _ A1.in1 (pyNext (.ref it) >>= _) _ _ s
    refine wpAny_bind (W.done s _ _ st fun h' tk kp => ?_)
    have I1 : Inv X pins σ (upd H q (.lst (out.take i))) { s with heap := h', toks := tk } := I.turned (it := it) (fun b o hb e => kp b o (by simpa using hb) e) (hiq _) f1 f3 f4 f5
    rw [← hn, List.take_length] at I1
    exact wpAny_pure (hdone _ I1)
  | succ m ih =>
    intro i s hm hi I st
    have hlt : i < n := by omega
    refine codeAny_builtin PySem.F.entry_extend_loop ?_
    rw [Around.under_plainId PySem.F.plain_extend_loop _]
    show wpAny _ A1.in1 (pyNext (.ref it) >>= _) _ _ s
    refine wpAny_bind (W.item i s _ _ hlt st fun v h' tk pv st' kp => ?_)
    have I1 : Inv X pins σ (upd H q (.lst (out.take i))) { s with heap := h', toks := tk } := I.turned (it := it) (fun b o hb e => kp b o (by simpa using hb) e) (hiq _) f1 f3 f4 f5
    obtain ⟨x, hx, rx⟩ := hP i v pv
    obtain ⟨z, its, k, r2, hl, e⟩ := I1.lstM upd_same
    have hlen : (out.take i).length = i := by rw [List.length_take]; omega
    show wpAny _ A1.in1 (updateSeq q (·.push v) >>= _) _ _ _
    have szi : its.length = i := by rw [← r2.length, hlen]
    refine wpAny_bind (wpAny_updateSeq e rfl (wpAny_pure ⟨plainId_quiet PySem.F.plain_extend_loop _, ?_⟩) (by rw [List.size_toArray]; omega) (by show (its.toArray.push v).size ≤ sizeLine + 1; rw [Array.size_push, List.size_toArray]; omega))
    have I2 := I1.lset (its' := its ++ [v]) (f := (·.push v)) (t' := tk) upd_same e (by simp) (r2.append (.cons rx .nil)) (by rw [List.length_append, List.length_singleton, hlen]; omega)
    rw [upd_upd, ← show out.take (i + 1) = out.take i ++ [x] from take_s hx] at I2
    refine ih (i + 1) _ (by omega) hlt I2 (W.frame _ _ _ st' fun b hb o eo => ?_)
    exact (Heap.get?_update_other _ _ (fun z => hqf (by rw [z]; exact hb))).trans eo
end
section
variable {X : Cx} {f : Fn} {c Fd : PySem.Str} {C g gl : Addr} {fd fl : FuncData} {ps pl : List Str} {k : Nat} {pins : List (Addr × Obj)} {σ : L2.St} {H : Hp} {s : Shared}
theorem own_runS {us : List Value} {vs : List V} {A1 : Around} {E' : Value → Shared → Prop} {Q : VK} {n : Nat} (F : FnOk X.prog X.w X.K X.mg X.base CX0 k g fd ps (spF X.K n f)) (sb : Sub X k A1) (hb : Binds X.K fd ps []) (I : Inv X pins σ H s) (r : Vals vs us) (h : spF X.K n f vs H Q E0) :
    wpAny (model X.prog X.w) A1 (call (.ref g) us) (EP X pins σ Q) E' s := by
  have hl : us.length = ps.length := by rw [← F.len _ _ _ _ h, ← r.length]
  have hb' := hb s us I.kIn (by simpa using hl)
  rw [List.append_nil] at hb'
  have e0 : Env0 X.prog X.w X.K X.mg X.base A1 X.stack s H := by
    have e := I.env0
    exact ⟨by rw [sb.fr]; exact e.frames, e.mod, e.bs, e.bsz, e.funs, e.frf, e.hok, e.bare⟩
  refine wpAny_call (codeAny_mono (F.run A1 X.stack s H ⟨us, []⟩ us vs Q E0 sb.room e0 hb' r h) fun r s' hq => ?_)
  cases r with
  | error e => exact hq.elim
  | ok fl =>
    cases fl with
    | ret u => exact I.after hq
    | next => exact False.elim hq
    | brk => exact False.elim hq
    | cont => exact False.elim hq
/-- the length is asked ahead of the walk -/
theorem own_lenHint {A1 : Around} {E : Value → Shared → Prop} {Q : Bool → Shared → Prop} {F1 : Hp} {a dx : Addr} {fs : List (Str × V)} {x : D} {i : Int} {os : List (List D)} (sb : Sub X (k + 1) A1)
    (hs : PySem.W.findIn X.K (.ref C) "__len__" = some (some (.ref gl))) (hf : PySem.W.isFn X.K (.ref gl) = true) (F : FnOk X.prog X.w X.K X.mg X.base CX0 k gl fl pl (spF X.K 1 f)) (hb : Binds X.K fl pl []) (I : Inv X pins σ H s) (ha : H a = some (.ins C dx fs))
    (sF : Same F1 H) (R : Rep X.K F1 (.ref a) x) (hx : f [.da x] = some (.fz (.int i), os)) (hi : 0 ≤ i ∧ i < 16777216) (q : ∀ b H' F' s', Alc F1 H F' H' → Inv X pins σ H' s' → Q b s') :
    wpAny (model X.prog X.w) A1 (Builtin.List.listLengthHint (.ref a)) Q E s := by
  obtain ⟨ox, od, J⟩ := ins_look I ha
  obtain ⟨m, hF⟩ := I.fr
  unfold Builtin.List.listLengthHint
  refine wpAny_bind (wpAny_bind (J.type.here ((PySem.W.looks_findIn I.kIn hs).here ?_)))
  refine PySem.W.KFB.if_not rfl ?_
  show wpAny _ _ (rule "list.length-hint.len" >>= _) _ _ _
  refine wpAny_bind (wpAny_rule ?_)
  refine wpAny_bind (wpAny_attempt (PySem.W.len_K hF I.ok.mod.kin J hs hf (wpAny_mono (own_runS (E' := fun _ _ => False) F sb.in1 hb I (show Vals [V.ref a] [Value.ref a] from .cons rfl .nil) (spf_data (Q := fun v H' => ∃ F', v = .int i ∧ Alc F1 H F' H') (gs := [.da x]) rfl sF ⟨R, trivial⟩ rfl hx fun v H' F' A R => ?_)) (fun w s' z => ?_) fun _ _ (z : False) => z.elim)))
  · cases R
    exact ⟨F', rfl, A⟩
  · obtain ⟨v, H', I', rv, F', rfl, al⟩ := z
    obtain ⟨t, rfl⟩ := rv
    refine ⟨⟨hi.1, Int.lt_trans hi.2 (by decide)⟩, ?_⟩
    dsimp only
    refine wpAny_bind (wpAny_pure (a := some i) ?_)
    refine PySem.W.KFB.if_not (c := Builtin.List.listTooLong i.toNat) ?_ (wpAny_pure (q _ H' F' _ al (I'.tok _)))
    unfold Builtin.List.listTooLong
    rw [decide_eq_false_iff_not]
    rw [sizeLine_eq]
    omega
theorem owitIt_at {A1 : Around} {Q : Value → Shared → Prop} {E : Value → Shared → Prop} {H' : Hp} {x : V} {it : Addr} {u : HO} (I : Inv X pins σ (upd H' it u) s) (hat : ItAt X.K H' x it u) (h : Q (.ref it) s) : PySem.W.OwitIt (model X.prog X.w) A1 Q E (.ref it) s := by
  unfold PySem.W.OwitIt
  have ho := I.hok it u upd_same
  rcases hat with ⟨t, rfl, rfl⟩ | ⟨l, zs, rfl, hq, rfl⟩
  · obtain ⟨tk, ty, hty, st'⟩ := ho.1
    have hT : s.TypeIs (.ref it) ty := by
      obtain ⟨o, e, cc, _⟩ := st'
      exact ⟨o, e, cc⟩
    rcases hty with rfl | rfl
    · exact wpAny_specialOf hT PySem.F.slot_str_ascii_iterator_next.lookup h
    · exact wpAny_specialOf hT PySem.F.slot_str_iterator_next.lookup h
  · have eo : s.heap.get? it = some (GNX.itObj l 0) := ho.1
    have hT : s.TypeIs (.ref it) "list_iterator" := ⟨_, eo, rfl⟩
    exact wpAny_specialOf hT slot_listiter_next.lookup h
/-- list(o) -/
def rOwnL (K : PySem.W.Frag) (c Fd : PySem.Str) (f : Fn) : List V → Hp → VK → Prop := fun vs H Q => ∃ (F1 : Hp) (a : Addr) (ks : List PySem.Str) (xs : List D) (z : D) (i : Int) (os : List (List D)) (ys : List D), vs = [.ref a] ∧ Same F1 H ∧ Rep K F1 (.ref a) (.obj c ks xs) ∧ fAt c Fd (.obj c ks xs) = some z ∧ itD z = true ∧ itemsOf z = some ys ∧
  ys.length < 16777216 ∧ f [.da (.obj c ks xs)] = some (.fz (.int i), os) ∧ (0 ≤ i ∧ i < 16777216) ∧ ∀ H' F' q us, Alc F1 H F' H' → H' q = none → Reps K F' us ys → Q (.ref q) (upd H' q (.lst us))
theorem reps_signs {K : PySem.W.Frag} {F : Hp} : ∀ w : List Nat, Reps K F (w.map fun c => V.str ⟨#[c]⟩) (w.map fun c => D.str [c])
  | [] => .nil
  | c :: w => .cons (.str [c]) (reps_signs w)
theorem call_listI {kl m : Nat} (hcalm : X.calm = true) (hC : ClsN X.K c C) (hs : PySem.W.findIn X.K (.ref C) "__iter__" = some (some (.ref g))) (hf : PySem.W.isFn X.K (.ref g) = true) (FI : ItFn X.prog X.w X.K X.mg X.base k g fd ps c Fd) (hb : Binds X.K fd ps [])
    (hsL : PySem.W.findIn X.K (.ref C) "__len__" = some (some (.ref gl))) (hfL : PySem.W.isFn X.K (.ref gl) = true) (FL : FnOk X.prog X.w X.K X.mg X.base CX0 kl gl fl pl (spF X.K 1 f)) (hbL : Binds X.K fl pl []) (h1 : k ≤ m) (h2 : kl + 1 ≤ m) (hr : Room (m + 2) X.A) : CallR X (.type "list") (rOwnL X.K c Fd f) := by
  intro pins s σ H vs us Q I rv h
  obtain ⟨F1, a, ks, xs, z, i, os, ys, rfl, sF, R, hz, hit, hys, hyl, hx, hi, q⟩ := h
  obtain ⟨u, rfl, ru⟩ := rv.one
  cases ru
  obtain ⟨a', dx, vs', ea, haF, _, _⟩ := rep_ob hC R
  cases ea
  have ha : H a = some (.ins C dx (ks.zip vs')) := sF _ _ haF
  have sb : Sub X m X.A.in1.in1 := (Sub.in1 (Sub.in1 (⟨hr, rfl⟩ : Sub X (m + 2) X.A)))
  refine callType_codes (Q₁ := fun obj s₁ => obj = .ref s.heap.objs.size ∧ s₁ = { s with heap := s.heap.push { cls := .type "list", data := .seq #[] } }) PySem.F.called_list (PySem.F.typeCall_list_1 _) PySem.F.entry_list_init
    (code_list_new _ ⟨rfl, rfl⟩) fun obj s₁ h₁ => ?_
  obtain ⟨rfl, rfl⟩ := h₁
  have hS : (s.heap.push { cls := .type "list", data := .seq #[] }).get? s.heap.objs.size = some { cls := .type "list", data := .seq #[] } := Heap.get?_push_size _ rfl
  refine ⟨⟨_, hS, rfl⟩, PySem.F.args_list_init_2 _ _, ?_⟩
  have fr : H s.heap.objs.size = none := I.hok.fresh (Nat.le_refl _)
  have I1 : Inv X pins σ (upd H s.heap.objs.size (.lst [])) { s with heap := s.heap.push { cls := .type "list", data := .seq #[] } } := I.lnew (its := []) (t' := s.toks) .nil (Nat.zero_le _)
  generalize hp : s.heap.objs.size = p at fr I1 hS ⊢
  show wpAny _ _ (do let old ← Builtin.List.listItems (.ref p); Builtin.List.listUpdate (.ref p) (fun _ => #[]); letGo old.toList.reverse; Builtin.List.listExtendWith (.ref p) (.ref a) .none) _ _ _
  refine wpAny_bind ?_
  unfold Builtin.List.listItems
  refine wpAny_bind (wpAny_seqItems hS rfl (wpAny_pure ?_))
  show wpAny _ _ (updateSeq p (fun _ => #[]) >>= fun _ => letGo (#[] : Array Value).toList.reverse >>= fun _ => Builtin.List.listExtendWith (.ref p) (.ref a) .none) _ _ _
  refine wpAny_bind (wpAny_updateSeq hS rfl ?_)
  have I2 := I1.lset (f := fun _ => #[]) (its := []) (its' := []) (ys := []) (t' := s.toks) upd_same hS rfl .nil (Nat.zero_le _)
  rw [upd_upd] at I2
  refine wpAny_bind (wpAny_letGo ?_)
  have hne : p ≠ a := fun e => by rw [e, ha] at fr; cases fr
  have ha2 : upd H p (.lst []) a = some (.ins C dx (ks.zip vs')) := by rw [upd_ne (Ne.symm hne)]; exact ha
  have sF2 : Same F1 (upd H p (.lst [])) := sF.trans (same_upd fr)
  obtain ⟨ox, od, J⟩ := ins_look I2 ha2
  obtain ⟨m0, hF⟩ := I2.fr
  unfold Builtin.List.listExtendWith
  refine wpAny_bind (J.type.here ?_)
  have e1 : Builtin.List.listSameRef (.ref p) (.ref a) = false := by simp [Builtin.List.listSameRef, hne]
  have e2 : (Value.ref C == Value.type "list") = false := rfl
  have e3 : (Value.ref C == Value.type "tuple") = false := rfl
  simp only [e1, e2, e3, Bool.or_false, Bool.false_eq_true, if_false]
  refine wpAny_bind (PySem.W.owit_iter hF I2.ok.mod.kin J hs hf ?_)
  refine it_call (sb.mono h1) FI hb I2 sF2 R hz hit fun x H' F' it u s' hn al Rx hitn hat I3 => ?_
  have itp : it ≠ p := fun e => by
    have := al.hh p _ (upd_same (H := H) (a := p))
    rw [← e, hitn] at this
    cases this
  have ita : it ≠ a := fun e => by
    have := al.hh a _ ha2
    rw [← e, hitn] at this
    cases this
  have young : X.s_0.heap.objs.size ≤ it := Nat.le_trans I2.sz hn
  refine owitIt_at I3 hat ?_
  refine wpAny_bind (wpAny_holding (own_lenHint (sb.mono h2) hsL hfL FL hbL I3 (by rw [upd_ne (Ne.symm ita)]; exact al.hh a _ ha2) (al.sub.trans (same_upd hitn)) (R.mono al.ff) hx hi fun b H4 F4 s4 al4 I4 => ?_))
  have h4p : H4 p = some (.lst []) := al4.hh p _ (by rw [upd_ne (Ne.symm itp)]; exact al.hh p _ upd_same)
  have h4i : H4 it = some u := al4.hh it _ upd_same
  have Rx4 : Rep X.K F4 x z := Rx.mono al4.ff
  have f'i : F' it = none := by
    cases e : F' it with
    | none => rfl
    | some o => have := al.sub it o e; rw [hitn] at this; cases this
  have f4i : F4 it = none := Classical.byContradiction fun e => by
    rcases al4.nf it e with e | e
    · exact e f'i
    · rw [upd_same] at e
      cases e
  have f1p : F1 p = none := by
    cases e : F1 p with
    | none => rfl
    | some o => have := sF p o e; rw [fr] at this; cases this
  have f'p : F' p = none := Classical.byContradiction fun e => by
    rcases al.nf p e with e | e
    · exact e f1p
    · rw [upd_same] at e
      cases e
  have f4p : F4 p = none := Classical.byContradiction fun e => by
    rcases al4.nf p e with e | e
    · exact e f'p
    · rw [upd_ne (Ne.symm itp), al.hh p _ upd_same] at e
      cases e
  have h2' : ∀ b o, H b = some o → upd H p (.lst []) b = some o := same_upd fr
  have hh4 : ∀ b o, H b = some o → H4 b = some o ∧ b ≠ it ∧ b ≠ p := fun b o e => by
    have bp : b ≠ p := fun z => by rw [z, fr] at e; cases e
    have e1 := al.hh b o (h2' b o e)
    have bi : b ≠ it := fun z => by rw [z, hitn] at e1; cases e1
    exact ⟨al4.hh b o (by rw [upd_ne bi]; exact e1), bi, bp⟩
  have alF : Alc F1 H F4 (ItX.dropH (ItX.dropH H4 it) p) := by
    refine ⟨al.ff.trans al4.ff, fun b o e => ?_, fun b o e => ?_, fun b e => ?_⟩
    · have bi : b ≠ it := fun z => by rw [z, f4i] at e; cases e
      have bp : b ≠ p := fun z => by rw [z, f4p] at e; cases e
      rw [ItX.dropH_ne bp, ItX.dropH_ne bi]
      exact al4.sub b o e
    · obtain ⟨e1, bi, bp⟩ := hh4 b o e
      rw [ItX.dropH_ne bp, ItX.dropH_ne bi]
      exact e1
    · have back : upd H p (.lst []) b = none → H b = none := fun e => by
        cases e1 : H b with
        | none => rfl
        | some o => rw [h2' b o e1] at e; cases e
      rcases al4.nf b e with e | e
      · rcases al.nf b e with e | e
        · exact .inl e
        · exact .inr (back e)
      · have bi : b ≠ it := fun z => by rw [z, upd_same] at e; cases e
        rw [upd_ne bi] at e
        refine .inr (back ?_)
        cases e1 : upd H p (.lst []) b with
        | none => rfl
        | some o => rw [al.hh b o e1] at e; cases e
  have updp : ∀ o, upd (ItX.dropH (ItX.dropH H4 it) p) p o = upd (ItX.dropH H4 it) p o := fun o => by
    funext b
    by_cases hb : b = p
    · rw [hb, upd_same, upd_same]
    · rw [upd_ne hb, upd_ne hb, ItX.dropH_ne hb]
  have dp : upd (ItX.dropH H4 it) p (.lst []) = ItX.dropH H4 it := by
    funext b
    by_cases hb : b = p
    · rw [hb, upd_same, ItX.dropH_ne (Ne.symm itp), h4p]
    · rw [upd_ne hb]
  have LOOP : ∀ s5, Inv X pins σ H4 s5 → codeAny (model X.prog X.w) X.A.in1 (.builtin "list.extend.loop" ⟨[.ref p, .ref it, .none], []⟩) (wants (fun r s₂ => r = .none ∧ EP X pins σ Q (.ref p) s₂) X.xe) s5 := by
    intro s5 I5
    have hd : X.A.in1.in1.handled = none := I5.ok.hd hcalm
    have ho := I5.hok it u h4i
    have fin : ∀ out s', Reps X.K F4 out ys → Inv X pins σ (upd (ItX.dropH H4 it) p (.lst out)) s' → wants (fun r s₂ => r = .none ∧ EP X pins σ Q (.ref p) s₂) X.xe (.ok (.ret .none)) s' := fun out s' hr' I' =>
      ⟨rfl, .ref p, _, I', rfl, by rw [← updp]; exact q _ F4 p out alF ItX.dropH_same hr'⟩
    rcases hat with ⟨t, rfl, rfl⟩ | ⟨l, zs, rfl, hq, rfl⟩
    · obtain ⟨tk, ty, hty, st'⟩ := ho.1
      have I6 := ItX.inv_drop I5 h4i
      have fpo := ItX.inv_fp I5 h4i young
      cases z with
      | str w =>
        cases Rx4
        cases hys
        rw [List.length_map] at hyl
        have W : Walks X.prog X.w X.A.in1.in1 it [it] [it] (⟨w.toArray⟩ : Str).cps.size (SignAt ⟨w.toArray⟩) (fun i h => h.IsStrIter it ty ⟨w.toArray⟩ tk i) := by
          rcases hty with e | e
          · rw [e]; exact Walks.strAscii hd it _ tk
          · rw [e]; exact Walks.strWide hd it _ tk
        have hsz : (⟨w.toArray⟩ : Str).cps.size = w.length := List.size_toArray
        refine it_loop (out := w.map fun c => V.str ⟨#[c]⟩) W (fun i v pv => ?_) (by rw [List.length_map, hsz]) (by rw [hsz, sizeLine_eq]; exact hyl) itp (by simpa using Ne.symm itp) fpo (fun s' I' => fin _ s' (reps_signs w) I') _ 0 s5 rfl (Nat.zero_le _) (by rw [List.take_zero, dp]; exact I6) st'
        obtain ⟨c0, u0, hc0, rfl⟩ := pv
        have hc1 : w[i]? = some c0 := by simpa using hc0
        exact ⟨.str ⟨#[c0]⟩, by rw [List.getElem?_map, hc1]; rfl, ⟨u0, rfl⟩⟩
      | lst w => cases Rx4
      | _ => cases hit
    · have eo : s5.heap.get? it = some (GNX.itObj l 0) := ho.1
      have h4i' : H4 it = some (.ext fun h => h.get? it = some (GNX.itObj l 0)) := h4i
      have I6 := ItX.inv_drop I5 h4i'
      have fpo := ItX.inv_fp I5 h4i' young
      cases z with
      | lst w =>
        cases hys
        cases Rx4 with
        | lst g1 g2 =>
          have gl4 : l ≠ it := fun e => by rw [e, f4i] at g1; cases g1
          have gd := (ItX.dropH_ne (H := H4) gl4).trans (al4.sub _ _ g1)
          obtain ⟨its, rv5, pl5, hz5⟩ := I6.list (SqL.of gd)
          have hsz : its.toArray.size = its.length := List.size_toArray
          have W := Walks.list (prog := X.prog) (w := X.w) (A := X.A.in1.in1) hd it l gl4 its.toArray
          have ln := g2.len
          have lv := rv5.length
          refine it_loop W (fun i v pv => ?_) (by rw [hsz]; omega) (by rw [hsz, sizeLine_eq]; omega) itp (by
            intro hm
            rcases List.mem_cons.mp hm with e | hm
            · exact itp e.symm
            · have e := List.mem_singleton.mp hm
              rw [← e] at g1
              rw [f4p] at g1
              cases g1) fpo (fun s' I' => fin _ s' g2 I') _ 0 s5 rfl (Nat.zero_le _) (by rw [List.take_zero, dp]; exact I6) ⟨⟨_, eo, rfl, rfl⟩, pl5.isList⟩
          have pv : its[i]? = some v := by simpa using pv
          have hlt := (List.getElem?_eq_some_iff.mp pv).1
          rw [← lv] at hlt
          obtain ⟨w', hw, rw'⟩ := rv5.get (List.getElem?_eq_getElem hlt)
          rw [pv] at hw
          cases hw
          exact ⟨_, List.getElem?_eq_getElem _, rw'⟩
      | str w => cases Rx4
      | _ => cases hit
  refine wpAny_ite_split (fun _ => ?_) (fun _ => wpAny_pure ⟨plainId_quiet PySem.F.plain_extend_loop _, LOOP _ I4⟩)
  refine wpAny_bind (wpAny_rule ?_)
  refine wpAny_bind ?_
  obtain ⟨z3, its3, k3, r3, hl3, g3⟩ := I4.lstM h4p
  cases r3
  show wpAny _ _ (updateSeq p (·.push .none) >>= fun _ => updateSeq p (·.pop)) _ _ _
  refine wpAny_bind (wpAny_updateSeq g3 rfl ?_)
  have J2 := I4.lset (f := (·.push Value.none)) (its' := [Value.none]) (ys := [.non]) (t' := s4.toks) h4p g3 (by simp) (.cons rfl .nil) (by rw [List.length_singleton, sizeLine_eq]; decide)
  obtain ⟨z4, its4, k4, r4, hl4, g4⟩ := J2.lstM upd_same
  obtain ⟨u4, rfl, ru4⟩ := r4.one
  refine wpAny_updateSeq g4 rfl ?_ (by show 1 ≤ sizeLine; rw [sizeLine_eq]; decide) (by show 0 ≤ sizeLine + 1; exact Nat.zero_le _)
  have J3 := J2.lset (f := (·.pop)) (its := [u4]) (its' := []) (ys := []) (t' := s4.toks) upd_same g4 (by rfl) .nil (Nat.zero_le _)
  rw [upd_upd] at J3
  have hH : upd H4 p (.lst []) = H4 := by
    funext b
    by_cases hb : b = p
    · rw [hb, upd_same, h4p]
    · rw [upd_ne hb]
  rw [hH] at J3
  exact wpAny_pure ⟨plainId_quiet PySem.F.plain_extend_loop _, LOOP _ J3⟩
def lenOk (f : Fn) (x : D) : Bool := match f [.da x] with
  | some (.fz (.int i), _) => decide (0 ≤ i ∧ i < 16777216)
  | _ => false
theorem lenOk_inv {f : Fn} {x : D} (h : lenOk f x = true) : ∃ i os, f [.da x] = some (.fz (.int i), os) ∧ (0 ≤ i ∧ i < 16777216) := by
  unfold lenOk at h
  split at h
  · rename_i i os e
    exact ⟨i, os, e, of_decide_eq_true h⟩
  · cases h
/-- list(o) -/
def eNewO (c Fd : PySem.Str) (f : Fn) (m : M Vl) : M Vl := fun ρ => (m ρ).bind fun p => match p.1 with
  | .fz x => if lenOk f x = true then (iOwn c Fd (fun _ => some p) ρ).bind fun q => if q.1.length < 16777216 then some (.fr q.1, q.2) else none else none
  | _ => none
theorem se_listO {kl m : Nat} {e : Expr} {me : M Vl} {p pos : Pos} (hcalm : X.calm = true) (hC : ClsN X.K c C) (hs : PySem.W.findIn X.K (.ref C) "__iter__" = some (some (.ref g))) (hf : PySem.W.isFn X.K (.ref g) = true) (FI : ItFn X.prog X.w X.K X.mg X.base k g fd ps c Fd) (hb : Binds X.K fd ps [])
    (hsL : PySem.W.findIn X.K (.ref C) "__len__" = some (some (.ref gl))) (hfL : PySem.W.isFn X.K (.ref gl) = true) (FL : FnOk X.prog X.w X.K X.mg X.base CX0 kl gl fl pl (spF X.K 1 f)) (hbL : Binds X.K fl pl []) (h1 : k ≤ m) (h2 : kl + 1 ≤ m) (hr : Room (m + 2) X.A)
    (hm : X.mg "list" = none) (hg : Gl X "list") (ha : SE X e me) (he : starEach [e] X.env = (false, eval e X.env) :: starEach [] X.env := by rfl) (hpl : (backTo pos (starEach [] X.env)).any (·.1) = false := by rfl) : SE X (.Call (.Name "list" p) [e] [] pos) (eNewO c Fd f me) := by
  refine pe_weak (pe_callTy (call_listI hcalm hC hs hf FI hb hsL hfL FL hbL h1 h2 hr) hg hm (by decide +kernel) (pa_cons ha pa_nil he) (by decide) (by decide) he hpl) fun σ H Q ⟨G, ρ, F, r0, ρ', W, hm, q⟩ => ?_
  unfold eNewO at hm
  obtain ⟨⟨r, ρ1⟩, e1, hm⟩ := Option.bind_eq_some_iff.mp hm
  dsimp only at hm
  split at hm
  · rename_i x
    split at hm
    · rename_i hl
      obtain ⟨⟨ys, ρ2⟩, e2, hm⟩ := Option.bind_eq_some_iff.mp hm
      dsimp only at hm
      split at hm
      · rename_i hy
        cases hm
        obtain ⟨ks, xs, z, e3, hz, hit, hys⟩ := iOwn_inv e2
        cases e3
        obtain ⟨i, os, hx, hi⟩ := lenOk_inv hl
        refine tm_use W e1 fun v H1 F1 s1 R1 => ?_
        obtain ⟨a, dx, vs, rfl, ha, _, _⟩ := rep_ob hC (show Rep X.K F1 v (.obj c ks xs) from R1)
        refine ⟨F1, a, ks, xs, z, i, os, ys, rfl, s1.wd.sub, R1, hz, hit, hys, hy, hx, hi, fun H' F' l us A hl' R' => ?_⟩
        have s2 := s1.trans (s1.wd.alc A)
        have B : Alc F' H' F' (upd H' l (.lst us)) := ⟨Same.refl _, A.sub.trans (same_upd hl'), same_upd hl', fun _ h => .inl h⟩
        refine q _ _ _ (s2.trans (s2.wd.alc B)) ⟨l, us, rfl, upd_same, R', s2.wd.sub.free hl', s2.back l hl', fun i o => ?_⟩
        obtain ⟨_, z, _⟩ := s2.wd.ow_there o
        rw [hl'] at z
        cases z
      · cases hm
    · cases hm
  · cases hm
end
end Sw
/-! Sw38: own == with a list on the right side. -/
namespace Sw
open PySem PySem.Spec PyProof.Rows L2
section
variable {X : Cx} {f : Fn} {c : PySem.Str} {C g : Addr} {fd : FuncData} {ps : List Str} {k n : Nat}
structure EqL (K : PySem.W.Frag) (C : Addr) : Prop where
  ls : PySem.W.notFirst K C (.type "list") = true
def fOwnEqL (c : PySem.Str) (f : Fn) : D → D → Option D := fun x y => if isOf c x = true then (match y with
  | .lst ys => (f [.da x, .da (.lst ys)]).bind fun r => match r.1 with
    | .fz (.bl b) => some (.bl b)
    | _ => none
  | _ => none) else none
theorem os_ownEqL {K : PySem.W.Frag} (hC : ClsN K c C) (ql : EqL K C) : OpS K (rOwnEq K C f) (fOwnEqL c f) := by
  intro H F v u x y z s hx hy e Q q
  unfold fOwnEqL at e
  split at e
  · rename_i hc
    obtain ⟨kx, xs, rfl⟩ := isOf_inv hc
    split at e
    · rename_i ys
      obtain ⟨⟨r, os⟩, e1, e2⟩ := Option.bind_eq_some_iff.mp e
      dsimp only at e2
      split at e2
      · rename_i b
        cases e2
        have ty := tyx (K := K) (fun _ _ _ h => by cases h) s hy
        have hx : Rep K F v _ := hx
        obtain ⟨a, dx, vs, rfl, ha, _⟩ := rep_ob hC hx
        obtain ⟨l, us, rfl, hl, hr⟩ := hy
        have sF : Same F (upd F l (.lst us)) := fun d o e => by
          by_cases hd : d = l
          · subst hd
            have := s _ _ e
            rw [hl] at this
            rw [upd_same, ← this]
          · rw [upd_ne hd]
            exact e
        have sH : Same (upd F l (.lst us)) H := fun d o e => by
          by_cases hd : d = l
          · subst hd
            rw [upd_same] at e
            rw [hl, e]
          · rw [upd_ne hd] at e
            exact s d o e
        refine ⟨a, dx, _, _, rfl, s _ _ ha, ty, ql.ls, spf_data (gs := [.da (.obj c kx xs), .da (.lst ys)]) rfl sH ⟨hx.mono sF, Rep.lst upd_same (hr.mono sF), trivial⟩ rfl e1 fun v H' F' A R => ?_⟩
        cases R
        refine ⟨b, rfl, ?_⟩
        cases hF : F l with
        | none =>
          refine q _ H' (ItX.dropH F' l) ⟨fun d o e => ?_, fun d o e => ?_, A.hh, fun d e => ?_⟩ (.bl _)
          · have hd : d ≠ l := fun z => by rw [z, hF] at e; cases e
            rw [ItX.dropH_ne hd]
            exact A.ff d o (sF d o e)
          · by_cases hd : d = l
            · rw [hd, ItX.dropH_same] at e
              cases e
            · rw [ItX.dropH_ne hd] at e
              exact A.sub d o e
          · have hd : d ≠ l := fun z => e (by rw [z, ItX.dropH_same])
            rw [ItX.dropH_ne hd] at e
            rcases A.nf d e with e | e
            · rw [upd_ne hd] at e
              exact .inl e
            · exact .inr e
        | some o =>
          refine q _ H' F' ⟨sF.trans A.ff, A.sub, A.hh, fun d e => ?_⟩ (.bl _)
          rcases A.nf d e with e | e
          · by_cases hd : d = l
            · rw [hd, hF]
              exact .inl fun z => by cases z
            · rw [upd_ne hd] at e
              exact .inl e
          · exact .inr e
      · cases e2
    · cases e
  · cases e
theorem oOwnEqL (hC : ClsN X.K c C) (ql : EqL X.K C) (hs : PySem.W.findIn X.K (.ref C) "__eq__" = some (some (.ref g))) (hf : PySem.W.isFn X.K (.ref g) = true) (hu : X.A.units + 64 < cLine)
    (F : FnOk X.prog X.w X.K X.mg X.base CX0 k g fd ps (spF X.K 2 f)) (hr : Room k X.A) (hb : Binds X.K fd ps []) : Op2 X (compareOp .Eq) (fOwnEqL c f) := ⟨_, op_ownEq hs hf hu F hr hb, os_ownEqL hC ql⟩
end
end Sw
/-! Sw39: staticmethods off the class. -/
namespace Sw
open PySem PySem.Spec PyProof.Rows L2
/-- C.m is a staticmethod, its def at g -/
structure SmOf (K : PySem.W.Frag) (C : Addr) (m : PySem.Str) (g : Addr) : Prop where
  ga : PySem.W.specialIn K (.ref C) "__getattribute__" = some (some (.builtin "type.__getattribute__"))
  ex : ∃ (mc : Value) (p : Addr) (rest : List Value), PySem.W.readsIn K C mc = true ∧ PySem.W.findCls K (.ref C) mc m = some (.get (.builtin "staticmethod.__get__") (.ref p) .none (.ref C)) ∧ PySem.W.recIn K p "staticmethod" = some (.ref g :: rest)
section
variable {X : Cx} {e : Expr} {es : List Expr} {ms : M (List Vl)} {f : Fn} {x m : PySem.Str} {C g : Addr} {fd : FuncData} {ps : List Str} {k n : Nat} {p pos apos : Pos}
theorem pe_sm {sp : Sp} {t : TA} {dvs : List V} {ds : List Value} {E : XK} {CX : CXT} {pl : Sem Bool} (F : FnOk X.prog X.w X.K X.mg X.base CX k g fd ps sp) (hr : Room k X.A) (hg : Gl X x) (hm : X.mg x = some (.ref C)) (sm : SmOf X.K C m g) (hk : PySem.W.keepIn X.K (.ref g) = true) (hb : Binds X.K fd ps ds) (hd : Vals dvs ds) (hx : Passes CX X E)
    (ha : PA X (e :: es) t) (hdb : (x == ("__debug__" : Str)) = false := by decide) (he : starEach (e :: es) X.env = (false, eval e X.env) :: starEach es X.env := by rfl) (hpl : (backTo pos (starEach es X.env)).any (·.1) = false := by rfl)
    (ht : eval (.Call (.Attribute (.Name x p) m apos) (e :: es) [] pos) X.env = (do
      let ov ← eval (.Name x p) X.env
      standAt apos.atName
      let (f, first) ← holding [ov] (getMethod ov m pl)
      callWith pos f first (backTo pos (starEach (e :: es) X.env)) (backToKw pos (keywordEach [] X.env))) := by rfl) :
    PE X (.Call (.Attribute (.Name x p) m apos) (e :: es) [] pos) (tCall sp dvs E t) := by
  refine ⟨fun pins s σ H Q I h => ?_⟩
  obtain ⟨mc, q, rest, hrd, hat, hrc⟩ := sm.ex
  refine PySem.W.methodCall_KW (pl := pl) (ld_glob I hg hm ?_ hdb) ht
  refine PySem.W.method_cls I.kIn sm.ga (PySem.W.cls_bind I.kIn hrd hat (wpAny_call (PySem.W.sm_get (s := { s with toks := s.toks + 1 }) I.kIn hrc (PySem.W.handed_on rfl ?_))))
  have I1 : Inv X pins σ H { s with toks := s.toks + 1 } := I.tok _
  refine PySem.W.callWith_K (h₀ := X.base) I.ok.mod.kin hk (thn (ha.run pos pins _ σ H _ I1 h) fun us s1 ⟨vs, H1, I2, r, q⟩ => ⟨I2.kIn, ?_⟩) he hpl
  exact run_fn F hr hb hd hx I2 r q
theorem se_sm {fs : List Bool} {pl : Sem Bool} (F : FnOk X.prog X.w X.K X.mg X.base CX0 k g fd ps (spF X.K n f)) (hn : ∀ gs z, f gs = some z → gs.length = n) (hr : Room k X.A) (hg : Gl X x) (hm : X.mg x = some (.ref C)) (sm : SmOf X.K C m g) (hk : PySem.W.keepIn X.K (.ref g) = true) (hb : Binds X.K fd ps [])
    (ha : SA X (e :: es) ms) (hdb : (x == ("__debug__" : Str)) = false := by decide) (he : starEach (e :: es) X.env = (false, eval e X.env) :: starEach es X.env := by rfl) (hpl : (backTo pos (starEach es X.env)).any (·.1) = false := by rfl)
    (ht : eval (.Call (.Attribute (.Name x p) m apos) (e :: es) [] pos) X.env = (do
      let ov ← eval (.Name x p) X.env
      standAt apos.atName
      let (f, first) ← holding [ov] (getMethod ov m pl)
      callWith pos f first (backTo pos (starEach (e :: es) X.env)) (backToKw pos (keywordEach [] X.env))) := by rfl) :
    SE X (.Call (.Attribute (.Name x p) m apos) (e :: es) [] pos) (eCall f fs ms) := pe_weak (pe_sm F hr hg hm sm hk hb .nil pass0 ha hdb he hpl ht) fun _ _ _ h => tcall_of (dvs := []) hn h
end
end Sw
/-! Sw40: list(zip(a, b)) of two lists. -/
namespace Sw
open PySem PySem.Spec PyProof.Rows L2
section
variable {prog : Program} {w : World} {A : Around} {E : Value → Shared → Prop} {s : Shared}
theorem wpAny_loadIfAlive {M : Model} {a : Addr} {Q : Option Obj → Shared → Prop} (h : Q (s.heap.get? a) s) : wpAny M A (loadIfAlive a) Q E s := fun Γ p hΓ => by
  unfold loadIfAlive
  rw [Sem.wp_loadIfAlive]
  exact (wpAny_pure h : wpAny M A (pure (s.heap.get? a)) Q E s) Γ p hΓ
/-- a zip whose first tuple is still held -/
abbrev ZLate (h : Heap) (z TI TO T0 : Addr) (b : Bool) : Prop := h.get? z = some { cls := .type "zip", dict := none, data := .fields #[rawInt (T0 : Nat), .bool b, .bool false, .ref TI, .ref TO], slots := #[] }
theorem late_free {z TI TO T0 : Addr} {b : Bool} {o : Obj} {Q : Bool → Shared → Prop} (hz : ZLate s.heap z TI TO T0 b) (ho : s.heap.get? T0 = some o) (h : ∀ h', ZLate h' z TI TO T0 true → (∀ c o, c ≠ z → s.heap.get? c = some o → h'.get? c = some o) → h'.objs.size = s.heap.objs.size → Q false { s with heap := h' }) :
    wpAny (model prog w) A (Builtin.SmallTypes.ownedTupleIsFree (.ref z)) Q E s := by
  unfold Builtin.SmallTypes.ownedTupleIsFree
  refine wpAny_bind (wpAny_field hz rfl (x := rawInt (T0 : Nat)) rfl ?_)
  show wpAny _ _ (loadIfAlive (Int.toNat (T0 : Nat)) >>= _) _ _ _
  rw [show Int.toNat ((T0 : Nat) : Int) = T0 from Int.toNat_natCast T0]
  refine wpAny_bind (wpAny_loadIfAlive ?_)
  rw [ho]
  show wpAny _ _ (field (.ref z) 1 >>= _) _ _ _
  refine wpAny_bind (wpAny_field hz rfl (x := .bool b) rfl ?_)
  cases b with
  | true =>
    show wpAny _ _ (if (Value.bool true != Value.bool true) = true then _ else _) _ _ _
    rw [if_neg (by decide)]
    exact wpAny_pure (h s.heap hz (fun _ _ _ e => e) rfl)
  | false =>
    show wpAny _ _ (if (Value.bool false != Value.bool true) = true then _ else _) _ _ _
    rw [if_pos (by decide)]
    refine wpAny_bind (wpAny_setField_rec hz (by simp) fun h' hz' hs => wpAny_pure (h h' hz' (fun c o hc e => (hs.2 c hc).trans e) hs.1))
theorem late_item {z TI TO T0 i1 i2 l1 l2 : Addr} {b : Bool} {o : Obj} {k : Nat} {xs ys : Array Value} {x y : Value} {Q : Option Value → Shared → Prop} (D : ZipApart z TI TO i1 i2 l1 l2) (hz : ZLate s.heap z TI TO T0 b) (ho : s.heap.get? T0 = some o)
    (hTI : IsPair s.heap TI (.ref i1) (.ref i2)) (h1 : s.heap.IsListIter i1 l1 k) (h2 : s.heap.IsListIter i2 l2 k) (hl1 : s.heap.IsList l1 xs) (hl2 : s.heap.IsList l2 ys) (hx : xs[k]? = some x) (hy : ys[k]? = some y)
    (hQ : ∀ h', ZLate h' z TI TO T0 true → h'.IsListIter i1 l1 (k + 1) → h'.IsListIter i2 l2 (k + 1) → IsPair h' s.heap.objs.size x y → h'.objs.size = s.heap.objs.size + 1 →
      (∀ c o, c ≠ z → c ≠ i1 → c ≠ i2 → s.heap.get? c = some o → h'.get? c = some o) → Q (some (.ref s.heap.objs.size)) { s with heap := h' }) : wpAny (model prog w) A (pyNext (.ref z)) Q E s := by
  have hT : s.TypeIs (.ref z) "zip" := ⟨_, hz, rfl⟩
  unfold pyNext
  refine wpAny_bind (wpAny_attempt (wpAny_callSpecial?_slot (name := Str.ofString "__next__") hT PySem.F.slot_zip_next
    (wpAny_call_entry PySem.F.slot_zip_next hT PySem.F.entry_zip_next ?_ (PySem.F.args_zip_next_1 _))))
  show wpAny _ _ (field (.ref z) 2 >>= _) _ _ _
  refine wpAny_bind (wpAny_field hz rfl (x := .bool false) rfl ?_)
  show wpAny _ _ (field (.ref z) 3 >>= _) _ _ _
  refine wpAny_bind (wpAny_field hz rfl (x := .ref TI) rfl ?_)
  refine wpAny_bind (wpAny_seqItems hTI rfl ?_)
  show wpAny _ _ (Builtin.SmallTypes.ownedTupleIsFree (.ref z) >>= _) _ _ _
  refine wpAny_bind (late_free hz ho fun h₁ hz₁ k₁ s₁ => ?_)
  dsimp only
  rw [if_neg Bool.false_ne_true]
  refine wpAny_bind ?_
  rw [← Array.forIn_toList]
  simp only [List.forIn_cons, List.forIn_nil]
  refine wpAny_bind (wpAny_bind (wpAny_holding ?_))
  show wpAny _ _ (Builtin.SmallTypes.nextOf (.ref i1) >>= _) _ _ _
  have g1 : h₁.IsListIter i1 l1 k := h1.at fun o e => k₁ i1 o D.i1z e
  have gl1 : h₁.IsList l1 xs := hl1.at fun o e => k₁ l1 o D.l1z e
  refine wpAny_bind (wpAny_nextOf_list_item g1 gl1 hx fun h₂ h1₂ hs₂ => wpAny_pure ?_)
  refine wpAny_pure ?_
  dsimp only
  refine wpAny_bind (wpAny_bind (wpAny_holding ?_))
  show wpAny _ _ (Builtin.SmallTypes.nextOf (.ref i2) >>= _) _ _ _
  have g2 : h₂.IsListIter i2 l2 k := h2.at fun o e => (hs₂.2 i2 D.i12.symm).trans (k₁ i2 o D.i2z e)
  have gl2 : h₂.IsList l2 ys := hl2.at fun o e => (hs₂.2 l2 D.l2i1).trans (k₁ l2 o D.l2z e)
  refine wpAny_bind (wpAny_nextOf_list_item g2 gl2 hy fun h₃ h2₃ hs₃ => wpAny_pure ?_)
  refine wpAny_pure ?_
  dsimp only
  refine wpAny_pure ?_
  dsimp only
  refine wpAny_bind (wpAny_newTuple (hsz := by show 2 ≤ sizeLine; decide) ?_)
  have sz : h₃.objs.size = s.heap.objs.size := by rw [hs₃.1, hs₂.1, s₁]
  have kk : ∀ c o, c ≠ z → c ≠ i1 → c ≠ i2 → s.heap.get? c = some o → h₃.get? c = some o := fun c o c1 c2 c3 e => (hs₃.2 c c3).trans ((hs₂.2 c c2).trans (k₁ c o c1 e))
  have z3 : ZLate h₃ z TI TO T0 true := (hs₃.2 z D.i2z.symm).trans ((hs₂.2 z D.i1z.symm).trans hz₁)
  have i1₃ : h₃.IsListIter i1 l1 (k + 1) := h1₂.at fun o e => (hs₃.2 i1 D.i12).trans e
  refine wpAny_pure ⟨_, rfl, wpAny_pure ?_⟩
  have fin := hQ (h₃.push { cls := .type "tuple", data := .seq #[x, y] }) (Heap.get?_push_of_some _ z3) (i1₃.at fun o e => Heap.get?_push_of_some _ e) (h2₃.at fun o e => Heap.get?_push_of_some _ e) (by rw [← sz]; exact Heap.get?_push_size _ rfl) (by rw [Heap.size_push, sz]) (fun c o c1 c2 c3 e => Heap.get?_push_of_some _ (kk c o c1 c2 c3 e))
  show Q (some (.ref h₃.objs.size)) { s with heap := h₃.push { cls := .type "tuple", data := .seq #[x, y] } }
  rw [sz]
  exact fin
theorem late_end {z TI TO T0 i1 i2 l1 l2 : Addr} {b : Bool} {o : Obj} {k : Nat} {xs ys : Array Value} {Q : Option Value → Shared → Prop} (hh : A.handled = none) (D : ZipApart z TI TO i1 i2 l1 l2) (hz : ZLate s.heap z TI TO T0 b) (ho : s.heap.get? T0 = some o)
    (hTI : IsPair s.heap TI (.ref i1) (.ref i2)) (h1 : s.heap.IsListIter i1 l1 k) (h2 : s.heap.IsListIter i2 l2 k) (hl1 : s.heap.IsList l1 xs) (hl2 : s.heap.IsList l2 ys) (hx : xs[k]? = none)
    (hQ : ∀ h', (∀ c o, c ≠ z → c ≠ i1 → s.heap.get? c = some o → h'.get? c = some o) → Q none { s with heap := h' }) : wpAny (model prog w) A (pyNext (.ref z)) Q E s := by
  have hT : s.TypeIs (.ref z) "zip" := ⟨_, hz, rfl⟩
  unfold pyNext
  refine wpAny_bind (wpAny_attempt (wpAny_callSpecial?_slot (name := Str.ofString "__next__") hT PySem.F.slot_zip_next
    (wpAny_call_entry PySem.F.slot_zip_next hT PySem.F.entry_zip_next ?_ (PySem.F.args_zip_next_1 _))))
  show wpAny _ _ (field (.ref z) 2 >>= _) _ _ _
  refine wpAny_bind (wpAny_field hz rfl (x := .bool false) rfl ?_)
  show wpAny _ _ (field (.ref z) 3 >>= _) _ _ _
  refine wpAny_bind (wpAny_field hz rfl (x := .ref TI) rfl ?_)
  refine wpAny_bind (wpAny_seqItems hTI rfl ?_)
  show wpAny _ _ (Builtin.SmallTypes.ownedTupleIsFree (.ref z) >>= _) _ _ _
  refine wpAny_bind (late_free hz ho fun h₁ hz₁ k₁ s₁ => ?_)
  dsimp only
  rw [if_neg Bool.false_ne_true]
  refine wpAny_bind ?_
  rw [← Array.forIn_toList]
  simp only [List.forIn_cons, List.forIn_nil]
  refine wpAny_bind (wpAny_bind (wpAny_holding ?_))
  show wpAny _ _ (Builtin.SmallTypes.nextOf (.ref i1) >>= _) _ _ _
  have g1 : h₁.IsListIter i1 l1 k := h1.at fun o e => k₁ i1 o D.i1z e
  have gl1 : h₁.IsList l1 xs := hl1.at fun o e => k₁ l1 o D.l1z e
  refine wpAny_bind (wpAny_nextOf_list_end (A := A.in1) hh g1 gl1 hx fun h₂ e hs₂ he => ?_)
  obtain ⟨oe, hoe, hce⟩ := he
  refine wpAny_bind (wpAny_isInstance (T := "StopIteration") (b := true) ⟨oe, hoe, hce⟩ isSubtype_stop ?_)
  exact wpAny_pure (hQ _ fun c o c1 c2 e => hs₂ c o c2 (k₁ c o c1 e))
end
theorem FpOk.up {X : Cx} {pins : List (Addr × Obj)} {H : Hp} {c p : Addr} {o : HO} (h : FpOk X pins H c) (n : c ≠ p) : FpOk X pins (upd H p o) c := ⟨by rw [upd_ne n]; exact h.1, h.2⟩
/-- the pairs -/
def zipP : List D → List D → List D
  | x :: xs, y :: ys => .tup [x, y] :: zipP xs ys
  | _, _ => []
theorem zipP_get {xs : List D} : ∀ {ys : List D} {i : Nat} {x y : D}, xs[i]? = some x → ys[i]? = some y → (zipP xs ys)[i]? = some (.tup [x, y]) := by
  induction xs with
  | nil => intro ys i x y h _; simp at h
  | cons a xs ih =>
    intro ys i x y h h'
    cases ys with
    | nil => simp at h'
    | cons b ys =>
      cases i with
      | zero =>
        simp only [List.getElem?_cons_zero, Option.some.injEq] at h h'
        rw [h, h']
        rfl
      | succ i =>
        rw [List.getElem?_cons_succ] at h h'
        show (D.tup [a, b] :: zipP xs ys)[i + 1]? = _
        rw [List.getElem?_cons_succ]
        exact ih h h'
theorem zipP_len : ∀ {xs ys : List D}, xs.length = ys.length → (zipP xs ys).length = xs.length
  | [], [], _ => rfl
  | [], _ :: _, h => by cases h
  | _ :: _, [], h => by cases h
  | _ :: xs, _ :: ys, h => by
    show (zipP xs ys).length + 1 = xs.length + 1
    rw [zipP_len (Nat.succ.inj h)]
section
variable {X : Cx} {pins : List (Addr × Obj)} {σ : L2.St}
theorem zip_loop {A1 : Around} {z TI TO i1 i2 a b p : Addr} {us ws : List V} {dxs dys : List D} {F1 H1 : Hp} {Rs : Result → Shared → Prop} (hh : A1.in1.handled = none) (D : ZipApart z TI TO i1 i2 a b) (ha : SqL X.K H1 a us) (hb : SqL X.K H1 b ws) (ra : Reps X.K F1 us dxs) (rb : Reps X.K F1 ws dys) (hl : dxs.length = dys.length) (hz : dxs.length < sizeLine)
    (np : ∀ c ∈ [z, TI, TO, i1, i2], c ≠ p) (hdone : ∀ H F ts s', Inv X pins σ (upd H p (.lst ts)) s' → Alc F1 H1 F H → H p = none → Reps X.K F ts (zipP dxs dys) → Rs (.ok (.ret .none)) s') :
    ∀ (m i : Nat) (H F : Hp) (s : Shared) (ts : List V), dxs.length - i = m → i ≤ dxs.length → Inv X pins σ (upd H p (.lst ts)) s → H p = none → Alc F1 H1 F H → Reps X.K F ts ((zipP dxs dys).take i) → (∀ c ∈ [z, TI, TO, i1, i2], FpOk X pins H c) →
      IsPair s.heap TI (.ref i1) (.ref i2) → (∃ x y, IsPair s.heap TO x y) → s.heap.IsListIter i1 a i → s.heap.IsListIter i2 b i → ((i = 0 ∧ IsZip s.heap z TI TO .none) ∨ ∃ T0 f1 xs0, ZLate s.heap z TI TO T0 f1 ∧ H T0 = some (.tup xs0)) →
      codeAny (model X.prog X.w) A1 (.builtin "list.extend.loop" ⟨[.ref p, .ref z, .none], []⟩) Rs s := by
  have zl := zipP_len hl
  intro m
  induction m with
  | zero =>
    intro i H F s ts hm hi I hp A R fo hTI hTO h1 h2 hst
    have e : i = dxs.length := by omega
    have hpq := same_upd (o := .lst ts) hp
    obtain ⟨its, rv, pl, hz1⟩ := I.list ((A.hh.trans hpq).seq ha)
    obtain ⟨its2, rv2, pl2, hz2⟩ := I.list ((A.hh.trans hpq).seq hb)
    have l1 := rv.length
    have l2 := ra.len
    have hx : its.toArray[i]? = none := by
      rw [List.getElem?_toArray]
      exact List.getElem?_eq_none (by omega)
    refine codeAny_builtin PySem.F.entry_extend_loop ?_
    rw [Around.under_plainId PySem.F.plain_extend_loop _]
    show wpAny _ A1.in1 (pyNext (.ref z) >>= _) _ _ s
    rw [e, ← zl, List.take_length] at R
    have fin : ∀ h', (∀ c o, c ≠ z → c ≠ TO → c ≠ i1 → c ≠ i2 → s.heap.get? c = some o → h'.get? c = some o) → Inv X pins σ (upd H p (.lst ts)) { s with heap := h' } := fun h' hk =>
      I.turnedL (t' := s.toks) (ch := [z, TI, TO, i1, i2]) (fun c o hc e => hk c o (fun q => hc (by simp [q])) (fun q => hc (by simp [q])) (fun q => hc (by simp [q])) (fun q => hc (by simp [q])) e) fun c hc => FpOk.up (fo c hc) (np c hc)
    rcases hst with ⟨e0, hz0⟩ | ⟨T0, f1, xs0, hz0, hT0⟩
    · obtain ⟨x0, y0, hTO⟩ := hTO
      exact wpAny_bind (wpAny_pyNext_zip_end hh D hz0 hTI hTO h1 h2 pl.isList pl2.isList (.inl hx) fun h' hk => wpAny_pure (hdone H F ts _ (fin h' hk) A hp R))
    · obtain ⟨_, _, _, _, d, _⟩ : ObjOk X.prog X.w (upd H p (.lst ts)) s.heap T0 (.tup xs0) := I.hok T0 _ (hpq _ _ hT0)
      exact wpAny_bind (late_end hh D hz0 d hTI h1 h2 pl.isList pl2.isList hx fun h' hk => wpAny_pure (hdone H F ts _ (fin h' fun c o c1 _ c3 _ e => hk c o c1 c3 e) A hp R))
  | succ m ih =>
    intro i H F s ts hm hi I hp A R fo hTI hTO h1 h2 hst
    have hlt : i < dxs.length := by omega
    have hpq := same_upd (o := .lst ts) hp
    obtain ⟨its, rv, pl, hz1⟩ := I.list ((A.hh.trans hpq).seq ha)
    obtain ⟨its2, rv2, pl2, hz2⟩ := I.list ((A.hh.trans hpq).seq hb)
    obtain ⟨x, hx, rx⟩ := ra.get' (List.getElem?_eq_getElem hlt)
    obtain ⟨y, hy, ry⟩ := rb.get' (List.getElem?_eq_getElem (show i < dys.length by omega))
    obtain ⟨u, hu, ru⟩ := rv.get hx
    obtain ⟨w, hw, rw'⟩ := rv2.get hy
    have hu' : its.toArray[i]? = some u := by rw [List.getElem?_toArray]; exact hu
    have hw' : its2.toArray[i]? = some w := by rw [List.getElem?_toArray]; exact hw
    have zi := zipP_get (List.getElem?_eq_getElem hlt) (List.getElem?_eq_getElem (show i < dys.length by omega))
    have tsl : ts.length = i := by rw [R.len, List.length_take, zl]; omega
    refine codeAny_builtin PySem.F.entry_extend_loop ?_
    rw [Around.under_plainId PySem.F.plain_extend_loop _]
    show wpAny _ A1.in1 (pyNext (.ref z) >>= _) _ _ s
    have hT : upd H p (.lst ts) s.heap.objs.size = none := I.hok.fresh (Nat.le_refl _)
    have pT : s.heap.objs.size ≠ p := fun e => by rw [e, upd_same] at hT; cases hT
    have hTn : H s.heap.objs.size = none := by rw [upd_ne pT] at hT; exact hT
    have step : ∀ h', IsPair h' s.heap.objs.size u w → h'.objs.size = s.heap.objs.size + 1 → (∀ c o, c ≠ z → c ≠ TO → c ≠ i1 → c ≠ i2 → s.heap.get? c = some o → h'.get? c = some o) → h'.IsListIter i1 a (i + 1) → h'.IsListIter i2 b (i + 1) → (∃ x y, IsPair h' TO x y) →
        (∃ T0 f1 xs0, ZLate h' z TI TO T0 f1 ∧ upd H s.heap.objs.size (.tup [x, y]) T0 = some (.tup xs0)) →
        wpAny (model X.prog X.w) A1.in1 (updateSeq p (·.push (.ref s.heap.objs.size)) >>= fun _ => again (.builtin "list.extend.loop" ⟨[.ref p, .ref z, .none], []⟩)) (fun fin s' => match fin with | .done f => Rs (.ok f) s' | .again c' => c'.quiet = true ∧ codeAny (model X.prog X.w) A1 c' Rs s') (fun e s' => Rs (.error e) s') { s with heap := h' } := by
      intro h' hT' hsz hk g1 g2 gTO gz
      have new : ObjOk X.prog X.w (upd (upd H p (.lst ts)) s.heap.objs.size (.tup [x, y])) h' s.heap.objs.size (.tup [x, y]) := ⟨by show 2 ≤ sizeLine; decide, [u, w], .cons ru (.cons rw' .nil), ⟨_, hT', rfl, _, rfl⟩⟩
      have I1 : Inv X pins σ (upd (upd H p (.lst ts)) s.heap.objs.size (.tup [x, y])) { s with heap := h' } :=
        I.turnedNew (t' := s.toks) (ch := [z, TI, TO, i1, i2]) (fun c o hc e => hk c o (fun q => hc (by simp [q])) (fun q => hc (by simp [q])) (fun q => hc (by simp [q])) (fun q => hc (by simp [q])) e) (fun c hc => FpOk.up (fo c hc) (np c hc)) (Nat.le_refl _) new
      obtain ⟨z9, its9, k9, r9, hl9, e9⟩ := I1.lstM (l := p) (by rw [upd_ne (Ne.symm pT), upd_same])
      have sz9 : its9.length = i := by rw [← r9.length, tsl]
      refine wpAny_bind (wpAny_updateSeq e9 rfl (wpAny_pure ⟨plainId_quiet PySem.F.plain_extend_loop _, ?_⟩) (by rw [List.size_toArray]; omega) (by show (its9.toArray.push _).size ≤ sizeLine + 1; rw [Array.size_push, List.size_toArray]; omega))
      have I2 := I1.lset (its' := its9 ++ [.ref s.heap.objs.size]) (f := (·.push (.ref s.heap.objs.size))) (t' := s.toks) (by rw [upd_ne (Ne.symm pT), upd_same]) e9 (by simp) (r9.append (.cons (show RelV (.ref s.heap.objs.size) (.ref s.heap.objs.size) from rfl) .nil)) (by rw [List.length_append, List.length_singleton, tsl]; omega)
      have eH : ∀ l, upd (upd (upd H p (.lst ts)) s.heap.objs.size (.tup [x, y])) p l = upd (upd H s.heap.objs.size (.tup [x, y])) p l := fun l => by
        funext c
        by_cases hc : c = p
        · rw [hc, upd_same, upd_same]
        · rw [upd_ne hc, upd_ne hc]
          by_cases hc2 : c = s.heap.objs.size
          · rw [hc2, upd_same, upd_same]
          · rw [upd_ne hc2, upd_ne hc2, upd_ne hc]
      rw [eH] at I2
      have An : Alc F H (upd F s.heap.objs.size (.tup [x, y])) (upd H s.heap.objs.size (.tup [x, y])) := Alc.new A.sub hTn
      have lt : ∀ c ∈ [z, TI, TO, i1, i2], c ≠ s.heap.objs.size := fun c hc => by
        have e' : c = z ∨ c = TI ∨ c = TO ∨ c = i1 ∨ c = i2 := by simpa using hc
        refine Nat.ne_of_lt ?_
        rcases e' with q | q | q | q | q
        · rw [q]
          rcases hst with ⟨_, e⟩ | ⟨_, _, _, e, _⟩
          · exact Heap.lt_size e
          · exact Heap.lt_size e
        · rw [q]; exact Heap.lt_size hTI
        · rw [q]; obtain ⟨_, _, e⟩ := hTO; exact Heap.lt_size e
        · rw [q]; obtain ⟨_, e, _⟩ := h1; exact Heap.lt_size e
        · rw [q]; obtain ⟨_, e, _⟩ := h2; exact Heap.lt_size e
      have up : ∀ c o, c ≠ p → h'.get? c = some o → (h'.update p (Obj.mapSeq (·.push (.ref s.heap.objs.size)))).get? c = some o := fun c o hc e => (Heap.get?_update_other _ _ (Ne.symm hc)).trans e
      refine ih (i + 1) (upd H s.heap.objs.size (.tup [x, y])) (upd F s.heap.objs.size (.tup [x, y])) _ (ts ++ [.ref s.heap.objs.size]) (by omega) hlt I2 (by rw [upd_ne (Ne.symm pT)]; exact hp) (A.trans An) ?_ (fun c hc => FpOk.up (fo c hc) (lt c hc)) ?_ ?_ (g1.at fun o e => up i1 o (np i1 (by simp)) e) (g2.at fun o e => up i2 o (np i2 (by simp)) e) (.inr ?_)
      · rw [take_s zi]
        exact (R.mono An.ff).append (.cons (.tup (SqT.of upd_same) (.cons (rx.mono (A.ff.trans An.ff)) (.cons (ry.mono (A.ff.trans An.ff)) .nil))) .nil)
      · exact up TI _ (np TI (by simp)) (hk TI _ D.TIz D.TITO D.TIi1 D.TIi2 hTI)
      · obtain ⟨x', y', e⟩ := gTO
        exact ⟨x', y', up TO _ (np TO (by simp)) e⟩
      · obtain ⟨T0, f1, xs0, e, e'⟩ := gz
        exact ⟨T0, f1, xs0, up z _ (np z (by simp)) e, e'⟩
    rcases hst with ⟨e0, hz0⟩ | ⟨T0, f1, xs0, hz0, hT0⟩
    · obtain ⟨x0, y0, hTO'⟩ := hTO
      refine wpAny_bind (wpAny_pyNext_zip_item D hz0 hTI hTO' h1 h2 pl.isList pl2.isList hu' hw' fun h' z' TO' h1' h2' hT' hsz hk => ?_)
      exact step h' hT' hsz hk h1' h2' ⟨_, _, TO'⟩ ⟨s.heap.objs.size, false, _, z', upd_same⟩
    · obtain ⟨_, _, _, _, d, _⟩ : ObjOk X.prog X.w (upd H p (.lst ts)) s.heap T0 (.tup xs0) := I.hok T0 _ (hpq _ _ hT0)
      refine wpAny_bind (late_item D hz0 d hTI h1 h2 pl.isList pl2.isList hu' hw' fun h' z' h1' h2' hT' hsz hk => ?_)
      obtain ⟨x0, y0, hTO'⟩ := hTO
      have nT0 : T0 ≠ s.heap.objs.size := fun e => by rw [e, hTn] at hT0; cases hT0
      exact step h' hT' hsz (fun c o c1 _ c3 c4 e => hk c o c1 c3 c4 e) h1' h2' ⟨x0, y0, hk TO _ D.TOz D.TOi1 D.TOi2 hTO'⟩ ⟨T0, true, xs0, z', by rw [upd_ne nT0]; exact hT0⟩
theorem nolen_zip : typeLookup (.type "zip") "__len__" = pure none := by rw [typeLookup_type, builtinLookup_eq_fast]; kernel_rfl
theorem nohint_zip : typeLookup (.type "zip") "__length_hint__" = pure none := by rw [typeLookup_type, builtinLookup_eq_fast]; kernel_rfl
def tLZ (K : PySem.W.Frag) (ta : TA) : TE := fun σ H Q => ta σ H fun vs H1 => ∃ (F1 : Hp) (a b : Addr) (us ws : List V) (dxs dys : List D), vs = [.ref a, .ref b] ∧ Same F1 H1 ∧ SqL K H1 a us ∧ SqL K H1 b ws ∧ Reps K F1 us dxs ∧ Reps K F1 ws dys ∧ dxs.length = dys.length ∧ dxs.length < 16777216 ∧
  ∀ H' F' q ts, Alc F1 H1 F' H' → H' q = none → Reps K F' ts (zipP dxs dys) → Q (.ref q) (upd H' q (.lst ts))
theorem pe_listZip {e e2 : Expr} {ta : TA} {p pos p2 pos2 : Pos} (hcalm : X.calm = true) (hgl : Gl X "list") (hml : X.mg "list" = none) (hg : Gl X "zip") (hm : X.mg "zip" = none) (ha : PA X [e, e2] ta)
    (hs0 : starEach [.Call (.Name "zip" p2) [e, e2] [] pos2] X.env = (false, eval (.Call (.Name "zip" p2) [e, e2] [] pos2) X.env) :: starEach [] X.env := by rfl) (hpl0 : (backTo pos (starEach [] X.env)).any (·.1) = false := by rfl)
    (hs : starEach [e, e2] X.env = (false, eval e X.env) :: starEach [e2] X.env := by rfl) (hpl : (backTo pos2 (starEach [e2] X.env)).any (·.1) = false := by rfl) :
    PE X (.Call (.Name "list" p) [.Call (.Name "zip" p2) [e, e2] [] pos2] [] pos) (tLZ X.K ta) := by
  refine ⟨fun pins s0 σ H0 Q I0 h => ?_⟩
  refine wpAny_Call_Name_kw (ld_blt (u := .type "list") I0 hgl hml (by decide +kernel) ?_ (by decide) (by decide))
  refine PyProof.Rows.callWith_type1 ?_ hs0 hpl0
  rw [hs0]
  show wpAny _ _ (spliced ((false, eval (.Call (.Name "zip" p2) [e, e2] [] pos2) X.env) :: backTo pos (starEach [] X.env))) _ _ s0
  refine Calls.spliced_cons ?_
  refine Call_ (ld_blt I0 hg hm PyProof.Rows.boot_zip (PyProof.Rows.callWith_type1 (thn (ha.run pos2 pins s0 σ H0 _ I0 h) fun us1 s1 ⟨vs, H1, I1, r1, q1⟩ => ?_) hs hpl))
  obtain ⟨F1, a, b, us, ws, dxs, dys, rfl, sF, hqx, hqy, rx, ry, hl, hz, q⟩ := q1
  cases r1 with
  | cons r rr =>
  cases rr with
  | cons r' rr =>
  cases rr
  cases r
  cases r'
  obtain ⟨its, rv, p1, _⟩ := I1.list hqx
  obtain ⟨its2, rv2, pp2, _⟩ := I1.list hqy
  have la : a < s1.heap.objs.size := p1.lt
  have lb : b < s1.heap.objs.size := pp2.lt
  refine call_zip_2 p1.isList pp2.isList fun h' hz' hTI hTO h1 h2 hsz hk => Calls.spliced_nil ?_
  have I2 : Inv X pins σ H1 { s1 with heap := h' } := I1.kept (t' := s1.toks) hk
  have D := PySem.W.ktu_apart s1.heap.objs.size a b la lb
  have fo : ∀ c ∈ [s1.heap.objs.size + 4, s1.heap.objs.size + 2, s1.heap.objs.size + 3, s1.heap.objs.size, s1.heap.objs.size + 1], s1.heap.objs.size ≤ c ∧ c < s1.heap.objs.size + 5 := fun c hcm => by
    have e' : c = s1.heap.objs.size + 4 ∨ c = s1.heap.objs.size + 2 ∨ c = s1.heap.objs.size + 3 ∨ c = s1.heap.objs.size ∨ c = s1.heap.objs.size + 1 := by simpa using hcm
    omega
  generalize hz0 : s1.heap.objs.size + 4 = z at hz' D fo ⊢
  generalize hTI0 : s1.heap.objs.size + 2 = TI at hz' hTI D fo ⊢
  generalize hTO0 : s1.heap.objs.size + 3 = TO at hz' hTO D fo ⊢
  generalize hi20 : s1.heap.objs.size + 1 = i2 at hTI h2 D fo ⊢
  have fpo : ∀ c ∈ [z, TI, TO, s1.heap.objs.size, i2], FpOk X pins H1 c := fun c hc => I1.fpOk (fo c hc).1 (I1.hok.fresh (fo c hc).1)
  generalize hs2 : ({ s1 with heap := h' } : Shared) = s2 at I2
  have eh : s2.heap = h' := by rw [← hs2]
  have hs2' : s2 = { s2 with heap := h' } := by rw [← hs2]
  rw [← eh] at hz' hTI hTO h1 h2 hsz
  refine callType_codes (Q₁ := fun obj s₁ => obj = .ref s2.heap.objs.size ∧ s₁ = { s2 with heap := s2.heap.push { cls := .type "list", data := .seq #[] } }) PySem.F.called_list (PySem.F.typeCall_list_1 _) PySem.F.entry_list_init
    (code_list_new _ ⟨rfl, rfl⟩) fun obj s₁ h₁ => ?_
  obtain ⟨rfl, rfl⟩ := h₁
  have hS : (s2.heap.push { cls := .type "list", data := .seq #[] }).get? s2.heap.objs.size = some { cls := .type "list", data := .seq #[] } := Heap.get?_push_size _ rfl
  refine ⟨⟨_, hS, rfl⟩, PySem.F.args_list_init_2 _ _, ?_⟩
  have fr : H1 s2.heap.objs.size = none := I2.hok.fresh (Nat.le_refl _)
  have I3 : Inv X pins σ (upd H1 s2.heap.objs.size (.lst [])) { s2 with heap := s2.heap.push { cls := .type "list", data := .seq #[] } } := I2.lnew (its := []) (t' := s2.toks) .nil (Nat.zero_le _)
  have np : ∀ c ∈ [z, TI, TO, s1.heap.objs.size, i2], c ≠ s2.heap.objs.size := fun c hc => by
    have := (fo c hc).2
    rw [hsz]
    exact Nat.ne_of_lt this
  have keep : ∀ c o, s2.heap.get? c = some o → (s2.heap.push { cls := .type "list", data := .seq #[] }).get? c = some o := fun c o e => Heap.get?_push_of_some _ e
  generalize hp : s2.heap.objs.size = p at fr I3 hS np ⊢
  show wpAny _ _ (do let old ← Builtin.List.listItems (.ref p); Builtin.List.listUpdate (.ref p) (fun _ => #[]); letGo old.toList.reverse; Builtin.List.listExtendWith (.ref p) (.ref z) .none) _ _ _
  refine wpAny_bind ?_
  unfold Builtin.List.listItems
  refine wpAny_bind (wpAny_seqItems hS rfl (wpAny_pure ?_))
  show wpAny _ _ (updateSeq p (fun _ => #[]) >>= fun _ => letGo (#[] : Array Value).toList.reverse >>= fun _ => Builtin.List.listExtendWith (.ref p) (.ref z) .none) _ _ _
  refine wpAny_bind (wpAny_updateSeq hS rfl ?_)
  have I4 := I3.lset (f := fun _ => #[]) (its := []) (its' := []) (ys := []) (t' := s2.toks) upd_same hS rfl .nil (Nat.zero_le _)
  rw [upd_upd] at I4
  refine wpAny_bind (wpAny_letGo ?_)
  have oth : ∀ (f : Array Value → Array Value) (h : Heap) c o, c ≠ p → h.get? c = some o → (h.update p (Obj.mapSeq f)).get? c = some o := fun f h c o hc e => (Heap.get?_update_other _ _ (Ne.symm hc)).trans e
  have hz3 : IsZip ((s2.heap.push { cls := .type "list", data := .seq #[] }).update p (Obj.mapSeq fun _ => #[])) z TI TO .none := oth _ _ _ _ (np z (by simp)) (keep _ _ hz')
  have hT : Shared.TypeIs { s2 with heap := (s2.heap.push { cls := .type "list", data := .seq #[] }).update p (Obj.mapSeq fun _ => #[]) } (.ref z) "zip" := ⟨_, hz3, rfl⟩
  unfold Builtin.List.listExtendWith
  refine wpAny_bind (wpAny_typeOf hT ?_)
  have e1 : Builtin.List.listSameRef (.ref p) (.ref z) = false := by simp [Builtin.List.listSameRef, Ne.symm (np z (by simp))]
  have e2' : (Value.type "zip" == Value.type "list") = false := by decide
  have e3 : (Value.type "zip" == Value.type "tuple") = false := by decide
  simp only [e1, e2', e3, Bool.or_false, Bool.false_eq_true, if_false]
  refine wpAny_bind (wpAny_pyIter_zip hz3 ?_)
  refine wpAny_bind (wpAny_holding ?_)
  unfold Builtin.List.listLengthHint
  refine wpAny_bind (wpAny_specialOf hT nolen_zip ?_)
  show wpAny _ _ (specialOf (Value.ref z) (Str.ofString "__length_hint__") >>= _) _ _ _
  refine wpAny_bind (wpAny_specialOf hT nohint_zip ?_)
  refine wpAny_pure ?_
  show wpAny _ _ (rule "list.extend.makes-room" >>= fun _ => Builtin.List.listTouch (.ref p) >>= fun _ => again (.builtin "list.extend.loop" ⟨[.ref p, .ref z, .none], []⟩)) _ _ _
  refine wpAny_bind (wpAny_rule ?_)
  refine wpAny_bind ?_
  obtain ⟨z3, its3, k3, r3, hl3, g3⟩ := I4.lstM (l := p) upd_same
  cases r3
  show wpAny _ _ (updateSeq p (·.push .none) >>= fun _ => updateSeq p (·.pop)) _ _ _
  refine wpAny_bind (wpAny_updateSeq g3 rfl ?_)
  have J2 := I4.lset (f := (·.push Value.none)) (its' := [Value.none]) (ys := [.non]) (t' := s2.toks) upd_same g3 (by simp) (.cons rfl .nil) (by rw [List.length_singleton, sizeLine_eq]; decide)
  rw [upd_upd] at J2
  obtain ⟨z4, its4, k4, r4, hl4, g4⟩ := J2.lstM upd_same
  obtain ⟨u4, rfl, ru4⟩ := r4.one
  refine wpAny_updateSeq g4 rfl ?_ (by show 1 ≤ sizeLine; rw [sizeLine_eq]; decide) (by show 0 ≤ sizeLine + 1; exact Nat.zero_le _)
  have J3 := J2.lset (f := (·.pop)) (its := [u4]) (its' := []) (ys := []) (t' := s2.toks) upd_same g4 (by rfl) .nil (Nat.zero_le _)
  rw [upd_upd] at J3
  have all3 : ∀ c o, c ∈ [z, TI, TO, s1.heap.objs.size, i2] → s2.heap.get? c = some o → ((((s2.heap.push { cls := .type "list", data := .seq #[] }).update p (Obj.mapSeq fun _ => #[])).update p (Obj.mapSeq (·.push Value.none))).update p (Obj.mapSeq (·.pop))).get? c = some o := fun c o hc e =>
    oth _ _ _ _ (np c hc) (oth _ _ _ _ (np c hc) (oth _ _ _ _ (np c hc) (keep _ _ e)))
  refine wpAny_pure ⟨plainId_quiet PySem.F.plain_extend_loop _, ?_⟩
  refine zip_loop (A1 := X.A.in1) (Rs := wants (fun r s₂ => r = .none ∧ EP X pins σ Q (.ref p) s₂) X.xe) (F1 := F1) (H1 := H1) (I1.ok.hd hcalm) D hqx hqy rx ry hl (by rw [sizeLine_eq]; exact hz) np (fun H F ts s' I' A hp' R => ⟨rfl, .ref p, _, I', rfl, q H F p ts A hp' R⟩) _ 0 H1 F1 _ [] rfl (Nat.zero_le _) J3 fr (Alc.refl sF) .nil fpo (all3 TI _ (by simp) hTI) ⟨_, _, all3 TO _ (by simp) hTO⟩ (h1.at fun o e => all3 _ o (by simp) e) (h2.at fun o e => all3 _ o (by simp) e) (.inl ⟨rfl, all3 z _ (by simp) hz'⟩)
/-- list(zip(a, b)) -/
def eLZ (ms : M (List Vl)) : M Vl := fun ρ => (ms ρ).bind fun p => match p.1 with
  | [r1, r2] => (look p.2 r1).bind fun x => (look p.2 r2).bind fun y => match x, y with
    | .lst xs, .lst ys => if xs.length = ys.length ∧ xs.length < 16777216 then some (.fr (zipP xs ys), p.2) else none
    | _, _ => none
  | _ => none
theorem se_listZip {e e2 : Expr} {ms : M (List Vl)} {p pos p2 pos2 : Pos} (hcalm : X.calm = true) (hgl : Gl X "list") (hml : X.mg "list" = none) (hg : Gl X "zip") (hm : X.mg "zip" = none) (ha : SA X [e, e2] ms)
    (hs0 : starEach [.Call (.Name "zip" p2) [e, e2] [] pos2] X.env = (false, eval (.Call (.Name "zip" p2) [e, e2] [] pos2) X.env) :: starEach [] X.env := by rfl) (hpl0 : (backTo pos (starEach [] X.env)).any (·.1) = false := by rfl)
    (hs : starEach [e, e2] X.env = (false, eval e X.env) :: starEach [e2] X.env := by rfl) (hpl : (backTo pos2 (starEach [e2] X.env)).any (·.1) = false := by rfl) :
    SE X (.Call (.Name "list" p) [.Call (.Name "zip" p2) [e, e2] [] pos2] [] pos) (eLZ ms) := by
  refine pe_weak (pe_listZip hcalm hgl hml hg hm ha hs0 hpl0 hs hpl) fun σ H Q ⟨G, ρ, F, r0, ρ', W, hm, q⟩ => ?_
  unfold eLZ at hm
  obtain ⟨⟨rs, ρ1⟩, e1, hm⟩ := Option.bind_eq_some_iff.mp hm
  split at hm
  · rename_i r1 r2 hr
    dsimp only at hr
    subst hr
    obtain ⟨x, e2, hm⟩ := Option.bind_eq_some_iff.mp hm
    obtain ⟨y, e3, hm⟩ := Option.bind_eq_some_iff.mp hm
    split at hm
    · split at hm
      · rename_i hl
        cases hm
        refine ⟨G, ρ, F, [r1, r2], ρ1, W, e1, fun vs H1 F1 s1 R1 => ?_⟩
        obtain ⟨v, w, rfl, Rv, Rw⟩ : ∃ v w, vs = [v, w] ∧ VlS X.K σ F1 v r1 ∧ VlS X.K σ F1 w r2 := by
          match vs, R1 with
          | [v, w], z => exact ⟨v, w, rfl, z.1, z.2.1⟩
        obtain ⟨a, us, rfl, h1, h2⟩ := vw_of s1.wd Rv e2
        obtain ⟨b, ws, rfl, g1, g2⟩ := vw_of s1.wd Rw e3
        exact ⟨F1, a, b, us, ws, _, _, rfl, s1.wd.sub, SqL.of h1, SqL.of g1, h2, g2, hl.1, hl.2, fun H' F' p ts A hp hr => new_fr (s1.trans (s1.wd.alc A)) hr hp q⟩
      · cases hm
    · cases hm
  · cases hm
end
end Sw
namespace K01
open Sw

def tx_0123456789abcd : List Nat := [9, 10, 32, 33, 34, 35, 36, 38, 39, 40, 41, 42, 43, 44, 45, 46, 47, 48, 49, 50, 51, 52, 53, 54, 55, 56, 57, 58, 59, 60, 61, 62, 63, 64, 65, 66, 67, 68, 69, 70, 71, 72, 73, 74, 75, 76, 77, 78, 79, 80, 81, 82, 83, 84, 85, 86, 87, 88, 89, 90, 91, 92, 93, 94, 95, 96]
def tx_abcdefghijklmn : List Nat := [97, 98, 99, 100, 101, 102, 103, 104, 105, 106, 107, 108, 109, 110, 111, 112, 113, 114, 115, 116, 117, 118, 119, 120, 121, 122, 123, 124, 125, 126]
def c_SIGNS : List Nat := [9, 10, 32, 33, 34, 35, 36, 38, 39, 40, 41, 42, 43, 44, 45, 46, 47, 48, 49, 50, 51, 52, 53, 54, 55, 56, 57, 58, 59, 60, 61, 62, 63, 64, 65, 66, 67, 68, 69, 70, 71, 72, 73, 74, 75, 76, 77, 78, 79, 80, 81, 82, 83, 84, 85, 86, 87, 88, 89, 90, 91, 92, 93, 94, 95, 96, 97, 98, 99, 100, 101, 102, 103, 104, 105, 106, 107, 108, 109, 110, 111, 112, 113, 114, 115, 116, 117, 118, 119, 120, 121, 122, 123, 124, 125, 126]
/-- __init__(self, signs): slots 0=self 1=signs 2=sign -/
def i_SignSet : SI0 := (iSeq (iFld "_signs" (eMet fJoin (eC (.str [])) (aCons (eLc [2] (iSq (eC (.str c_SIGNS))) (gN 2) (tE (eBin fIn (eVar 2) (eVar 1))) (eVar 2)) aNil)))
  iNx)
def g_SignSet : List D → Option (List PySem.Str × List D) := fun ds => if ds.length = 1 then (i_SignSet (.no :: (ds.map .d ++ List.replicate (3 - (1 + 1)) .no), [], [])).bind fun r => some r.2 else none
theorem g_SignSet_len : ∀ (ds : List D) (z : List PySem.Str × List D), g_SignSet ds = some z → ds.length = 1 := fun ds z h => by
  unfold g_SignSet at h
  split at h
  · assumption
  · cases h
/-- rank(sign): slots 0=sign -/
def b_rank : S := (sRet (eMet fFind (eC (.str c_SIGNS)) (aCons (eVar 0) aNil)))
def f_rank : Fn := fnS 1 1 b_rank
/-- between(first, last): slots 0=first 1=last -/
def b_SignSet_between : S := (sRet (eMake "SignSet" g_SignSet (aCons (eSl fSlA (eC (.str c_SIGNS)) (oSome (eCall f_rank [] (aCons (eVar 0) aNil))) (oSome (eBin fAdd (eCall f_rank [] (aCons (eVar 1) aNil)) (eC (.int 1))))) aNil)))
def f_SignSet_between : Fn := fnS 2 2 b_SignSet_between
/-- __eq__(self, other): slots 0=self 1=other -/
def b_SignSet_eq : S := (sRet (eAnd (eUn (fIsC "SignSet") (eVar 1)) (eBin fEq (eUn (fAt "SignSet" "_signs") (eVar 0)) (eUn (fAt "SignSet" "_signs") (eVar 1)))))
def f_SignSet_eq : Fn := fnS 2 2 b_SignSet_eq
/-- within(self, other): slots 0=self 1=other 2=sign -/
def b_SignSet_within : S := (sRet (eBlt cAll (aCons (eLc [2] (iSq (eUn (fAt "SignSet" "_signs") (eVar 0))) (gN 2) tYesM (eBin fIn (eVar 2) (eUn (fAt "SignSet" "_signs") (eVar 1)))) aNil)))
def f_SignSet_within : Fn := fnS 2 3 b_SignSet_within
/-- _law_draw(_law_script): slots 0=_law_script 1=_law_digits 2=_law_one 3=_law_two 4=_law_cell 5=_law_rest 6=_law_k -/
def b_law_draw : S := (sSeq (sAsg 1 (eLst aNil))
  (sSeq (sAsg 2 (eC (.int 7)))
  (sSeq (sAsg 3 (eC (.int 11)))
  (sSeq (sFor (iSq (eVar 0)) (gN 4) (sSeq (sAsg 2 (eBin fMod (eBlt cInt (aCons (eBin fAdd (eBin fMul (eVar 2) (eC (.int 48271))) (eVar 4)) aNil)) (eC (.int 2147483647))))
  (sSeq (sAsg 3 (eBin fMod (eBlt cInt (aCons (eBin fAdd (eBin fMul (eVar 3) (eC (.int 69621))) (eBin fDiv (eVar 4) (eC (.int 1009)))) aNil)) (eC (.int 2147483629))))
  (sSeq (sAsg 5 (eVar 4))
  (sSeq (sIf (tE (eBin fLt (eVar 4) (eBin fPow (eC (.int 10)) (eC (.int 18))))) (sAsg 5 (eC (.int 0))) sNx)
  (sFor (iR1 (aCons (eC (.int 60)) aNil)) (gN 6) (sIf (tE (eBin fGt (eVar 5) (eC (.int 0)))) (sSeq (sApp 1 (eBin fMod (eBlt cInt (aCons (eVar 5) aNil)) (eC (.int 5040))))
  (sAsg 5 (eBin fDiv (eVar 5) (eC (.int 5040))))) sNx)))))))
  (sRet (eLst (aCons (eC (.int 0)) (aCons (eVar 2) (aCons (eVar 3) (aCons (eVar 1) (aCons (eC (.int 3)) aNil)))))))))))
def f_law_draw : Fn := fnS 1 7 b_law_draw
/-- _law_inside(_law_one, _law_two): slots 0=_law_one 1=_law_two 2=_law_sign -/
def b_law_inside : S := (sRet (eBin fEq (eBlt cLen (aCons (eLc [2] (iSq (eVar 0)) (gN 2) (tE (eBin fNi (eVar 2) (eVar 1))) (eVar 2)) aNil)) (eC (.int 0))))
def f_law_inside : Fn := fnS 2 3 b_law_inside
/-- _law_next(_law_draw_here, _law_many): slots 0=_law_draw_here 1=_law_many 2=_law_at -/
def b_law_next : S := (sSeq (sAsg 2 (eBin fIx (eVar 0) (eC (.int 0))))
  (sSeq (sIf (tE (eBin fLt (eVar 2) (eBlt cLen (aCons (eBin fIx (eVar 0) (eC (.int 3))) aNil)))) (sSeq (sSetI 0 (eC (.int 0)) (eBin fAdd (eVar 2) (eC (.int 1))))
  (sRet (eBin fMod (eBlt cInt (aCons (eBin fIx (eBin fIx (eVar 0) (eC (.int 3))) (eVar 2)) aNil)) (eVar 1)))) sNx)
  (sSeq (sSetI 0 (eC (.int 1)) (eBin fMod (eBlt cInt (aCons (eBin fAdd (eBin fMul (eBin fIx (eVar 0) (eC (.int 1))) (eC (.int 48271))) (eC (.int 12345))) aNil)) (eC (.int 2147483647))))
  (sSeq (sSetI 0 (eC (.int 2)) (eBin fMod (eBlt cInt (aCons (eBin fAdd (eBin fMul (eBin fIx (eVar 0) (eC (.int 2))) (eC (.int 69621))) (eC (.int 777))) aNil)) (eC (.int 2147483629))))
  (sRet (eBin fMod (eBlt cInt (aCons (eBin fAdd (eBin fDiv (eBin fIx (eVar 0) (eC (.int 1))) (eC (.int 64))) (eBin fDiv (eBin fIx (eVar 0) (eC (.int 2))) (eC (.int 128)))) aNil)) (eVar 1)))))))
def f_law_next : Fn := fnS 2 3 b_law_next
/-- _law_mixed(_law_draw_here, _law_members): slots 0=_law_draw_here 1=_law_members 2=_law_text 3=_law_sign 4=_law_many 5=_law_k 6=_law_at -/
def b_law_mixed : S := (sSeq (sAsg 2 (eC (.str [])))
  (sSeq (sFor (iSq (eVar 1)) (gN 3) (sSeq (sAsg 6 (eCall f_law_next [true, false] (aCons (eVar 0) (aCons (eBin fAdd (eBlt cLen (aCons (eVar 2) aNil)) (eC (.int 1))) aNil))))
  (sAsg 2 (eAdd (eAdd (eSl fSlA (eVar 2) oNo (oSome (eVar 6))) (eVar 3)) (eSl fSlA (eVar 2) (oSome (eVar 6)) oNo)))))
  (sSeq (sAsg 4 (eBin fIx (eLst (aCons (eC (.int 0)) (aCons (eC (.int 1)) (aCons (eC (.int 2)) (aCons (eC (.int 5)) (aCons (eC (.int 60)) (aCons (eC (.int 200)) aNil))))))) (eCall f_law_next [true, false] (aCons (eVar 0) (aCons (eC (.int 6)) aNil)))))
  (sSeq (sIf (tE (eBin fEq (eVar 1) (eC (.str [])))) (sAsg 4 (eC (.int 0))) sNx)
  (sSeq (sFor (iR1 (aCons (eVar 4) aNil)) (gN 5) (sSeq (sAsg 6 (eCall f_law_next [true, false] (aCons (eVar 0) (aCons (eBin fAdd (eBlt cLen (aCons (eVar 2) aNil)) (eC (.int 1))) aNil))))
  (sAsg 2 (eAdd (eAdd (eSl fSlA (eVar 2) oNo (oSome (eVar 6))) (eBin fIx (eVar 1) (eCall f_law_next [true, false] (aCons (eVar 0) (aCons (eBlt cLen (aCons (eVar 1) aNil)) aNil))))) (eSl fSlA (eVar 2) (oSome (eVar 6)) oNo)))))
  (sRet (eVar 2)))))))
def f_law_mixed : Fn := fnS 2 7 b_law_mixed
/-- _law_signs(): slots 0=_law_signs_here -/
def b_law_signs : S := (sSeq (sAsg 0 (eC (.str tx_0123456789abcd)))
  (sRet (eBin fAdd (eVar 0) (eC (.str tx_abcdefghijklmn)))))
def f_law_signs : Fn := fnS 0 1 b_law_signs
/-- _law_subset(_law_draw_here): slots 0=_law_draw_here 1=_law_signs_here 2=_law_choice 3=_law_many 4=_law_low 5=_law_few 6=_law_k 7=_law_sign -/
def b_law_subset : S := (sSeq (sAsg 1 (eCall f_law_signs [] aNil))
  (sSeq (sAsg 2 (eCall f_law_next [true, false] (aCons (eVar 0) (aCons (eC (.int 8)) aNil))))
  (sSeq (sIf (tE (eBin fEq (eVar 2) (eC (.int 0)))) (sRet (eBin fIx (eLst (aCons (eC (.str [])) (aCons (eVar 1) (aCons (eSl fSlA (eVar 1) oNo (oSome (eC (.int 1)))) (aCons (eSl fSlA (eVar 1) (oSome (eC (.int 95))) oNo) (aCons (eSl fSlA (eVar 1) (oSome (eC (.int 1))) oNo) (aCons (eSl fSlA (eVar 1) oNo (oSome (eC (.int 95)))) aNil))))))) (eCall f_law_next [true, false] (aCons (eVar 0) (aCons (eC (.int 6)) aNil))))) sNx)
  (sSeq (sIf (tE (eBin fLt (eVar 2) (eC (.int 3)))) (sSeq (sAsg 4 (eCall f_law_next [true, false] (aCons (eVar 0) (aCons (eC (.int 96)) aNil))))
  (sRet (eSl fSlA (eVar 1) (oSome (eVar 4)) (oSome (eBin fAdd (eBin fAdd (eVar 4) (eC (.int 1))) (eCall f_law_next [true, false] (aCons (eVar 0) (aCons (eC (.int 96)) aNil)))))))) sNx)
  (sSeq (sIf (tE (eBin fLt (eVar 2) (eC (.int 5)))) (sSeq (sAsg 5 (eLc [6] (iR1 (aCons (eBin fAdd (eC (.int 1)) (eCall f_law_next [true, false] (aCons (eVar 0) (aCons (eC (.int 6)) aNil)))) aNil)) (gN 6) tYesM (eBin fIx (eVar 1) (eCall f_law_next [true, false] (aCons (eVar 0) (aCons (eC (.int 96)) aNil))))))
  (sRet (eMet fJoin (eC (.str [])) (aCons (eLc [7] (iSq (eVar 1)) (gN 7) (tE (eBin fIn (eVar 7) (eVar 5))) (eVar 7)) aNil)))) sNx)
  (sSeq (sAsg 3 (eBin fSub (eVar 2) (eC (.int 3))))
  (sRet (eMet fJoin (eC (.str [])) (aCons (eLc [7] (iSq (eVar 1)) (gN 7) (tE (eBin fEq (eCall f_law_next [true, false] (aCons (eVar 0) (aCons (eVar 3) aNil))) (eC (.int 0)))) (eVar 7)) aNil)))))))))
def f_law_subset : Fn := fnS 1 8 b_law_subset
/-- _law_near(_law_draw_here, _law_first): slots 0=_law_draw_here 1=_law_first 2=_law_signs_here 3=_law_choice 4=_law_rest 5=_law_turned 6=_law_gone 7=_law_come 8=_law_sign -/
def b_law_near : S := (sSeq (sAsg 2 (eCall f_law_signs [] aNil))
  (sSeq (sAsg 3 (eCall f_law_next [true, false] (aCons (eVar 0) (aCons (eC (.int 10)) aNil))))
  (sSeq (sAsg 4 (eMet fJoin (eC (.str [])) (aCons (eLc [8] (iSq (eVar 2)) (gN 8) (tE (eBin fNi (eVar 8) (eVar 1))) (eVar 8)) aNil)))
  (sSeq (sIf (tE (eBin fEq (eVar 3) (eC (.int 0)))) (sRet (eVar 1)) sNx)
  (sSeq (sIf (tE (eBin fEq (eVar 3) (eC (.int 1)))) (sRet (eVar 4)) sNx)
  (sSeq (sIf (tE (eBin fEq (eVar 3) (eC (.int 2)))) (sSeq (sAsg 5 (eBin fIx (eVar 2) (eCall f_law_next [true, false] (aCons (eVar 0) (aCons (eC (.int 96)) aNil)))))
  (sRet (eMet fJoin (eC (.str [])) (aCons (eLc [8] (iSq (eVar 2)) (gN 8) (tE (eBin fNe (eBin fIn (eVar 8) (eVar 1)) (eBin fEq (eVar 8) (eVar 5)))) (eVar 8)) aNil)))) sNx)
  (sSeq (sIf (tAnd (tE (eBin fEq (eVar 3) (eC (.int 3)))) (tAnd (tE (eBin fNe (eVar 1) (eC (.str [])))) (tE (eBin fNe (eVar 4) (eC (.str [])))))) (sSeq (sAsg 6 (eBin fIx (eVar 1) (eCall f_law_next [true, false] (aCons (eVar 0) (aCons (eBlt cLen (aCons (eVar 1) aNil)) aNil)))))
  (sSeq (sAsg 7 (eBin fIx (eVar 4) (eCall f_law_next [true, false] (aCons (eVar 0) (aCons (eBlt cLen (aCons (eVar 4) aNil)) aNil)))))
  (sRet (eMet fJoin (eC (.str [])) (aCons (eLc [8] (iSq (eVar 2)) (gN 8) (tOr (tE (eBin fEq (eVar 8) (eVar 7))) (tAnd (tE (eBin fIn (eVar 8) (eVar 1))) (tE (eBin fNe (eVar 8) (eVar 6))))) (eVar 8)) aNil))))) sNx)
  (sSeq (sIf (tE (eBin fEq (eVar 3) (eC (.int 4)))) (sRet (eMet fJoin (eC (.str [])) (aCons (eLc [8] (iSq (eVar 1)) (gN 8) (tE (eBin fEq (eCall f_law_next [true, false] (aCons (eVar 0) (aCons (eC (.int 2)) aNil))) (eC (.int 0)))) (eVar 8)) aNil))) sNx)
  (sRet (eCall f_law_subset [true] (aCons (eVar 0) aNil)))))))))))
def f_law_near : Fn := fnS 2 9 b_law_near
/-- _law_told(_law_found, _law_due): slots 0=_law_found 1=_law_due -/
def b_law_told : S := (sRet (eAnd (eUn (fIsi "bool") (eVar 0)) (eBin fEq (eVar 0) (eVar 1))))
def f_law_told : Fn := fnS 2 2 b_law_told
/-- least(self): slots 0=self -/
def b_SignSet_least : S := (sSeq (sIf (tE (eBin fEq (eUn (fAt "SignSet" "_signs") (eVar 0)) (eC (.str [])))) (sRet (eC .non)) sNx)
  (sRet (eBin fIx (eUn (fAt "SignSet" "_signs") (eVar 0)) (eC (.int 0)))))
def f_SignSet_least : Fn := fnS 1 1 b_SignSet_least
/-- members(self): slots 0=self -/
def b_SignSet_members : S := (sRet (eUn (fAt "SignSet" "_signs") (eVar 0)))
def f_SignSet_members : Fn := fnS 1 1 b_SignSet_members
/-- ranges(self): slots 0=self 1=signs 2=firsts 3=lasts 4=sign -/
def b_SignSet_ranges : S := (sSeq (sAsg 1 (eUn (fAt "SignSet" "_signs") (eVar 0)))
  (sSeq (sAsg 2 (eLc [4] (iSq (eVar 1)) (gN 4) (tOr (tE (eBin fEq (eCall f_rank [] (aCons (eVar 4) aNil)) (eC (.int 0)))) (tE (eBin fNi (eBin fIx (eC (.str c_SIGNS)) (eBin fSub (eCall f_rank [] (aCons (eVar 4) aNil)) (eC (.int 1)))) (eVar 1)))) (eVar 4)))
  (sSeq (sAsg 3 (eLc [4] (iSq (eVar 1)) (gN 4) (tOr (tE (eBin fEq (eCall f_rank [] (aCons (eVar 4) aNil)) (eBin fSub (eBlt cLen (aCons (eC (.str c_SIGNS)) aNil)) (eC (.int 1))))) (tE (eBin fNi (eBin fIx (eC (.str c_SIGNS)) (eBin fAdd (eCall f_rank [] (aCons (eVar 4) aNil)) (eC (.int 1)))) (eVar 1)))) (eVar 4)))
  (sRet (eLZ (aCons (eVar 2) (aCons (eVar 3) aNil)))))))
def f_SignSet_ranges : Fn := fnS 1 5 b_SignSet_ranges
/-- _law_runs(_law_members): slots 0=_law_members 1=_law_signs_here 2=_law_runs_here 3=_law_sign -/
def b_law_runs : S := (sSeq (sAsg 1 (eCall f_law_signs [] aNil))
  (sSeq (sAsg 2 (eLst aNil))
  (sSeq (sFor (iSq (eVar 0)) (gN 3) (sIf (tAnd (tE (eBin fGt (eBlt cLen (aCons (eVar 2) aNil)) (eC (.int 0)))) (tE (eBin fEq (eBin fAdd (eMet fFind (eVar 1) (aCons (eBin fIx (eBin fIx (eVar 2) (eUn fNeg (eC (.int 1)))) (eC (.int 1))) aNil)) (eC (.int 1))) (eMet fFind (eVar 1) (aCons (eVar 3) aNil))))) (sSetI 2 (eUn fNeg (eC (.int 1))) (eTup (aCons (eBin fIx (eBin fIx (eVar 2) (eUn fNeg (eC (.int 1)))) (eC (.int 0))) (aCons (eVar 3) aNil)))) (sApp 2 (eTup (aCons (eVar 3) (aCons (eVar 3) aNil))))))
  (sRet (eVar 2)))))
def f_law_runs : Fn := fnS 1 4 b_law_runs
/-- _law_same_runs(_law_found, _law_due): slots 0=_law_found 1=_law_due 2=_law_k 3=_law_pair -/
def b_law_same_runs : S := (sSeq (sIf (tOr (tNot (tE (eUn (fIsi "list") (eVar 0)))) (tE (eBin fNe (eBlt cLen (aCons (eVar 0) aNil)) (eBlt cLen (aCons (eVar 1) aNil))))) (sRet (eC (.bl false))) sNx)
  (sSeq (sFor (iR1 (aCons (eBlt cLen (aCons (eVar 1) aNil)) aNil)) (gN 2) (sSeq (sAsg 3 (eBin fIx (eVar 0) (eVar 2)))
  (sSeq (sIf (tOr (tNot (tE (eUn (fIsi "tuple") (eVar 3)))) (tE (eBin fNe (eBlt cLen (aCons (eVar 3) aNil)) (eC (.int 2))))) (sRet (eC (.bl false))) sNx)
  (sIf (tOr (tNot (tE (eUn (fIsi "str") (eBin fIx (eVar 3) (eC (.int 0)))))) (tOr (tNot (tE (eUn (fIsi "str") (eBin fIx (eVar 3) (eC (.int 1)))))) (tE (eBin fNe (eVar 3) (eBin fIx (eVar 1) (eVar 2)))))) (sRet (eC (.bl false))) sNx))))
  (sRet (eC (.bl true)))))
def f_law_same_runs : Fn := fnS 2 4 b_law_same_runs
/-- __len__(self): slots 0=self -/
def b_SignSet_len : S := (sRet (eBlt cLen (aCons (eUn (fAt "SignSet" "_signs") (eVar 0)) aNil)))
def f_SignSet_len : Fn := fnS 1 1 b_SignSet_len
/-- _law_walked(_law_found, _law_due): slots 0=_law_found 1=_law_due 2=_law_listed 3=_law_at 4=_law_sign 5=_law_inner 6=_law_other -/
def b_law_walked : S := (sSeq (sAsg 2 (eNewO "SignSet" "_signs" f_SignSet_len (eVar 0)))
  (sSeq (sIf (tOr (tE (eBin fNe (eVar 2) (eLc [4] (iSq (eVar 1)) (gN 4) tYesM (eVar 4)))) (tE (eBin fNe (eBlt (cLenO "SignSet" f_SignSet_len) (aCons (eVar 0) aNil)) (eBlt (cLenO "SignSet" f_SignSet_len) (aCons (eVar 1) aNil))))) (sRet (eC (.bl false))) sNx)
  (sSeq (sApp 2 (eC (.str [97])))
  (sSeq (sSetI 2 (eC (.int 0)) (eC (.str [126])))
  (sSeq (sAsg 3 (eC (.int 0)))
  (sSeq (sFor (iOwn "SignSet" "_signs" (eVar 0)) (gN 4) (sSeq (sIf (tOr (tE (eBin fGe (eVar 3) (eBlt (cLenO "SignSet" f_SignSet_len) (aCons (eVar 1) aNil)))) (tOr (tNot (tE (eUn (fIsi "str") (eVar 4)))) (tE (eBin fNe (eVar 4) (eBin fIx (eVar 1) (eVar 3)))))) (sRet (eC (.bl false))) sNx)
  (sSeq (sAsg 3 (eBin fAdd (eVar 3) (eC (.int 1))))
  (sIf (tE (eBin fLt (eVar 3) (eC (.int 4)))) (sSeq (sAsg 5 (eC (.str [])))
  (sSeq (sFor (iOwn "SignSet" "_signs" (eVar 0)) (gN 6) (sAsg 5 (eAdd (eVar 5) (eVar 6))))
  (sIf (tE (eBin fNe (eVar 5) (eVar 1))) (sRet (eC (.bl false))) sNx))) sNx))))
  (sRet (eBin fEq (eVar 3) (eBlt (cLenO "SignSet" f_SignSet_len) (aCons (eVar 1) aNil))))))))))
def f_law_walked : Fn := fnS 2 7 b_law_walked
/-- _law_views(_law_found, _law_due): slots 0=_law_found 1=_law_due 2=_law_runs_here -/
def b_law_views : S := (sSeq (sIf (tOr (tNot (tE (eUn (fIsC "SignSet") (eVar 0)))) (tOr (tNot (tE (eUn (fIsi "str") (eProp "SignSet" f_SignSet_members (eVar 0))))) (tE (eBin fNe (eProp "SignSet" f_SignSet_members (eVar 0)) (eVar 1))))) (sRet (eC (.bl false))) sNx)
  (sSeq (sIf (tAnd (tE (eBin fEq (eVar 1) (eC (.str [])))) (tE (eBin fNt (eProp "SignSet" f_SignSet_least (eVar 0)) (eC .non)))) (sRet (eC (.bl false))) sNx)
  (sSeq (sIf (tAnd (tE (eBin fNe (eVar 1) (eC (.str [])))) (tOr (tNot (tE (eUn (fIsi "str") (eProp "SignSet" f_SignSet_least (eVar 0))))) (tE (eBin fNe (eProp "SignSet" f_SignSet_least (eVar 0)) (eBin fIx (eVar 1) (eC (.int 0))))))) (sRet (eC (.bl false))) sNx)
  (sSeq (sAsg 2 (eProp "SignSet" f_SignSet_ranges (eVar 0)))
  (sSeq (sIf (tNot (tE (eCallL f_law_same_runs [true, false] (aCons (eVar 2) (aCons (eCall f_law_runs [] (aCons (eVar 1) aNil)) aNil))))) (sRet (eC (.bl false))) sNx)
  (sSeq (sApp 2 (eTup (aCons (eC (.str [97])) (aCons (eC (.str [98])) aNil))))
  (sSeq (sSetI 2 (eC (.int 0)) (eTup (aCons (eC (.str [126])) (aCons (eC (.str [97])) aNil))))
  (sRet (eAnd (eCall f_law_same_runs [] (aCons (eProp "SignSet" f_SignSet_ranges (eVar 0)) (aCons (eCall f_law_runs [] (aCons (eVar 1) aNil)) aNil))) (eCall f_law_walked [] (aCons (eVar 0) (aCons (eVar 1) aNil))))))))))))
def f_law_views : Fn := fnS 2 3 b_law_views
/-- law(_law_script): slots 0=_law_script 1=_law_draw_here 2=_law_signs_here 3=_law_first 4=_law_second 5=_law_a 6=_law_again 7=_law_b 8=_law_low 9=_law_high 10=_law_run 11=_law_k 12=_law_sign -/
def b_law : S := (sSeq (sAsg 1 (eCall f_law_draw [] (aCons (eVar 0) aNil)))
  (sSeq (sAsg 2 (eCall f_law_signs [] aNil))
  (sSeq (sAsg 3 (eCall f_law_subset [true] (aCons (eVar 1) aNil)))
  (sSeq (sAsg 4 (eCall f_law_near [true, false] (aCons (eVar 1) (aCons (eVar 3) aNil))))
  (sSeq (sAsg 5 (eMake "SignSet" g_SignSet (aCons (eCall f_law_mixed [true, false] (aCons (eVar 1) (aCons (eVar 3) aNil))) aNil)))
  (sSeq (sAsg 6 (eMake "SignSet" g_SignSet (aCons (eCall f_law_mixed [true, false] (aCons (eVar 1) (aCons (eVar 3) aNil))) aNil)))
  (sSeq (sAsg 7 (eMake "SignSet" g_SignSet (aCons (eCall f_law_mixed [true, false] (aCons (eVar 1) (aCons (eVar 4) aNil))) aNil)))
  (sSeq (sAsg 8 (eCall f_law_next [true, false] (aCons (eVar 1) (aCons (eC (.int 96)) aNil))))
  (sSeq (sAsg 9 (eBin fIx (eLst (aCons (eVar 8) (aCons (eBin fMod (eBlt cInt (aCons (eBin fAdd (eVar 8) (eC (.int 1))) aNil)) (eC (.int 96))) (aCons (eBin fMod (eBlt cInt (aCons (eBin fAdd (eVar 8) (eC (.int 95))) aNil)) (eC (.int 96))) (aCons (eCall f_law_next [true, false] (aCons (eVar 1) (aCons (eC (.int 96)) aNil))) aNil))))) (eCall f_law_next [true, false] (aCons (eVar 1) (aCons (eC (.int 4)) aNil)))))
  (sSeq (sAsg 10 (eCall f_SignSet_between [] (aCons (eBin fIx (eVar 2) (eVar 8)) (aCons (eBin fIx (eVar 2) (eVar 9)) aNil))))
  (sSeq (sFor (iR1 (aCons (eC (.int 2)) aNil)) (gN 11) (sSeq (sIf (tOr (tNot (tE (eCall f_law_views [] (aCons (eVar 5) (aCons (eVar 3) aNil))))) (tOr (tNot (tE (eCall f_law_views [] (aCons (eVar 6) (aCons (eVar 3) aNil))))) (tNot (tE (eCall f_law_views [] (aCons (eVar 7) (aCons (eVar 4) aNil))))))) (sRet (eC (.bl false))) sNx)
  (sSeq (sIf (tOr (tNot (tE (eCall f_law_views [] (aCons (eVar 10) (aCons (eSl fSlA (eVar 2) (oSome (eVar 8)) (oSome (eBin fAdd (eVar 9) (eC (.int 1))))) aNil))))) (tNot (tE (eCall f_law_views [] (aCons (eMake "SignSet" g_SignSet (aDef aNil [.str []])) (aCons (eC (.str [])) aNil)))))) (sRet (eC (.bl false))) sNx)
  (sSeq (sIf (tOr (tNot (tE (eCall f_law_told [] (aCons (eBin (orF (orF fEq (fOwnEq "SignSet" f_SignSet_eq)) (fOwnEqL "SignSet" f_SignSet_eq)) (eVar 5) (eVar 6)) (aCons (eC (.bl true)) aNil))))) (tOr (tNot (tE (eCall f_law_told [] (aCons (eBin (orF (orF fEq (fOwnEq "SignSet" f_SignSet_eq)) (fOwnEqL "SignSet" f_SignSet_eq)) (eVar 5) (eVar 5)) (aCons (eC (.bl true)) aNil))))) (tNot (tE (eCall f_law_told [] (aCons (eBin (orF (orF fEq (fOwnEq "SignSet" f_SignSet_eq)) (fOwnEqL "SignSet" f_SignSet_eq)) (eVar 5) (eVar 7)) (aCons (eBin (orF (orF fEq (fOwnEq "SignSet" f_SignSet_eq)) (fOwnEqL "SignSet" f_SignSet_eq)) (eVar 3) (eVar 4)) aNil))))))) (sRet (eC (.bl false))) sNx)
  (sSeq (sIf (tOr (tNot (tE (eCall f_law_told [] (aCons (eBin (orF (orF fEq (fOwnEq "SignSet" f_SignSet_eq)) (fOwnEqL "SignSet" f_SignSet_eq)) (eVar 7) (eVar 5)) (aCons (eBin (orF (orF fEq (fOwnEq "SignSet" f_SignSet_eq)) (fOwnEqL "SignSet" f_SignSet_eq)) (eVar 3) (eVar 4)) aNil))))) (tNot (tE (eCall f_law_told [] (aCons (eBin (orF (orF fEq (fOwnEq "SignSet" f_SignSet_eq)) (fOwnEqL "SignSet" f_SignSet_eq)) (eVar 5) (eVar 10)) (aCons (eBin (orF (orF fEq (fOwnEq "SignSet" f_SignSet_eq)) (fOwnEqL "SignSet" f_SignSet_eq)) (eVar 3) (eSl fSlA (eVar 2) (oSome (eVar 8)) (oSome (eBin fAdd (eVar 9) (eC (.int 1)))))) aNil)))))) (sRet (eC (.bl false))) sNx)
  (sSeq (sIf (tOr (tNot (tE (eCall f_law_told [] (aCons (eBin (orF (orF fEq (fOwnEq "SignSet" f_SignSet_eq)) (fOwnEqL "SignSet" f_SignSet_eq)) (eVar 5) (eVar 3)) (aCons (eC (.bl false)) aNil))))) (tNot (tE (eCall f_law_told [] (aCons (eBin (orF (orF fEq (fOwnEq "SignSet" f_SignSet_eq)) (fOwnEqL "SignSet" f_SignSet_eq)) (eVar 5) (eLc [12] (iSq (eVar 3)) (gN 12) tYesM (eVar 12))) (aCons (eC (.bl false)) aNil)))))) (sRet (eC (.bl false))) sNx)
  (sSeq (sIf (tOr (tNot (tE (eCall f_law_told [] (aCons (eMeth "SignSet" "within" f_SignSet_within (eVar 5) (aCons (eVar 7) aNil)) (aCons (eCall f_law_inside [] (aCons (eVar 3) (aCons (eVar 4) aNil))) aNil))))) (tNot (tE (eCall f_law_told [] (aCons (eMeth "SignSet" "within" f_SignSet_within (eVar 7) (aCons (eVar 5) aNil)) (aCons (eCall f_law_inside [] (aCons (eVar 4) (aCons (eVar 3) aNil))) aNil)))))) (sRet (eC (.bl false))) sNx)
  (sSeq (sIf (tOr (tNot (tE (eCall f_law_told [] (aCons (eMeth "SignSet" "within" f_SignSet_within (eVar 5) (aCons (eVar 6) aNil)) (aCons (eC (.bl true)) aNil))))) (tNot (tE (eCall f_law_told [] (aCons (eMeth "SignSet" "within" f_SignSet_within (eMake "SignSet" g_SignSet (aDef aNil [.str []])) (aCons (eVar 5) aNil)) (aCons (eC (.bl true)) aNil)))))) (sRet (eC (.bl false))) sNx)
  (sIf (tOr (tNot (tE (eCall f_law_told [] (aCons (eMeth "SignSet" "within" f_SignSet_within (eVar 5) (aCons (eMake "SignSet" g_SignSet (aDef aNil [.str []])) aNil)) (aCons (eBin (orF (orF fEq (fOwnEq "SignSet" f_SignSet_eq)) (fOwnEqL "SignSet" f_SignSet_eq)) (eVar 3) (eC (.str []))) aNil))))) (tNot (tE (eCall f_law_told [] (aCons (eMeth "SignSet" "within" f_SignSet_within (eVar 5) (aCons (eVar 10) aNil)) (aCons (eCall f_law_inside [] (aCons (eVar 3) (aCons (eSl fSlA (eVar 2) (oSome (eVar 8)) (oSome (eBin fAdd (eVar 9) (eC (.int 1))))) aNil))) aNil)))))) (sRet (eC (.bl false))) sNx)))))))))
  (sRet (eC (.bl true))))))))))))))
def f_law : Fn := fnS 1 13 b_law
end K01
open Sw L2
local macro_rules | `(tactic| walk_at "fn") => `(tactic| (fail))
local macro_rules | `(tactic| walk_at "s1") => `(tactic| (first | ((with_reducible refine gEv ?_); (first | ((with_reducible refine' ev_tAnd_d ?s0 ?s1 ?_); (case s0 => (intro Q q; walk_at "g"; (first | exact q | exact toD_n q | exact toD_t q | exact toD_f q | exact toD_b q))); (case s1 => (intro hp Q q; walk_at "g"; (first | exact q | exact toD_n q | exact toD_t q | exact toD_f q | exact toD_b q)))) | ((with_reducible refine' ev_tOr_d ?s0 ?s1 ?_); (case s0 => (intro Q q; walk_at "g"; (first | exact q | exact toD_n q | exact toD_t q | exact toD_f q | exact toD_b q))); (case s1 => (intro hp Q q; walk_at "g"; (first | exact q | exact toD_n q | exact toD_t q | exact toD_f q | exact toD_b q)))) | with_reducible refine ev_c ?_ | ((with_reducible refine' ev_vd ?s0 ?_); (case s0 => (rfl))) | ((with_reducible refine' ev_vo ?s0 ?_); (case s0 => (rfl))) | ((with_reducible refine' ev_vi ?s0 ?_); (case s0 => (rfl))) | with_reducible refine ev_bin ?_ | with_reducible refine ev_add ?_ | with_reducible refine ev_un ?_ | with_reducible refine ev_anil ?_ | with_reducible refine ev_acons ?_ | with_reducible refine ev_blt ?_ | with_reducible refine ev_met ?_ | with_reducible refine ev_ono ?_ | with_reducible refine ev_osome ?_ | with_reducible refine ev_sl ?_ | with_reducible refine ev_tup ?_ | with_reducible refine ev_lst ?_ | with_reducible refine ev_tE ?_ | with_reducible refine ev_tyes ?_ | with_reducible refine ev_tAnd ?_ | with_reducible refine ev_tOr ?_ | with_reducible refine ev_tNot ?_ | with_reducible refine ev_eAnd ?_ | with_reducible refine ev_eOr ?_ | with_reducible refine ev_eNot ?_ | with_reducible refine ev_eIf ?_ | with_reducible refine ev_chain ?_ | with_reducible refine ev_call ?_ | with_reducible refine ev_prop ?_ | with_reducible refine ev_meth ?_)) | ((with_reducible refine gGiv ?_); (first | ((with_reducible refine' giv_mod ?s0 ?_); (case s0 => (first | assumption | decide | omega | (show _ ≤ 16777216; omega) | (show _ < 16777216; omega) | (simp only [List.length_append, List.length_cons, List.length_nil, List.length_replicate, List.length_map, List.length_take, List.length_drop, List.length_dropLast]; first | omega | (show _ ≤ 16777216; omega))))) | ((with_reducible refine' giv_div ?s0 ?_); (case s0 => (first | assumption | decide | omega | (show _ ≤ 16777216; omega) | (show _ < 16777216; omega) | (simp only [List.length_append, List.length_cons, List.length_nil, List.length_replicate, List.length_map, List.length_take, List.length_drop, List.length_dropLast]; first | omega | (show _ ≤ 16777216; omega))))) | ((with_reducible refine' giv_mul ?s0 ?_); (case s0 => (first | assumption | exact cMul_r (by decide) | exact cMul_r (by omega)))) | ((with_reducible refine' giv_muls ?s0 ?_); (case s0 => (first | assumption | decide | omega | (show _ ≤ 16777216; omega) | (show _ < 16777216; omega) | (simp only [List.length_append, List.length_cons, List.length_nil, List.length_replicate, List.length_map, List.length_take, List.length_drop, List.length_dropLast]; first | omega | (show _ ≤ 16777216; omega))))) | ((with_reducible refine' giv_adds ?s0 ?_); (case s0 => (first | assumption | decide | omega | (show _ ≤ 16777216; omega) | (show _ < 16777216; omega) | (simp only [List.length_append, List.length_cons, List.length_nil, List.length_replicate, List.length_map, List.length_take, List.length_drop, List.length_dropLast]; first | omega | (show _ ≤ 16777216; omega))))) | ((with_reducible refine' giv_addl ?s0 ?_); (case s0 => (first | assumption | decide | omega | (show _ ≤ 16777216; omega) | (show _ < 16777216; omega) | (simp only [List.length_append, List.length_cons, List.length_nil, List.length_replicate, List.length_map, List.length_take, List.length_drop, List.length_dropLast]; first | omega | (show _ ≤ 16777216; omega))))) | ((with_reducible refine' giv_ixl ?s0 ?_); (case s0 => (first | assumption | rfl | exact atI_zero))) | ((with_reducible refine' giv_ixt ?s0 ?_); (case s0 => (first | assumption | rfl | exact atI_zero))) | ((with_reducible refine' giv_ixs ?s0 ?s1 ?_); (case s0 => (first | assumption | decide | omega | (show _ ≤ 16777216; omega) | (show _ < 16777216; omega) | (simp only [List.length_append, List.length_cons, List.length_nil, List.length_replicate, List.length_map, List.length_take, List.length_drop, List.length_dropLast]; first | omega | (show _ ≤ 16777216; omega)))); (case s1 => (first | assumption | rfl))) | ((with_reducible refine' giv_dr4 ?s0 ?_); (case s0 => (assumption))) | ((with_reducible refine' giv_slm1 ?s0 ?_); (case s0 => (first | assumption | decide | omega | (show _ ≤ 16777216; omega) | (show _ < 16777216; omega) | (simp only [List.length_append, List.length_cons, List.length_nil, List.length_replicate, List.length_map, List.length_take, List.length_drop, List.length_dropLast]; first | omega | (show _ ≤ 16777216; omega))))) | ((with_reducible refine' giv_slt ?s0 ?s1 ?_); (case s0 => (first | assumption | decide | omega | (show _ ≤ 16777216; omega) | (show _ < 16777216; omega) | (simp only [List.length_append, List.length_cons, List.length_nil, List.length_replicate, List.length_map, List.length_take, List.length_drop, List.length_dropLast]; first | omega | (show _ ≤ 16777216; omega)))); (case s1 => (first | assumption | decide | omega))) | ((with_reducible refine' giv_sld ?s0 ?s1 ?_); (case s0 => (first | assumption | decide | omega | (show _ ≤ 16777216; omega) | (show _ < 16777216; omega) | (simp only [List.length_append, List.length_cons, List.length_nil, List.length_replicate, List.length_map, List.length_take, List.length_drop, List.length_dropLast]; first | omega | (show _ ≤ 16777216; omega)))); (case s1 => (first | assumption | decide | omega))) | ((with_reducible refine' giv_slm ?s0 ?s1 ?s2 ?_); (case s0 => (first | assumption | decide | omega | (show _ ≤ 16777216; omega) | (show _ < 16777216; omega) | (simp only [List.length_append, List.length_cons, List.length_nil, List.length_replicate, List.length_map, List.length_take, List.length_drop, List.length_dropLast]; first | omega | (show _ ≤ 16777216; omega)))); (case s1 => (first | assumption | decide | omega)); (case s2 => (first | assumption | decide | omega))) | ((with_reducible refine' giv_sltl ?s0 ?_); (case s0 => (first | assumption | decide | omega))) | ((with_reducible refine' giv_sldl ?s0 ?_); (case s0 => (first | assumption | decide | omega))) | ((with_reducible refine' giv_sls ?s0 ?_); (case s0 => (first | assumption | decide | omega | (show _ ≤ 16777216; omega) | (show _ < 16777216; omega) | (simp only [List.length_append, List.length_cons, List.length_nil, List.length_replicate, List.length_map, List.length_take, List.length_drop, List.length_dropLast]; first | omega | (show _ ≤ 16777216; omega))))) | with_reducible refine giv_sll ?_ | ((with_reducible refine' giv_lens ?s0 ?_); (case s0 => (first | assumption | decide | omega | (show _ ≤ 16777216; omega) | (show _ < 16777216; omega) | (simp only [List.length_append, List.length_cons, List.length_nil, List.length_replicate, List.length_map, List.length_take, List.length_drop, List.length_dropLast]; first | omega | (show _ ≤ 16777216; omega))))) | ((with_reducible refine' giv_revs ?s0 ?_); (case s0 => (first | assumption | decide | omega | (show _ ≤ 16777216; omega) | (show _ < 16777216; omega) | (simp only [List.length_append, List.length_cons, List.length_nil, List.length_replicate, List.length_map, List.length_take, List.length_drop, List.length_dropLast]; first | omega | (show _ ≤ 16777216; omega))))) | ((with_reducible refine' giv_sldT ?s0 ?s1 ?_); (case s0 => (first | assumption | decide | omega)); (case s1 => (first | assumption | decide | omega))) | ((with_reducible refine' giv_sltT ?s0 ?s1 ?_); (case s0 => (first | assumption | decide | omega)); (case s1 => (first | assumption | decide | omega))) | with_reducible refine giv_A ?_ | with_reducible refine giv_tup ?_ | with_reducible refine giv_tupt ?_ | ((with_reducible refine' giv_str ?s0 ?_); (case s0 => (first | assumption | decide | omega))) | with_reducible refine giv_strN ?_ | with_reducible refine giv_strS ?_ | ((with_reducible refine' giv_at ?s0 ?_); (case s0 => (rfl))) | with_reducible refine giv_isC ?_ | ((with_reducible refine' giv_orr ?s0 ?_); (case s0 => (rfl))) | with_reducible refine giv_orl ?_ | ((with_reducible refine' giv_own2 ?s0 ?s1 ?_); (case s0 => (exact isOf_obj)); (case s1 => (exact isOf_obj))) | ((with_reducible refine' giv_own1 ?s0 ?_); (case s0 => (exact isOf_obj))) | ((with_reducible refine' giv_ownIn ?s0 ?s1 ?_); (case s0 => (exact isOf_obj)); (case s1 => (rfl))) | with_reducible refine giv r_add1 ?_ | with_reducible refine giv r_sub ?_ | with_reducible refine giv r_lt ?_ | with_reducible refine giv r_lts ?_ | with_reducible refine giv r_le ?_ | with_reducible refine giv r_gt ?_ | with_reducible refine giv r_ge ?_ | with_reducible refine giv r_eqi ?_ | with_reducible refine giv r_eqs ?_ | with_reducible refine giv r_eqb ?_ | with_reducible refine giv r_nei ?_ | with_reducible refine giv r_nes ?_ | with_reducible refine giv r_neb ?_ | with_reducible refine giv r_isb ?_ | with_reducible refine giv r_ntb ?_ | with_reducible refine giv r_ins ?_ | with_reducible refine giv r_nis ?_ | with_reducible refine giv r_neg ?_ | with_reducible refine giv r_len2 ?_ | with_reducible refine giv r_len3 ?_ | with_reducible refine giv r_int1 ?_ | with_reducible refine giv r_fFind ?_ | with_reducible refine giv r_rev1 ?_ | with_reducible refine giv r_fIsi1 ?_ | with_reducible refine giv r_fIsi2 ?_ | with_reducible refine giv r_fIsi3 ?_ | with_reducible refine giv r_fIsi4 ?_ | with_reducible refine giv r_fIsi5 ?_ | with_reducible refine giv r_fIsi6 ?_ | with_reducible refine giv r_min2 ?_ | with_reducible refine giv r_max2 ?_ | with_reducible refine giv r_min3 ?_ | with_reducible refine giv r_isn1 ?_ | with_reducible refine giv r_isn2 ?_ | with_reducible refine giv r_isn3 ?_ | with_reducible refine giv r_isn4 ?_ | with_reducible refine giv r_isn5 ?_ | with_reducible refine giv r_ntn1 ?_ | with_reducible refine giv r_ntn2 ?_ | with_reducible refine giv r_ntn3 ?_ | with_reducible refine giv r_ntn4 ?_ | with_reducible refine giv r_ntn5 ?_ | with_reducible refine giv r_eqn1 ?_ | with_reducible refine giv r_eqn2 ?_ | with_reducible refine giv q_isi_tuple_non ?_ | with_reducible refine giv q_isi_tuple_bl ?_ | with_reducible refine giv q_isi_tuple_int ?_ | with_reducible refine giv q_isi_tuple_str ?_ | with_reducible refine giv q_isi_tuple_lst ?_ | with_reducible refine giv q_isi_tuple_tup ?_ | with_reducible refine giv q_isi_list_non ?_ | with_reducible refine giv q_isi_list_bl ?_ | with_reducible refine giv q_isi_list_int ?_ | with_reducible refine giv q_isi_list_str ?_ | with_reducible refine giv q_isi_list_lst ?_ | with_reducible refine giv q_isi_list_tup ?_ | with_reducible refine giv q_isi_str_non ?_ | with_reducible refine giv q_isi_str_bl ?_ | with_reducible refine giv q_isi_str_int ?_ | with_reducible refine giv q_isi_str_str ?_ | with_reducible refine giv q_isi_str_lst ?_ | with_reducible refine giv q_isi_str_tup ?_ | with_reducible refine giv q_isi_int_non ?_ | with_reducible refine giv q_isi_int_bl ?_ | with_reducible refine giv q_isi_int_int ?_ | with_reducible refine giv q_isi_int_str ?_ | with_reducible refine giv q_isi_int_lst ?_ | with_reducible refine giv q_isi_int_tup ?_ | with_reducible refine giv q_isi_bool_non ?_ | with_reducible refine giv q_isi_bool_bl ?_ | with_reducible refine giv q_isi_bool_int ?_ | with_reducible refine giv q_isi_bool_str ?_ | with_reducible refine giv q_isi_bool_lst ?_ | with_reducible refine giv q_isi_bool_tup ?_ | ((with_reducible refine' giv ?s0 ?_); (case s0 => (first | exact (rfl : _ = some (D.bl true)) | exact (rfl : _ = some (D.bl false))))) | ((with_reducible refine' giv_ixs_all ?s0 ?s1 ?s2 ?_); (case s0 => (first | assumption | decide | omega | (show _ ≤ 16777216; omega) | (show _ < 16777216; omega) | (simp only [List.length_append, List.length_cons, List.length_nil, List.length_replicate, List.length_map, List.length_take, List.length_drop, List.length_dropLast]; first | omega | (show _ ≤ 16777216; omega)))); (case s1 => (first | assumption | decide | omega)); (case s2 => (first | assumption | (refine Int.lt_of_lt_of_le (by assumption) ?_; decide) | (show _ < (_ : Int); omega) | (simp only [List.length_append, List.length_cons, List.length_nil]; omega))); intro _ _))) | ((with_reducible refine gBrn ?_); (first | with_reducible refine brn_t ?_ | with_reducible refine brn_f ?_ | with_reducible refine brn_nT ?_ | with_reducible refine brn_nF ?_ | with_reducible refine brn_nn ?_ | ((with_reducible refine' brn_dt ?s0 ?_); (case s0 => decide)) | ((with_reducible refine' brn_df ?s0 ?_); (case s0 => decide)) | ((with_reducible refine' brn_nt ?s0 ?_); (case s0 => decide)) | ((with_reducible refine' brn_nf ?s0 ?_); (case s0 => decide)))) | ((with_reducible refine gFv ?_); (first | ((with_reducible refine' fv_nextE ?s0 ?s1 ?_); (case s0 => assumption); (case s1 => (first | assumption | decide | omega)); intro _ _ _ _ _; (try dsimp only [puts, put, agI, outsOf, slOf, List.set_cons_zero, List.set_cons_succ, List.getElem?_cons_zero, List.getElem?_cons_succ, wipeR, backR, Option.getD_some, stl])) | ((with_reducible refine' fv_drawE ?s0 ?_); (case s0 => assumption); intro _ _) | with_reducible refine fv_signs ?_ | (walk_at "fn"))) | with_reducible refine ret_z ?_ | with_reducible refine ret_r ?_ | ((with_reducible refine' ret_b ?s0 ?_); (case s0 => (rfl))) | ((with_reducible refine' see2 ?s0 ?s1 ?_); (case s0 => (rfl)); (case s1 => (rfl))) | ((with_reducible refine' see1 ?s0 ?_); (case s0 => (rfl))) | ((with_reducible refine' sees ?s0 ?_); (case s0 => (rfl))) | ((with_reducible refine' obp ?s0 ?_); (case s0 => (first | exact isOb_obj rfl | exact isOb_obj (by decide)))) | with_reducible refine fbp ?_ | with_reducible refine fzp ?_ | with_reducible refine isI ?_ | with_reducible refine isB ?_ | with_reducible refine isBD ?_ | ((with_reducible refine' frzs' ?s0 (And.intro ?s1 ?_)); (case s0 => rfl); (case s1 => (first | decide | simp)); (try dsimp only [puts, put, agI, outsOf, slOf, List.set_cons_zero, List.set_cons_succ, List.getElem?_cons_zero, List.getElem?_cons_succ, wipeR, backR, Option.getD_some, stl])) | ((with_reducible refine' arg ?s0 ?s1 ?s2 ?_); (case s0 => (rfl)); (case s1 => (rfl)); (case s2 => (first | exact List.nodup_nil | exact nodup1 | simp [agI])); (try dsimp only [puts, put, agI, outsOf, slOf, List.set_cons_zero, List.set_cons_succ, List.getElem?_cons_zero, List.getElem?_cons_succ, wipeR, backR, Option.getD_some, stl])) | ((with_reducible refine' ex_asg ?s0 ?_); (case s0 => (first | rfl | assumption)); (try dsimp only [puts, put, agI, outsOf, slOf, List.set_cons_zero, List.set_cons_succ, List.getElem?_cons_zero, List.getElem?_cons_succ, wipeR, backR, Option.getD_some, stl])) | ((with_reducible refine' ex_asg' ?s0 ?_); (case s0 => (first | rfl | assumption)); (try dsimp only [puts, put, agI, outsOf, slOf, List.set_cons_zero, List.set_cons_succ, List.getElem?_cons_zero, List.getElem?_cons_succ, wipeR, backR, Option.getD_some, stl])) | ((with_reducible refine' ex_asg'' ?s0 ?_); (case s0 => (rfl)); (try dsimp only [puts, put, agI, outsOf, slOf, List.set_cons_zero, List.set_cons_succ, List.getElem?_cons_zero, List.getElem?_cons_succ, wipeR, backR, Option.getD_some, stl])) | ((with_reducible refine' ex_asgT ?s0 ?_); (case s0 => (rfl)); (try dsimp only [puts, put, agI, outsOf, slOf, List.set_cons_zero, List.set_cons_succ, List.getElem?_cons_zero, List.getElem?_cons_succ, wipeR, backR, Option.getD_some, stl])) | ((with_reducible refine' nbw_z ?_); (try dsimp only [puts, put, agI, outsOf, slOf, List.set_cons_zero, List.set_cons_succ, List.getElem?_cons_zero, List.getElem?_cons_succ, wipeR, backR, Option.getD_some, stl])) | ((with_reducible refine' nbw_r ?_); (try dsimp only [puts, put, agI, outsOf, slOf, List.set_cons_zero, List.set_cons_succ, List.getElem?_cons_zero, List.getElem?_cons_succ, wipeR, backR, Option.getD_some, stl])) | with_reducible refine add2_i ?_ | ((with_reducible refine' add2_s ?s0 ?_); (case s0 => (first | assumption | decide | omega | (show _ ≤ 16777216; omega) | (show _ < 16777216; omega) | (simp only [List.length_append, List.length_cons, List.length_nil, List.length_replicate, List.length_map, List.length_take, List.length_drop, List.length_dropLast]; first | omega | (show _ ≤ 16777216; omega))))) | ((with_reducible refine' add2_l ?s0 ?_); (case s0 => (first | assumption | decide | omega | (show _ ≤ 16777216; omega) | (show _ < 16777216; omega) | (simp only [List.length_append, List.length_cons, List.length_nil, List.length_replicate, List.length_map, List.length_take, List.length_drop, List.length_dropLast]; first | omega | (show _ ≤ 16777216; omega))))) | ((with_reducible refine' add2_t ?s0 ?_); (case s0 => (first | assumption | decide | omega | (show _ ≤ 16777216; omega) | (show _ < 16777216; omega) | (simp only [List.length_append, List.length_cons, List.length_nil, List.length_replicate, List.length_map, List.length_take, List.length_drop, List.length_dropLast]; first | omega | (show _ ≤ 16777216; omega))))) | ((with_reducible refine' own_at ?s0 (And.intro ?s1 ?_)); (case s0 => rfl); (case s1 => exact ⟨_, by assumption⟩); intro _ _; (try dsimp only [puts, put, agI, outsOf, slOf, List.set_cons_zero, List.set_cons_succ, List.getElem?_cons_zero, List.getElem?_cons_succ, wipeR, backR, Option.getD_some, stl])) | ((with_reducible refine gSv ?_); (first | with_reducible refine sv_asg_s ?_ | with_reducible refine sv_nx_s ?_ | with_reducible refine sv_if_s ?_ | with_reducible refine sv_ret_s ?_ | with_reducible refine sv_seq_s ?_ | with_reducible refine sv_drop_s ?_ | ((with_reducible refine' sv_app_s ?s0 ?_); (case s0 => (rfl))) | ((with_reducible refine' sv_app_l ?s0 ?_); (case s0 => (rfl))) | with_reducible refine sv_asg_l ?_ | with_reducible refine sv_if_l ?_ | with_reducible refine sv_ret_l ?_ | with_reducible refine sv_nx ?_ | with_reducible refine sv_asgT_s ?_ | with_reducible refine sv_asgT_l ?_ | with_reducible refine sv_set4_s ?_))))
local macro_rules | `(tactic| walk_at "s2") => `(tactic| (first | ((with_reducible refine gEv ?_); (first | ((with_reducible refine' ev_tAnd_d ?s0 ?s1 ?_); (case s0 => (intro Q q; walk_at "g"; (first | exact q | exact toD_n q | exact toD_t q | exact toD_f q | exact toD_b q))); (case s1 => (intro hp Q q; walk_at "g"; (first | exact q | exact toD_n q | exact toD_t q | exact toD_f q | exact toD_b q)))) | ((with_reducible refine' ev_tOr_d ?s0 ?s1 ?_); (case s0 => (intro Q q; walk_at "g"; (first | exact q | exact toD_n q | exact toD_t q | exact toD_f q | exact toD_b q))); (case s1 => (intro hp Q q; walk_at "g"; (first | exact q | exact toD_n q | exact toD_t q | exact toD_f q | exact toD_b q)))) | with_reducible refine ev_c ?_ | ((with_reducible refine' ev_vd ?s0 ?_); (case s0 => (rfl))) | ((with_reducible refine' ev_vo ?s0 ?_); (case s0 => (rfl))) | ((with_reducible refine' ev_vi ?s0 ?_); (case s0 => (rfl))) | with_reducible refine ev_bin ?_ | with_reducible refine ev_add ?_ | with_reducible refine ev_un ?_ | with_reducible refine ev_anil ?_ | with_reducible refine ev_acons ?_ | with_reducible refine ev_blt ?_ | with_reducible refine ev_met ?_ | with_reducible refine ev_ono ?_ | with_reducible refine ev_osome ?_ | with_reducible refine ev_sl ?_ | with_reducible refine ev_tup ?_ | with_reducible refine ev_lst ?_ | with_reducible refine ev_tE ?_ | with_reducible refine ev_tyes ?_ | with_reducible refine ev_tAnd ?_ | with_reducible refine ev_tOr ?_ | with_reducible refine ev_tNot ?_ | with_reducible refine ev_eAnd ?_ | with_reducible refine ev_eOr ?_ | with_reducible refine ev_eNot ?_ | with_reducible refine ev_eIf ?_ | with_reducible refine ev_chain ?_ | with_reducible refine ev_call ?_ | with_reducible refine ev_prop ?_ | with_reducible refine ev_meth ?_)) | ((with_reducible refine gGiv ?_); (first | ((with_reducible refine' giv_mod ?s0 ?_); (case s0 => (first | assumption | decide | omega | (show _ ≤ 16777216; omega) | (show _ < 16777216; omega) | (simp only [List.length_append, List.length_cons, List.length_nil, List.length_replicate, List.length_map, List.length_take, List.length_drop, List.length_dropLast]; first | omega | (show _ ≤ 16777216; omega))))) | ((with_reducible refine' giv_div ?s0 ?_); (case s0 => (first | assumption | decide | omega | (show _ ≤ 16777216; omega) | (show _ < 16777216; omega) | (simp only [List.length_append, List.length_cons, List.length_nil, List.length_replicate, List.length_map, List.length_take, List.length_drop, List.length_dropLast]; first | omega | (show _ ≤ 16777216; omega))))) | ((with_reducible refine' giv_mul ?s0 ?_); (case s0 => (first | assumption | exact cMul_r (by decide) | exact cMul_r (by omega)))) | ((with_reducible refine' giv_muls ?s0 ?_); (case s0 => (first | assumption | decide | omega | (show _ ≤ 16777216; omega) | (show _ < 16777216; omega) | (simp only [List.length_append, List.length_cons, List.length_nil, List.length_replicate, List.length_map, List.length_take, List.length_drop, List.length_dropLast]; first | omega | (show _ ≤ 16777216; omega))))) | ((with_reducible refine' giv_adds ?s0 ?_); (case s0 => (first | assumption | decide | omega | (show _ ≤ 16777216; omega) | (show _ < 16777216; omega) | (simp only [List.length_append, List.length_cons, List.length_nil, List.length_replicate, List.length_map, List.length_take, List.length_drop, List.length_dropLast]; first | omega | (show _ ≤ 16777216; omega))))) | ((with_reducible refine' giv_addl ?s0 ?_); (case s0 => (first | assumption | decide | omega | (show _ ≤ 16777216; omega) | (show _ < 16777216; omega) | (simp only [List.length_append, List.length_cons, List.length_nil, List.length_replicate, List.length_map, List.length_take, List.length_drop, List.length_dropLast]; first | omega | (show _ ≤ 16777216; omega))))) | ((with_reducible refine' giv_ixl ?s0 ?_); (case s0 => (first | assumption | rfl | exact atI_zero))) | ((with_reducible refine' giv_ixt ?s0 ?_); (case s0 => (first | assumption | rfl | exact atI_zero))) | ((with_reducible refine' giv_ixs ?s0 ?s1 ?_); (case s0 => (first | assumption | decide | omega | (show _ ≤ 16777216; omega) | (show _ < 16777216; omega) | (simp only [List.length_append, List.length_cons, List.length_nil, List.length_replicate, List.length_map, List.length_take, List.length_drop, List.length_dropLast]; first | omega | (show _ ≤ 16777216; omega)))); (case s1 => (first | assumption | rfl))) | ((with_reducible refine' giv_dr4 ?s0 ?_); (case s0 => (assumption))) | ((with_reducible refine' giv_slm1 ?s0 ?_); (case s0 => (first | assumption | decide | omega | (show _ ≤ 16777216; omega) | (show _ < 16777216; omega) | (simp only [List.length_append, List.length_cons, List.length_nil, List.length_replicate, List.length_map, List.length_take, List.length_drop, List.length_dropLast]; first | omega | (show _ ≤ 16777216; omega))))) | ((with_reducible refine' giv_slt ?s0 ?s1 ?_); (case s0 => (first | assumption | decide | omega | (show _ ≤ 16777216; omega) | (show _ < 16777216; omega) | (simp only [List.length_append, List.length_cons, List.length_nil, List.length_replicate, List.length_map, List.length_take, List.length_drop, List.length_dropLast]; first | omega | (show _ ≤ 16777216; omega)))); (case s1 => (first | assumption | decide | omega))) | ((with_reducible refine' giv_sld ?s0 ?s1 ?_); (case s0 => (first | assumption | decide | omega | (show _ ≤ 16777216; omega) | (show _ < 16777216; omega) | (simp only [List.length_append, List.length_cons, List.length_nil, List.length_replicate, List.length_map, List.length_take, List.length_drop, List.length_dropLast]; first | omega | (show _ ≤ 16777216; omega)))); (case s1 => (first | assumption | decide | omega))) | ((with_reducible refine' giv_slm ?s0 ?s1 ?s2 ?_); (case s0 => (first | assumption | decide | omega | (show _ ≤ 16777216; omega) | (show _ < 16777216; omega) | (simp only [List.length_append, List.length_cons, List.length_nil, List.length_replicate, List.length_map, List.length_take, List.length_drop, List.length_dropLast]; first | omega | (show _ ≤ 16777216; omega)))); (case s1 => (first | assumption | decide | omega)); (case s2 => (first | assumption | decide | omega))) | ((with_reducible refine' giv_sltl ?s0 ?_); (case s0 => (first | assumption | decide | omega))) | ((with_reducible refine' giv_sldl ?s0 ?_); (case s0 => (first | assumption | decide | omega))) | ((with_reducible refine' giv_sls ?s0 ?_); (case s0 => (first | assumption | decide | omega | (show _ ≤ 16777216; omega) | (show _ < 16777216; omega) | (simp only [List.length_append, List.length_cons, List.length_nil, List.length_replicate, List.length_map, List.length_take, List.length_drop, List.length_dropLast]; first | omega | (show _ ≤ 16777216; omega))))) | with_reducible refine giv_sll ?_ | ((with_reducible refine' giv_lens ?s0 ?_); (case s0 => (first | assumption | decide | omega | (show _ ≤ 16777216; omega) | (show _ < 16777216; omega) | (simp only [List.length_append, List.length_cons, List.length_nil, List.length_replicate, List.length_map, List.length_take, List.length_drop, List.length_dropLast]; first | omega | (show _ ≤ 16777216; omega))))) | ((with_reducible refine' giv_revs ?s0 ?_); (case s0 => (first | assumption | decide | omega | (show _ ≤ 16777216; omega) | (show _ < 16777216; omega) | (simp only [List.length_append, List.length_cons, List.length_nil, List.length_replicate, List.length_map, List.length_take, List.length_drop, List.length_dropLast]; first | omega | (show _ ≤ 16777216; omega))))) | ((with_reducible refine' giv_sldT ?s0 ?s1 ?_); (case s0 => (first | assumption | decide | omega)); (case s1 => (first | assumption | decide | omega))) | ((with_reducible refine' giv_sltT ?s0 ?s1 ?_); (case s0 => (first | assumption | decide | omega)); (case s1 => (first | assumption | decide | omega))) | with_reducible refine giv_A ?_ | with_reducible refine giv_tup ?_ | with_reducible refine giv_tupt ?_ | ((with_reducible refine' giv_str ?s0 ?_); (case s0 => (first | assumption | decide | omega))) | with_reducible refine giv_strN ?_ | with_reducible refine giv_strS ?_ | ((with_reducible refine' giv_at ?s0 ?_); (case s0 => (rfl))) | with_reducible refine giv_isC ?_ | ((with_reducible refine' giv_orr ?s0 ?_); (case s0 => (rfl))) | with_reducible refine giv_orl ?_ | ((with_reducible refine' giv_own2 ?s0 ?s1 ?_); (case s0 => (exact isOf_obj)); (case s1 => (exact isOf_obj))) | ((with_reducible refine' giv_own1 ?s0 ?_); (case s0 => (exact isOf_obj))) | ((with_reducible refine' giv_ownIn ?s0 ?s1 ?_); (case s0 => (exact isOf_obj)); (case s1 => (rfl))) | with_reducible refine giv r_add1 ?_ | with_reducible refine giv r_sub ?_ | with_reducible refine giv r_lt ?_ | with_reducible refine giv r_lts ?_ | with_reducible refine giv r_le ?_ | with_reducible refine giv r_gt ?_ | with_reducible refine giv r_ge ?_ | with_reducible refine giv r_eqi ?_ | with_reducible refine giv r_eqs ?_ | with_reducible refine giv r_eqb ?_ | with_reducible refine giv r_nei ?_ | with_reducible refine giv r_nes ?_ | with_reducible refine giv r_neb ?_ | with_reducible refine giv r_isb ?_ | with_reducible refine giv r_ntb ?_ | with_reducible refine giv r_ins ?_ | with_reducible refine giv r_nis ?_ | with_reducible refine giv r_neg ?_ | with_reducible refine giv r_len2 ?_ | with_reducible refine giv r_len3 ?_ | with_reducible refine giv r_int1 ?_ | with_reducible refine giv r_fFind ?_ | with_reducible refine giv r_rev1 ?_ | with_reducible refine giv r_fIsi1 ?_ | with_reducible refine giv r_fIsi2 ?_ | with_reducible refine giv r_fIsi3 ?_ | with_reducible refine giv r_fIsi4 ?_ | with_reducible refine giv r_fIsi5 ?_ | with_reducible refine giv r_fIsi6 ?_ | with_reducible refine giv r_min2 ?_ | with_reducible refine giv r_max2 ?_ | with_reducible refine giv r_min3 ?_ | with_reducible refine giv r_isn1 ?_ | with_reducible refine giv r_isn2 ?_ | with_reducible refine giv r_isn3 ?_ | with_reducible refine giv r_isn4 ?_ | with_reducible refine giv r_isn5 ?_ | with_reducible refine giv r_ntn1 ?_ | with_reducible refine giv r_ntn2 ?_ | with_reducible refine giv r_ntn3 ?_ | with_reducible refine giv r_ntn4 ?_ | with_reducible refine giv r_ntn5 ?_ | with_reducible refine giv r_eqn1 ?_ | with_reducible refine giv r_eqn2 ?_ | with_reducible refine giv q_isi_tuple_non ?_ | with_reducible refine giv q_isi_tuple_bl ?_ | with_reducible refine giv q_isi_tuple_int ?_ | with_reducible refine giv q_isi_tuple_str ?_ | with_reducible refine giv q_isi_tuple_lst ?_ | with_reducible refine giv q_isi_tuple_tup ?_ | with_reducible refine giv q_isi_list_non ?_ | with_reducible refine giv q_isi_list_bl ?_ | with_reducible refine giv q_isi_list_int ?_ | with_reducible refine giv q_isi_list_str ?_ | with_reducible refine giv q_isi_list_lst ?_ | with_reducible refine giv q_isi_list_tup ?_ | with_reducible refine giv q_isi_str_non ?_ | with_reducible refine giv q_isi_str_bl ?_ | with_reducible refine giv q_isi_str_int ?_ | with_reducible refine giv q_isi_str_str ?_ | with_reducible refine giv q_isi_str_lst ?_ | with_reducible refine giv q_isi_str_tup ?_ | with_reducible refine giv q_isi_int_non ?_ | with_reducible refine giv q_isi_int_bl ?_ | with_reducible refine giv q_isi_int_int ?_ | with_reducible refine giv q_isi_int_str ?_ | with_reducible refine giv q_isi_int_lst ?_ | with_reducible refine giv q_isi_int_tup ?_ | with_reducible refine giv q_isi_bool_non ?_ | with_reducible refine giv q_isi_bool_bl ?_ | with_reducible refine giv q_isi_bool_int ?_ | with_reducible refine giv q_isi_bool_str ?_ | with_reducible refine giv q_isi_bool_lst ?_ | with_reducible refine giv q_isi_bool_tup ?_ | ((with_reducible refine' giv ?s0 ?_); (case s0 => (first | exact (rfl : _ = some (D.bl true)) | exact (rfl : _ = some (D.bl false))))) | ((with_reducible refine' giv_ixs_all ?s0 ?s1 ?s2 ?_); (case s0 => (first | assumption | decide | omega | (show _ ≤ 16777216; omega) | (show _ < 16777216; omega) | (simp only [List.length_append, List.length_cons, List.length_nil, List.length_replicate, List.length_map, List.length_take, List.length_drop, List.length_dropLast]; first | omega | (show _ ≤ 16777216; omega)))); (case s1 => (first | assumption | decide | omega)); (case s2 => (first | assumption | (refine Int.lt_of_lt_of_le (by assumption) ?_; decide) | (show _ < (_ : Int); omega) | (simp only [List.length_append, List.length_cons, List.length_nil]; omega))); intro _ _))) | ((with_reducible refine gBrn ?_); (first | with_reducible refine brn_t ?_ | with_reducible refine brn_f ?_ | with_reducible refine brn_nT ?_ | with_reducible refine brn_nF ?_ | with_reducible refine brn_nn ?_ | ((with_reducible refine' brn_dt ?s0 ?_); (case s0 => decide)) | ((with_reducible refine' brn_df ?s0 ?_); (case s0 => decide)) | ((with_reducible refine' brn_nt ?s0 ?_); (case s0 => decide)) | ((with_reducible refine' brn_nf ?s0 ?_); (case s0 => decide)))) | ((with_reducible refine gFv ?_); (first | ((with_reducible refine' fv_nextE ?s0 ?s1 ?_); (case s0 => assumption); (case s1 => (first | assumption | decide | omega)); intro _ _ _ _ _; (try dsimp only [puts, put, agI, outsOf, slOf, List.set_cons_zero, List.set_cons_succ, List.getElem?_cons_zero, List.getElem?_cons_succ, wipeR, backR, Option.getD_some, stl])) | ((with_reducible refine' fv_drawE ?s0 ?_); (case s0 => assumption); intro _ _) | with_reducible refine fv_signs ?_ | (walk_at "fn"))) | with_reducible refine ret_z ?_ | with_reducible refine ret_r ?_ | ((with_reducible refine' ret_b ?s0 ?_); (case s0 => (rfl))) | ((with_reducible refine' see2 ?s0 ?s1 ?_); (case s0 => (rfl)); (case s1 => (rfl))) | ((with_reducible refine' see1 ?s0 ?_); (case s0 => (rfl))) | ((with_reducible refine' sees ?s0 ?_); (case s0 => (rfl))) | ((with_reducible refine' obp ?s0 ?_); (case s0 => (first | exact isOb_obj rfl | exact isOb_obj (by decide)))) | with_reducible refine fbp ?_ | with_reducible refine fzp ?_ | with_reducible refine isI ?_ | with_reducible refine isB ?_ | with_reducible refine isBD ?_ | ((with_reducible refine' frzs' ?s0 (And.intro ?s1 ?_)); (case s0 => rfl); (case s1 => (first | decide | simp)); (try dsimp only [puts, put, agI, outsOf, slOf, List.set_cons_zero, List.set_cons_succ, List.getElem?_cons_zero, List.getElem?_cons_succ, wipeR, backR, Option.getD_some, stl])) | ((with_reducible refine' arg ?s0 ?s1 ?s2 ?_); (case s0 => (rfl)); (case s1 => (rfl)); (case s2 => (first | exact List.nodup_nil | exact nodup1 | simp [agI])); (try dsimp only [puts, put, agI, outsOf, slOf, List.set_cons_zero, List.set_cons_succ, List.getElem?_cons_zero, List.getElem?_cons_succ, wipeR, backR, Option.getD_some, stl])) | ((with_reducible refine' ex_asg ?s0 ?_); (case s0 => (first | rfl | assumption)); (try dsimp only [puts, put, agI, outsOf, slOf, List.set_cons_zero, List.set_cons_succ, List.getElem?_cons_zero, List.getElem?_cons_succ, wipeR, backR, Option.getD_some, stl])) | ((with_reducible refine' ex_asg' ?s0 ?_); (case s0 => (first | rfl | assumption)); (try dsimp only [puts, put, agI, outsOf, slOf, List.set_cons_zero, List.set_cons_succ, List.getElem?_cons_zero, List.getElem?_cons_succ, wipeR, backR, Option.getD_some, stl])) | ((with_reducible refine' ex_asg'' ?s0 ?_); (case s0 => (rfl)); (try dsimp only [puts, put, agI, outsOf, slOf, List.set_cons_zero, List.set_cons_succ, List.getElem?_cons_zero, List.getElem?_cons_succ, wipeR, backR, Option.getD_some, stl])) | ((with_reducible refine' ex_asgT ?s0 ?_); (case s0 => (rfl)); (try dsimp only [puts, put, agI, outsOf, slOf, List.set_cons_zero, List.set_cons_succ, List.getElem?_cons_zero, List.getElem?_cons_succ, wipeR, backR, Option.getD_some, stl])) | ((with_reducible refine' nbw_z ?_); (try dsimp only [puts, put, agI, outsOf, slOf, List.set_cons_zero, List.set_cons_succ, List.getElem?_cons_zero, List.getElem?_cons_succ, wipeR, backR, Option.getD_some, stl])) | ((with_reducible refine' nbw_r ?_); (try dsimp only [puts, put, agI, outsOf, slOf, List.set_cons_zero, List.set_cons_succ, List.getElem?_cons_zero, List.getElem?_cons_succ, wipeR, backR, Option.getD_some, stl])) | with_reducible refine add2_i ?_ | ((with_reducible refine' add2_s ?s0 ?_); (case s0 => (first | assumption | decide | omega | (show _ ≤ 16777216; omega) | (show _ < 16777216; omega) | (simp only [List.length_append, List.length_cons, List.length_nil, List.length_replicate, List.length_map, List.length_take, List.length_drop, List.length_dropLast]; first | omega | (show _ ≤ 16777216; omega))))) | ((with_reducible refine' add2_l ?s0 ?_); (case s0 => (first | assumption | decide | omega | (show _ ≤ 16777216; omega) | (show _ < 16777216; omega) | (simp only [List.length_append, List.length_cons, List.length_nil, List.length_replicate, List.length_map, List.length_take, List.length_drop, List.length_dropLast]; first | omega | (show _ ≤ 16777216; omega))))) | ((with_reducible refine' add2_t ?s0 ?_); (case s0 => (first | assumption | decide | omega | (show _ ≤ 16777216; omega) | (show _ < 16777216; omega) | (simp only [List.length_append, List.length_cons, List.length_nil, List.length_replicate, List.length_map, List.length_take, List.length_drop, List.length_dropLast]; first | omega | (show _ ≤ 16777216; omega))))) | ((with_reducible refine' own_at ?s0 (And.intro ?s1 ?_)); (case s0 => rfl); (case s1 => exact ⟨_, by assumption⟩); intro _ _; (try dsimp only [puts, put, agI, outsOf, slOf, List.set_cons_zero, List.set_cons_succ, List.getElem?_cons_zero, List.getElem?_cons_succ, wipeR, backR, Option.getD_some, stl])) | ((with_reducible refine gSv ?_); (first | with_reducible refine sv_asg_s ?_ | with_reducible refine sv_nx_s ?_ | with_reducible refine sv_ret_s ?_ | with_reducible refine sv_seq_s ?_ | with_reducible refine sv_drop_s ?_ | ((with_reducible refine' sv_app_s ?s0 ?_); (case s0 => (rfl))) | ((with_reducible refine' sv_app_l ?s0 ?_); (case s0 => (rfl))) | with_reducible refine sv_asg_l ?_ | with_reducible refine sv_if_l ?_ | with_reducible refine sv_ret_l ?_ | with_reducible refine sv_nx ?_ | with_reducible refine sv_asgT_s ?_ | with_reducible refine sv_asgT_l ?_ | with_reducible refine sv_set4_s ?_))))
local macro_rules | `(tactic| walk_at "b") => `(tactic| (first | ((with_reducible refine' giv_ixl_all ?s0 ?s1 ?_); (case s0 => (first | assumption | decide | omega)); (case s1 => (first | assumption | (refine Int.lt_of_lt_of_le (by assumption) ?_; decide) | (show _ < (_ : Int); omega) | (simp only [List.length_append, List.length_cons, List.length_nil]; omega))); repeat' (first | exact all_nil | refine all_cons ?_ ?_)) | ((with_reducible refine brn_d ?_ ?_) <;> intro _ <;> (first | (exfalso; omega) | skip)) | ((with_reducible refine brn_nd ?_ ?_) <;> intro _ <;> (first | (exfalso; omega) | skip)) | ((with_reducible refine brn_c ?_ ?_) <;> intro _ <;> (first | (exfalso; omega) | contradiction | (subst_vars; contradiction) | skip))))
local macro_rules | `(tactic| walk_at "n") => `(tactic| (try dsimp only [puts, put, agI, outsOf, slOf, List.map, List.set_cons_zero, List.set_cons_succ, List.getElem?_cons_zero, List.getElem?_cons_succ, wipeR, backR, Option.getD_some, List.replicate, List.cons_append, List.nil_append, List.append_eq, List.append_nil, Nat.reduceSub, FEnd, Ret, noBw, stl]))
local macro_rules | `(tactic| walk_at "g") => `(tactic| (repeat (walk_at "s1")))
local macro_rules | `(tactic| walk_at "gS") => `(tactic| (repeat (walk_at "s2")))
local macro_rules | `(tactic| walk_at "x") => `(tactic| (repeat' (first | (walk_at "s1") | (walk_at "b"))))
local macro_rules | `(tactic| walk_at "xS") => `(tactic| (repeat' (first | (walk_at "s2") | (walk_at "b"))))
namespace K01
open Sw L2
theorem next_eq : f_law_next = lawNext := rfl
theorem draw_eq : f_law_draw = lawDraw := rfl
theorem signs_eq : f_law_signs = lawSigns := rfl
theorem SGN_lim : SGN.length ≤ lim := by rw [SGN_len]; decide
theorem consts : c_SIGNS = SGN := by decide
theorem fil_sub : ∀ {l s : List Nat}, l.Nodup → s.Sublist l → l.filter (fun c => decide (c ∈ s)) = s
  | _, _, _, .slnil => rfl
  | a :: l, s, nd, .cons _ h => by
    have n := (List.nodup_cons.mp nd)
    rw [List.filter_cons, if_neg (by simp only [decide_eq_true_eq]; exact fun z => n.1 (h.subset z))]
    exact fil_sub n.2 h
  | a :: l, _ :: s, nd, .cons₂ _ h => by
    have n := (List.nodup_cons.mp nd)
    rw [List.filter_cons, if_pos (by simp)]
    congr 1
    refine Eq.trans (List.filter_congr fun x hx => ?_) (fil_sub n.2 h)
    have : x ≠ a := fun e => n.1 (by rw [← e]; exact hx)
    simp [this]
theorem sgn_nd : SGN.Nodup := ascl_nodup sgn_asc
theorem fil_sgn {s : List Nat} (h : s.Sublist SGN) : SGN.filter (fun c => decide (c ∈ s)) = s := fil_sub sgn_nd h
theorem fil_lim (p : Nat → Bool) : (SGN.filter p).length ≤ lim := Nat.le_trans List.filter_sublist.length_le SGN_lim
/-- the set with these signs -/
abbrev OD (s : List Nat) : D := .obj "SignSet" ["_signs"] [.str s]
theorem make_ok (t : List Nat) : g_SignSet [.str t] = some ([("_signs" : PySem.Str)], [D.str (SGN.filter fun c => decide (c ∈ t))]) := by
  unfold g_SignSet
  rw [if_pos (show [D.str t].length = 1 from rfl)]
  have h : Ev (eMet fJoin (eC (.str [])) (aCons (eLc [2] (iSq (eC (.str c_SIGNS))) (gN 2) (tE (eBin fIn (eVar 2) (eVar 1))) (eVar 2)) aNil)) [.no, .d (.str t), .no] fun r ρ => r = .fz (.str (SGN.filter fun c => decide (c ∈ t))) ∧ ρ = [.no, .d (.str t), .no] := by
    refine ev_met (ev_c (ev_acons (ev_pick SGN (fun c => decide (c ∈ t)) rfl SGN_lim (fun q => ?_) (fun c hc Q' q' => ?_) (ev_anil (see1 rfl (sees rfl (giv_pick (fil_lim _) ⟨rfl, rfl⟩)))))))
    · rw [consts]
      exact ev_isqd (ev_c ⟨_, rfl, rfl, q⟩)
    · walk_at "g"
      exact q'
  obtain ⟨r, ρ, e, rfl, rfl⟩ := h
  unfold i_SignSet iSeq iFld iNx
  show ((((eMet fJoin (eC (.str [])) (aCons (eLc [2] (iSq (eC (.str c_SIGNS))) (gN 2) (tE (eBin fIn (eVar 2) (eVar 1))) (eVar 2)) aNil)) [.no, .d (.str t), .no]).bind _).bind _).bind _ = _
  rw [e]
  rfl
theorem obj_ok (t : List Nat) {Q : Vl → Rho → Prop} {ρ : Rho} {ms : M (List Vl)} (h : Ev ms ρ fun rs ρ1 => rs = [.fz (.str t)] ∧ Q (.fz (OD (SGN.filter fun c => decide (c ∈ t)))) ρ1) : Ev (eMake "SignSet" g_SignSet ms) ρ Q := by
  obtain ⟨rs, ρ1, e, rfl, q⟩ := h
  exact ev_make ⟨_, ρ1, e, [.str t], ρ1, _, _, rfl, make_ok t, q⟩
theorem sub_len {s : List Nat} (h : s.Sublist SGN) : s.length ≤ 96 := by have := h.length_le; rwa [SGN_len] at this
theorem members_ok {s : List Nat} {Q : Vl → List (List D) → Prop} (q : Q (.fz (.str s)) []) : Fv f_SignSet_members [.da (OD s)] Q := by
  refine fv_fn rfl ?_
  walk_at "n"
  unfold b_SignSet_members
  walk_at "g"
  walk_at "n"
  exact q
theorem len_ok {s : List Nat} (hs : s.length ≤ 96) {Q : Vl → List (List D) → Prop} (q : Q (.fz (.int s.length)) []) : Fv f_SignSet_len [.da (OD s)] Q := by
  refine fv_fn rfl ?_
  walk_at "n"
  unfold b_SignSet_len
  walk_at "g"
  walk_at "n"
  exact q
theorem eq_ok {s t : List Nat} {Q : Vl → List (List D) → Prop} (q : Q (.fz (.bl (decide (s = t)))) []) : Fv f_SignSet_eq [.da (OD s), .da (OD t)] Q := by
  refine fv_fn rfl ?_
  walk_at "n"
  unfold b_SignSet_eq
  walk_at "g"
  walk_at "n"
  exact q
theorem all_map {α : Type} (s : List α) (p : α → Bool) : cAll [.lst (s.map fun c => .bl (p c))] = some (.bl (s.all p)) := by
  show (bools (s.map fun c => D.bl (p c))).bind _ = _
  rw [show (s.map fun c => D.bl (p c)) = (s.map p).map D.bl by rw [List.map_map]; rfl, bools_map]
  show some (D.bl ((s.map p).all id)) = _
  rw [List.all_map]
  rfl
theorem within_ok {s t : List Nat} (hs : s.length ≤ 96) {Q : Vl → List (List D) → Prop} (q : Q (.fz (.bl (s.all fun c => decide (c ∈ t)))) []) : Fv f_SignSet_within [.da (OD s), .da (OD t)] Q := by
  refine fv_fn rfl ?_
  walk_at "n"
  unfold b_SignSet_within
  walk_at "g"
  refine ev_lcm s (fun c => .str [c]) (fun c => .bl (decide (c ∈ t))) rfl (Nat.le_trans hs (by decide)) (fun q' => ev_isqd (xs := s.map fun c => .str [c]) ?_) (fun c hc Q' q' => ?_) ?_
  · walk_at "g"
    first | exact q' | exact ⟨rfl, q'⟩
  · walk_at "g"
    exact q'
  · walk_at "g"
    refine giv (all_map s fun c => decide (c ∈ t)) ?_
    walk_at "g"
    walk_at "n"
    exact q
end K01
namespace K01
open Sw L2
theorem fIn_flat (c : Nat) (fs : List Nat) : fIn (.str [c]) (.lst (fs.map fun c => D.str [c])) = some (.bl (inD (.str [c]) (fs.map fun c => D.str [c]))) := by
  have hf : (flatD (.str [c]) && (fs.map fun c => D.str [c]).all flatD) = true := by
    rw [Bool.and_eq_true]
    refine ⟨rfl, ?_⟩
    rw [List.all_eq_true]
    intro x hx
    obtain ⟨d, _, rfl⟩ := List.mem_map.mp hx
    rfl
  show orF fInS (fInQ false) _ _ = _
  unfold orF fInS fInQ
  dsimp only
  rw [if_pos hf]
  rfl
theorem cut_sub {r u : Int} {s : List Nat} (h : s.Sublist SGN) : (cutL s (some r) (some u)).Sublist SGN := by
  unfold cutL
  exact ((List.take_sublist _ _).trans (List.drop_sublist _ _)).trans h
theorem subset_ok {xs : List D} {e : Int} (hd : DrE e xs) {Q : Vl → List (List D) → Prop} (q : ∀ s ys, s.Sublist SGN → DrE e ys → Q (.fz (.str s)) [ys]) : Fv f_law_subset [.li xs] Q := by
  have hS := SGN_lim
  refine fv_fn rfl ?_
  walk_at "n"
  unfold b_law_subset
  rw [next_eq, signs_eq]
  walk_at "x"
  · walk_at "n"
    exact q _ _ (List.nil_sublist _) (by assumption)
  · walk_at "n"
    exact q _ _ (List.Sublist.refl _) (by assumption)
  · walk_at "n"
    exact q _ _ (List.take_sublist _ _) (by assumption)
  · walk_at "n"
    exact q _ _ (List.drop_sublist _ _) (by assumption)
  · walk_at "n"
    exact q _ _ (List.drop_sublist _ _) (by assumption)
  · walk_at "n"
    exact q _ _ (List.take_sublist _ _) (by assumption)
  · walk_at "n"
    exact q _ _ ((List.take_sublist _ _).trans (List.drop_sublist _ _)) (by assumption)
  · rename_i r0 y0 _ _ hd0 _ _ _
    refine ev_lcR (e := e) (fun ds => [.io ds, .d (.str SGN), .d (.int r0), .no, .no, .no, .no, .no]) (fun c => D.str [c]) (fun _ => True) (fun xs => xs.length ≤ 10) (fun _ => rfl) (fun xs h => Nat.le_trans h (by decide)) (fun {Q'} q' => ev_ir1 ?_) (fun xs _ x hx ds hds Q' q' => ?_) (fun xs few ds' hx hf _ hd' => ?_)
    · walk_at "g"
      refine ⟨_, rfl, by omega, by omega, q' _ _ ?_ (by assumption)⟩
      rw [rngL_len]
      omega
    · show Ev _ [.io ds, .d (.str SGN), .d (.int r0), .no, .no, .no, .d x, .no] _
      walk_at "g"
      exact q' _ _ trivial (by assumption)
    · walk_at "g"
      refine ev_lcf SGN (fun c => .str [c]) (fun c => inD (.str [c]) (few.map fun c => D.str [c])) (fun c => .str [c]) rfl hS (fun q' => ev_isqd (ev_vd rfl ⟨.str SGN, rfl, rfl, q'⟩)) (fun c hc Q' q' => ?_) (fun c _ _ Q' q' => ?_) ?_
      · walk_at "g"
        refine giv (fIn_flat c few) ?_
        walk_at "g"
        exact q'
      · walk_at "g"
        exact q'
      · walk_at "g"
        refine giv_pick (fil_lim _) ?_
        walk_at "g"
        walk_at "n"
        exact q _ _ List.filter_sublist hd'
  · rename_i r0 y0 _ _ hd0 _ _ _
    refine ev_pickR (fun ds => [.io ds, .d (.str SGN), .d (.int r0), .d (.int (r0 - 3)), .no, .no, .no, .no]) SGN hd0 (fun _ => rfl) hS (fun q' => ev_isqd (ev_vd rfl ⟨.str SGN, rfl, rfl, q'⟩)) (fun c hc ds hds Q' q' => ?_) (fun ts ds' hts hd' => ?_)
    · show Ev _ [.io ds, .d (.str SGN), .d (.int r0), .d (.int (r0 - 3)), .no, .no, .no, .d (.str [c])] _
      walk_at "g"
      exact q' _ _ (by assumption)
    · walk_at "g"
      refine giv_pick (Nat.le_trans hts.length_le hS) ?_
      walk_at "g"
      walk_at "n"
      exact q _ _ hts hd'
theorem near_ok {xs : List D} {e : Int} {f : List Nat} (hd : DrE e xs) (hf : f.Sublist SGN) {Q : Vl → List (List D) → Prop} (q : ∀ s ys, s.Sublist SGN → DrE e ys → Q (.fz (.str s)) [ys]) : Fv f_law_near [.li xs, .da (.str f)] Q := by
  have hS := SGN_lim
  have lf : f.length ≤ lim := Nat.le_trans hf.length_le hS
  refine fv_fn rfl ?_
  walk_at "n"
  unfold b_law_near
  rw [next_eq, signs_eq]
  walk_at "gS"
  refine ev_pick SGN (fun c => !decide (c ∈ f)) rfl hS (fun q' => ev_isqd (ev_vd rfl ⟨.str SGN, rfl, rfl, q'⟩)) (fun c hc Q' q' => ?_) ?_
  · walk_at "g"
    exact q'
  walk_at "g"
  refine giv_pick (fil_lim _) ?_
  have hr : (SGN.filter fun c => !decide (c ∈ f)).Sublist SGN := List.filter_sublist
  generalize (SGN.filter fun c => !decide (c ∈ f)) = r at hr
  have lr : r.length ≤ lim := Nat.le_trans hr.length_le hS
  walk_at "x"
  · walk_at "n"
    exact q _ _ hf (by assumption)
  · walk_at "n"
    exact q _ _ hr (by assumption)
  · rename_i r0 y0 _ _ _ _ _ _ r1 y1 _ _ hd1 g hg
    refine ev_pick SGN (fun c => decide (c ∈ f) != decide ([c] = [g])) rfl hS (fun q' => ev_isqd (ev_vd rfl ⟨.str SGN, rfl, rfl, q'⟩)) (fun c hc Q' q' => ?_) ?_
    · walk_at "g"
      exact q'
    walk_at "g"
    refine giv_pick (fil_lim _) ?_
    walk_at "g"
    walk_at "n"
    exact q _ _ List.filter_sublist hd1
  · rename_i r0 y0 _ _ hd0 _ _ _ hz
    obtain ⟨_, n1, n2⟩ := hz
    have p1 : 0 < f.length := by cases f with
      | nil => exact absurd rfl n1
      | cons => exact Nat.succ_pos _
    have p2 : 0 < r.length := by cases r with
      | nil => exact absurd rfl n2
      | cons => exact Nat.succ_pos _
    refine fv_nextE (m := (f.length : Int)) hd0 (by omega) fun a y1 a0 a1 hd1 => ?_
    walk_at "g"
    rename_i c0 hc0 r1 y2 _ _ hd2 c1 hc1
    refine ev_pick SGN (fun c => decide ([c] = [c1] ∨ (c ∈ f ∧ ¬ [c] = [c0]))) rfl hS (fun q' => ev_isqd (ev_vd rfl ⟨.str SGN, rfl, rfl, q'⟩)) (fun c hc Q' q' => ?_) ?_
    · walk_at "g"
      exact q'
    walk_at "g"
    refine giv_pick (fil_lim _) ?_
    walk_at "g"
    walk_at "n"
    exact q _ _ List.filter_sublist hd2
  · rename_i r0 y0 _ _ hd0 _ _ _ _ _
    refine ev_pickR (fun ds => [.io ds, .d (.str f), .d (.str SGN), .d (.int r0), .d (.str r), .no, .no, .no, .no]) f hd0 (fun _ => rfl) lf (fun q' => ev_isqd (ev_vd rfl ⟨.str f, rfl, rfl, q'⟩)) (fun c hc ds hds Q' q' => ?_) (fun ts ds' hts hd' => ?_)
    · show Ev _ [.io ds, .d (.str f), .d (.str SGN), .d (.int r0), .d (.str r), .no, .no, .no, .d (.str [c])] _
      walk_at "g"
      exact q' _ _ (by assumption)
    · walk_at "g"
      refine giv_pick (Nat.le_trans hts.length_le lf) ?_
      walk_at "g"
      walk_at "n"
      exact q _ _ (hts.trans hf) hd'
  · refine subset_ok (by assumption) fun s ys hs hds => ?_
    walk_at "g"
    walk_at "n"
    exact q _ _ hs hds
end K01
/-! the plain law: runs. -/
namespace K01
open Sw L2
/-- one more place -/
def addR (rs : List (Nat × Nat)) (c : Nat) : List (Nat × Nat) := match rs.getLast? with
  | some p => if p.2 + 1 = c then rs.dropLast ++ [(p.1, c)] else rs ++ [(c, c)]
  | none => rs ++ [(c, c)]
def runsI (a : List Nat) : List (Nat × Nat) := a.foldl addR []
def frs (a : List Nat) : List Nat := a.filter fun i => decide (i = 0) || !decide (i - 1 ∈ a)
def lsts (a : List Nat) : List Nat := a.filter fun i => decide (i = 95) || !decide (i + 1 ∈ a)
theorem runs_zip : ∀ (n : Nat) (a : List Nat), a.length = n → AscL a → (∀ i ∈ a, i < 96) → runsI a = (frs a).zip (lsts a) ∧ (frs a).length = (lsts a).length ∧ (lsts a).getLast? = a.getLast? := by
  intro n
  induction n with
  | zero =>
    intro a hn _ _
    have e := List.eq_nil_of_length_eq_zero hn
    subst e
    exact ⟨rfl, rfl, rfl⟩
  | succ n ih =>
    intro a hn asc hlt
    rcases List.eq_nil_or_concat a with rfl | ⟨b, c, e⟩
    · cases hn
    rw [List.concat_eq_append] at e
    subst e
    obtain ⟨ab, _, lt⟩ := List.pairwise_append.mp (show List.Pairwise _ _ from asc)
    have lt : ∀ x ∈ b, x < c := fun x hx => lt x hx c (List.mem_singleton.mpr rfl)
    have hc : c < 96 := hlt c (by simp)
    obtain ⟨i1, i2, i3⟩ := ih b (by simpa using hn) ab fun i hi => hlt i (List.mem_append_left _ hi)
    have runs : runsI (b ++ [c]) = addR (runsI b) c := by unfold runsI; rw [List.foldl_append]; rfl
    have hL : lsts (b ++ [c]) = (b.filter fun i => decide (i = 95) || !decide (i + 1 ∈ b ∨ i + 1 = c)) ++ [c] := by
      unfold lsts
      rw [List.filter_append]
      congr 1
      · refine List.filter_congr fun i hi => ?_
        simp only [List.mem_append, List.mem_singleton]
      · have nc : c + 1 ∉ b ++ [c] := fun h => by
          rcases List.mem_append.mp h with h | h
          · have := lt _ h; omega
          · have := List.mem_singleton.mp h; omega
        rw [List.filter_cons, if_pos (by simp only [decide_eq_false nc]; simp)]
        rfl
    have hF : frs (b ++ [c]) = frs b ++ (if c = 0 ∨ c - 1 ∉ b then [c] else []) := by
      unfold frs
      rw [List.filter_append]
      congr 1
      · refine List.filter_congr fun i hi => ?_
        have := lt i hi
        have e : i - 1 ∈ b ++ [c] ↔ i - 1 ∈ b := by
          rw [List.mem_append, List.mem_singleton]
          exact ⟨fun h => h.elim id fun h => by omega, .inl⟩
        rw [decide_eq_decide.mpr e]
      · by_cases z : c = 0 ∨ c - 1 ∉ b
        · rw [if_pos z, List.filter_cons, if_pos]
          · rfl
          · rcases z with z | z
            · rw [decide_eq_true z]; rfl
            · have z' : c = 0 ∨ c - 1 ∉ b ++ [c] := by
                rcases Nat.eq_zero_or_pos c with h | h
                · exact .inl h
                · refine .inr fun h' => ?_
                  rcases List.mem_append.mp h' with h' | h'
                  · exact z h'
                  · have := List.mem_singleton.mp h'; omega
              rcases z' with z' | z'
              · rw [decide_eq_true z']; rfl
              · rw [decide_eq_false z']; simp
        · rw [if_neg z, List.filter_cons, if_neg]
          · rfl
          · have z1 : c ≠ 0 := fun h => z (.inl h)
            have z2 : c - 1 ∈ b := Classical.byContradiction fun h => z (.inr h)
            rw [decide_eq_false z1, decide_eq_true (List.mem_append_left _ z2)]
            simp
    by_cases z : c = 0 ∨ c - 1 ∉ b
    · rw [if_pos z] at hF
      have nl : ∀ i ∈ b, i + 1 ≠ c := fun i hi h => by
        rcases z with z | z
        · omega
        · exact z (by rw [← h]; exact hi)
      have hL' : lsts (b ++ [c]) = lsts b ++ [c] := by
        rw [hL]
        congr 1
        refine List.filter_congr fun i hi => ?_
        have e : (i + 1 ∈ b ∨ i + 1 = c) ↔ i + 1 ∈ b := ⟨fun h => h.elim id fun h => absurd h (nl i hi), .inl⟩
        rw [decide_eq_decide.mpr e]
      rw [runs, hF, hL', i1]
      refine ⟨?_, by rw [List.length_append, List.length_append, i2], by simp⟩
      rw [List.zip_append i2]
      unfold addR
      cases hl : ((frs b).zip (lsts b)).getLast? with
      | none => rfl
      | some p =>
        have pm := List.mem_of_getLast? hl
        have p2 := (List.of_mem_zip pm).2
        have pb : p.2 ∈ b := (List.mem_filter.mp p2).1
        dsimp only
        rw [if_neg (nl p.2 pb)]
        rfl
    · have z1 : c ≠ 0 := fun h => z (.inl h)
      have z2 : c - 1 ∈ b := Classical.byContradiction fun h => z (.inr h)
      rw [if_neg z, List.append_nil] at hF
      rcases List.eq_nil_or_concat b with rfl | ⟨b', m, e⟩
      · cases z2
      rw [List.concat_eq_append] at e
      subst e
      obtain ⟨ab', _, lt'⟩ := List.pairwise_append.mp (show List.Pairwise _ _ from ab)
      have lt' : ∀ x ∈ b', x < m := fun x hx => lt' x hx m (List.mem_singleton.mpr rfl)
      have hm : m = c - 1 := by
        rcases List.mem_append.mp z2 with h | h
        · have h1 := lt' _ h
          have h2 := lt m (by simp)
          omega
        · exact (List.mem_singleton.mp h).symm
      have hLb : lsts (b' ++ [m]) = (b'.filter fun i => decide (i = 95) || !decide (i + 1 ∈ b' ++ [m])) ++ [m] := by
        unfold lsts
        rw [List.filter_append]
        congr 1
        have nc : m + 1 ∉ b' ++ [m] := fun h => by
          have := lt _ h
          omega
        rw [List.filter_cons, if_pos (by simp only [decide_eq_false nc]; simp)]
        rfl
      have hLc : lsts (b' ++ [m] ++ [c]) = (b'.filter fun i => decide (i = 95) || !decide (i + 1 ∈ b' ++ [m])) ++ [c] := by
        rw [hL, List.filter_append]
        congr 1
        rw [List.filter_cons, if_neg]
        · rw [List.filter_nil, List.append_nil]
          refine List.filter_congr fun i hi => ?_
          have := lt' i hi
          have e : (i + 1 ∈ b' ++ [m] ∨ i + 1 = c) ↔ i + 1 ∈ b' ++ [m] := ⟨fun h => h.elim id fun h => by omega, .inl⟩
          rw [decide_eq_decide.mpr e]
        · have e : m + 1 ∈ b' ++ [m] ∨ m + 1 = c := .inr (by omega)
          rw [decide_eq_true e, decide_eq_false (show ¬ m = 95 by omega)]
          simp
      generalize (b'.filter fun i => decide (i = 95) || !decide (i + 1 ∈ b' ++ [m])) = Xs at hLb hLc
      rw [hLb] at i1 i2
      rcases List.eq_nil_or_concat (frs (b' ++ [m])) with e | ⟨Y, f, e⟩
      · rw [e, List.length_append] at i2
        simp at i2
      rw [List.concat_eq_append] at e
      rw [e] at i1 i2 hF
      have len : Y.length = Xs.length := by simpa using i2
      rw [List.zip_append len] at i1
      rw [runs, hF, hLc, i1, List.zip_append len]
      refine ⟨?_, by rw [List.length_append, List.length_append, len]; first | done | rfl, by simp⟩
      unfold addR
      show (match (Y.zip Xs ++ [(f, m)]).getLast? with | some p => _ | none => _) = _
      rw [List.getLast?_concat]
      dsimp only
      rw [if_pos (by omega)]
      show (Y.zip Xs ++ [(f, m)]).dropLast ++ [(f, c)] = Y.zip Xs ++ [(f, c)]
      rw [List.dropLast_concat]
theorem runs_len (a : List Nat) (h : AscL a) (l : ∀ i ∈ a, i < 96) : runsI a = (frs a).zip (lsts a) ∧ (frs a).length = (lsts a).length := ⟨(runs_zip _ a rfl h l).1, (runs_zip _ a rfl h l).2.1⟩
/-! signs and their places -/
abbrev g (i : Nat) : Nat := SGN.getD i 0
theorem g_at {i : Nat} (h : i < 96) : g i = SGN[i]'(by rw [SGN_len]; exact h) := by
  unfold g
  rw [List.getD_eq_getElem?_getD, List.getElem?_eq_getElem (by rw [SGN_len]; exact h)]
  rfl
theorem find_g {i : Nat} (h : i < 96) : findC SGN (g i) = (i : Int) := by rw [g_at h]; exact findC_at _
theorem g_inj {i j : Nat} (hi : i < 96) (hj : j < 96) (e : g i = g j) : i = j := by
  have h1 := find_g hi
  have h2 := find_g hj
  rw [e, h2] at h1
  omega
theorem g_mem {a : List Nat} {i : Nat} (ha : ∀ j ∈ a, j < 96) (hi : i < 96) : g i ∈ a.map g ↔ i ∈ a := by
  rw [List.mem_map]
  exact ⟨fun ⟨j, hj, e⟩ => by rw [g_inj hi (ha j hj) e.symm]; exact hj, fun h => ⟨i, h, rfl⟩⟩
theorem g_sgn {i : Nat} (h : i < 96) : g i ∈ SGN := by rw [g_at h]; exact List.getElem_mem _
/-- the places of a set's signs -/
theorem places {s : List Nat} (h : s.Sublist SGN) : ∃ a, AscL a ∧ (∀ i ∈ a, i < 96) ∧ s = a.map g := by
  have hr : SGN = (List.range 96).map g := by decide
  rw [hr] at h
  obtain ⟨a, ha, e⟩ := List.sublist_map_iff.mp h
  refine ⟨a, List.Pairwise.sublist ha List.pairwise_lt_range, fun i hi => List.mem_range.mp (ha.subset hi), e⟩
theorem frs_g {a : List Nat} (ha : ∀ i ∈ a, i < 96) : ((a.map g).filter fun c => decide (findC SGN c = 0) || !decide ((SGN.getD (SGN.idxOf c - 1) 0) ∈ a.map g)) = (frs a).map g := by
  unfold frs
  rw [List.filter_map]
  congr 1
  refine List.filter_congr fun i hi => ?_
  have h := ha i hi
  have ix : SGN.idxOf (g i) = i := by
    have := find_g h
    rw [findC_in (g_sgn h)] at this
    omega
  show (decide (findC SGN (g i) = 0) || !decide (g (SGN.idxOf (g i) - 1) ∈ a.map g)) = _
  rw [ix, find_g h, decide_eq_decide.mpr (g_mem ha (show i - 1 < 96 by omega)), decide_eq_decide.mpr (show ((i : Nat) : Int) = 0 ↔ i = 0 by omega)]
theorem lsts_g {a : List Nat} (ha : ∀ i ∈ a, i < 96) : ((a.map g).filter fun c => decide (findC SGN c = 95) || !decide ((SGN.getD (SGN.idxOf c + 1) 0) ∈ a.map g)) = (lsts a).map g := by
  unfold lsts
  rw [List.filter_map]
  congr 1
  refine List.filter_congr fun i hi => ?_
  have h := ha i hi
  have ix : SGN.idxOf (g i) = i := by
    have := find_g h
    rw [findC_in (g_sgn h)] at this
    omega
  show (decide (findC SGN (g i) = 95) || !decide (g (SGN.idxOf (g i) + 1) ∈ a.map g)) = _
  rw [ix, find_g h, decide_eq_decide.mpr (show ((i : Nat) : Int) = 95 ↔ i = 95 by omega)]
  by_cases e : i = 95
  · rw [decide_eq_true e]; rfl
  · rw [decide_eq_decide.mpr (g_mem ha (show i + 1 < 96 by omega))]
/-- a run as data -/
abbrev RD (p : Nat × Nat) : D := .tup [.str [g p.1], .str [g p.2]]
theorem zip_RD : ∀ xs ys : List Nat, zipP (xs.map fun i => D.str [g i]) (ys.map fun i => D.str [g i]) = (xs.zip ys).map RD
  | [], _ => rfl
  | _ :: _, [] => rfl
  | x :: xs, y :: ys => by
    show _ :: zipP _ _ = _ :: ((xs.zip ys).map RD)
    rw [zip_RD xs ys]
end K01
namespace K01
open Sw L2
theorem rank_ok {c : Nat} {Q : Vl → List (List D) → Prop} (q : Q (.fz (.int (findC SGN c))) []) : Fv f_rank [.da (.str [c])] Q := by
  refine fv_fn rfl ?_
  walk_at "n"
  unfold b_rank
  rw [consts]
  walk_at "g"
  walk_at "n"
  exact q
theorem least_ok {s : List Nat} (hs : s.length ≤ 96) {Q : Vl → List (List D) → Prop} (q0 : s = [] → Q (.fz .non) []) (q1 : ∀ c t, s = c :: t → Q (.fz (.str [c])) []) : Fv f_SignSet_least [.da (OD s)] Q := by
  refine fv_fn rfl ?_
  walk_at "n"
  unfold b_SignSet_least
  cases s with
  | nil =>
    refine sv_if_s ?_
    walk_at "g"
    refine brn_dt rfl ?_
    walk_at "g"
    walk_at "n"
    exact q0 rfl
  | cons c t =>
    have h00 : atI (c :: t) 0 = some c := atI_zero
    refine sv_if_s ?_
    walk_at "g"
    refine brn_df (List.cons_ne_nil _ _) ?_
    walk_at "g"
    walk_at "n"
    exact q1 c t rfl
theorem ev_LZ {ms : M (List Vl)} {ρ : Rho} {Q : Vl → Rho → Prop} (h : Ev ms ρ fun rs ρ1 => ∃ r1 r2 xs ys, rs = [r1, r2] ∧ look ρ1 r1 = some (.lst xs) ∧ look ρ1 r2 = some (.lst ys) ∧ (xs.length = ys.length ∧ xs.length < 16777216) ∧ Q (.fr (zipP xs ys)) ρ1) : Ev (eLZ ms) ρ Q := by
  obtain ⟨rs, ρ1, e1, r1, r2, xs, ys, rfl, e2, e3, hl, q⟩ := h
  refine ⟨_, ρ1, ?_, q⟩
  unfold eLZ
  rw [e1]
  show (look ρ1 r1).bind _ = _
  rw [e2]
  show (look ρ1 r2).bind _ = _
  rw [e3]
  exact if_pos hl
theorem told_ok {b d : Bool} (h : b = d) {Q : Vl → List (List D) → Prop} (q : Q (.fz (.bl true)) []) : Fv f_law_told [.da (.bl b), .da (.bl d)] Q := by
  subst h
  refine fv_fn rfl ?_
  walk_at "n"
  unfold b_law_told
  walk_at "g"
  rw [decide_eq_true rfl]
  walk_at "n"
  exact q
theorem ranges_ok {a : List Nat} (asc : AscL a) (ha : ∀ i ∈ a, i < 96) (hs : (a.map g).length ≤ 96) {Q : Vl → List (List D) → Prop} (q : Q (.fr ((runsI a).map RD)) []) : Fv f_SignSet_ranges [.da (OD (a.map g))] Q := by
  refine fv_fn rfl ?_
  walk_at "n"
  unfold b_SignSet_ranges
  rw [consts]
  walk_at "gS"
  have hl : a.length ≤ lim := by rw [List.length_map] at hs; exact Nat.le_trans hs (by decide)
  have hS := SGN_lim
  refine ev_lcf a (fun i => .str [g i]) (fun i => decide (i = 0) || !decide (i - 1 ∈ a)) (fun i => .str [g i]) rfl hl (fun q' => ev_isqd (xs := a.map fun i => .str [g i]) ?_) (fun i hi Q' q' => ?_) (fun i hi _ Q' q' => ?_) ?_
  · walk_at "g"
    have e : itemsOf (.str (a.map g)) = some (a.map fun i => D.str [g i]) := by
      show some ((a.map g).map fun c => D.str [c]) = _
      rw [List.map_map]
      rfl
    first | exact ⟨e, q'⟩ | exact ⟨_, rfl, e, q'⟩
  · have h := ha i hi
    walk_at "g"
    refine rank_ok ?_
    rw [find_g h]
    walk_at "g"
    refine brn_d (fun z => ?_) (fun z => ?_)
    · rw [show (decide (i = 0) || !decide (i - 1 ∈ a)) = true by rw [decide_eq_true (show i = 0 by omega)]; rfl] at q'
      exact q'
    · rw [show (decide (i = 0) || !decide (i - 1 ∈ a)) = !decide (g (i - 1) ∈ a.map g) by rw [decide_eq_false (show ¬ i = 0 by omega), decide_eq_decide.mpr (g_mem ha (show i - 1 < 96 by omega))]; rfl] at q'
      walk_at "g"
      refine rank_ok ?_
      rw [find_g h]
      have gi : atI SGN ((i : Int) - 1) = some (g (i - 1)) := by rw [show (i : Int) - 1 = ((i - 1 : Nat) : Int) by omega, atI_lit', List.getElem?_eq_getElem (by rw [SGN_len]; omega), g_at (by omega)]
      walk_at "g"
      exact q'
  · walk_at "g"
    exact q'
  walk_at "gS"
  refine ev_lcf a (fun i => .str [g i]) (fun i => decide (i = 95) || !decide (i + 1 ∈ a)) (fun i => .str [g i]) rfl hl (fun q' => ev_isqd (xs := a.map fun i => .str [g i]) ?_) (fun i hi Q' q' => ?_) (fun i hi _ Q' q' => ?_) ?_
  · walk_at "g"
    have e : itemsOf (.str (a.map g)) = some (a.map fun i => D.str [g i]) := by
      show some ((a.map g).map fun c => D.str [c]) = _
      rw [List.map_map]
      rfl
    first | exact ⟨e, q'⟩ | exact ⟨_, rfl, e, q'⟩
  · have h := ha i hi
    walk_at "g"
    refine rank_ok ?_
    rw [find_g h]
    walk_at "g"
    rw [SGN_len]
    refine brn_d (fun z => ?_) (fun z => ?_)
    · rw [show (decide (i = 95) || !decide (i + 1 ∈ a)) = true by rw [decide_eq_true (show i = 95 by omega)]; rfl] at q'
      exact q'
    · rw [show (decide (i = 95) || !decide (i + 1 ∈ a)) = !decide (g (i + 1) ∈ a.map g) by rw [decide_eq_false (show ¬ i = 95 by omega), decide_eq_decide.mpr (g_mem ha (show i + 1 < 96 by omega))]; rfl] at q'
      walk_at "g"
      refine rank_ok ?_
      rw [find_g h]
      have gi : atI SGN ((i : Int) + 1) = some (g (i + 1)) := by rw [show (i : Int) + 1 = ((i + 1 : Nat) : Int) by omega, atI_lit', List.getElem?_eq_getElem (by rw [SGN_len]; omega), g_at (by omega)]
      walk_at "g"
      exact q'
  · walk_at "g"
    exact q'
  walk_at "g"
  obtain ⟨r1, r2⟩ := runs_len a asc ha
  refine ev_LZ ?_
  walk_at "g"
  refine ⟨_, _, _, _, rfl, rfl, rfl, ⟨by rw [List.length_map, List.length_map]; exact r2, by rw [List.length_map]; exact Nat.lt_of_le_of_lt (List.Sublist.length_le List.filter_sublist) (Nat.lt_of_le_of_lt (by rw [List.length_map] at hs; exact hs) (by decide))⟩, ?_⟩
  rw [zip_RD, show (a.filter fun i => decide (i = 0) || !decide (i - 1 ∈ a)) = frs a from rfl, show (a.filter fun i => decide (i = 95) || !decide (i + 1 ∈ a)) = lsts a from rfl, ← r1]
  walk_at "n"
  exact q
theorem obj_okE {Q : Vl → Rho → Prop} {ρ : Rho} {ms : M (List Vl)} (h : Ev ms ρ fun rs ρ1 => ∃ t, rs = [.fz (.str t)] ∧ Q (.fz (OD (SGN.filter fun c => decide (c ∈ t)))) ρ1) : Ev (eMake "SignSet" g_SignSet ms) ρ Q := by
  obtain ⟨rs, ρ1, e, t, rfl, q⟩ := h
  exact ev_make ⟨_, ρ1, e, [.str t], ρ1, _, _, rfl, make_ok t, q⟩
theorem between_ok {i j : Nat} (hi : i < 96) (hj : j < 96) {Q : Vl → List (List D) → Prop} (q : Q (.fz (OD ((SGN.drop i).take (j + 1 - i)))) []) : Fv f_SignSet_between [.da (.str [g i]), .da (.str [g j])] Q := by
  have hS := SGN_lim
  refine fv_fn rfl ?_
  walk_at "n"
  unfold b_SignSet_between
  rw [consts]
  walk_at "g"
  refine obj_okE ?_
  walk_at "g"
  refine rank_ok ?_
  rw [find_g hi]
  walk_at "g"
  refine rank_ok ?_
  rw [find_g hj]
  walk_at "g"
  refine ⟨_, rfl, ?_⟩
  rw [show ((j : Int) + 1).toNat - ((i : Nat) : Int).toNat = j + 1 - i by omega, show ((i : Nat) : Int).toNat = i by omega, fil_sgn ((List.take_sublist _ _).trans (List.drop_sublist _ _))]
  walk_at "n"
  exact q
theorem mem_ins {t : List Nat} {r c : Nat} (d : Nat) : d ∈ t.take r ++ [c] ++ t.drop r ↔ d ∈ t ∨ d = c := by
  have e : d ∈ t ↔ d ∈ t.take r ∨ d ∈ t.drop r := by rw [← List.mem_append, List.take_append_drop]
  rw [e, List.mem_append, List.mem_append, List.mem_singleton]
  constructor
  · rintro ((h | h) | h)
    · exact .inl (.inl h)
    · exact .inr h
    · exact .inl (.inr h)
  · rintro ((h | h) | h)
    · exact .inl (.inl h)
    · exact .inr h
    · exact .inl (.inr h)
theorem len_ins {t : List Nat} {r c : Nat} : (t.take r ++ [c] ++ t.drop r).length = t.length + 1 := by
  have e : t.length = (t.take r).length + (t.drop r).length := by rw [← List.length_append, List.take_append_drop]
  rw [List.length_append, List.length_append, e]
  simp only [List.length_cons, List.length_nil]
  omega
theorem six {r : Int} (h0 : 0 ≤ r) (h1 : r < 6) : ∃ z : Int, atI [D.int 0, D.int 1, D.int 2, D.int 5, D.int 60, D.int 200] r = some (.int z) ∧ 0 ≤ z ∧ z ≤ 200 := by
  have : r = 0 ∨ r = 1 ∨ r = 2 ∨ r = 3 ∨ r = 4 ∨ r = 5 := by omega
  rcases this with rfl | rfl | rfl | rfl | rfl | rfl
  · exact ⟨0, rfl, by decide, by decide⟩
  · exact ⟨1, rfl, by decide, by decide⟩
  · exact ⟨2, rfl, by decide, by decide⟩
  · exact ⟨5, rfl, by decide, by decide⟩
  · exact ⟨60, rfl, by decide, by decide⟩
  · exact ⟨200, rfl, by decide, by decide⟩
theorem inside_ok {s t : List Nat} (hs : s.length ≤ 96) {Q : Vl → List (List D) → Prop} (q : Q (.fz (.bl (s.all fun c => decide (c ∈ t)))) []) : Fv f_law_inside [.da (.str s), .da (.str t)] Q := by
  refine fv_fn rfl ?_
  walk_at "n"
  unfold b_law_inside
  walk_at "g"
  refine ev_lcf s (fun c => .str [c]) (fun c => !decide (c ∈ t)) (fun c => .str [c]) rfl (Nat.le_trans hs (by decide)) (fun q' => ev_isqd (ev_vd rfl ⟨.str s, rfl, rfl, q'⟩)) (fun c hc Q' q' => ?_) (fun c hc _ Q' q' => ?_) ?_
  · walk_at "g"
    exact q'
  · walk_at "g"
    exact q'
  walk_at "g"
  have e : decide (((((s.filter fun c => !decide (c ∈ t)).map fun c => D.str [c]).length : Nat) : Int) = 0) = s.all fun c => decide (c ∈ t) := by
    rw [List.length_map, Bool.eq_iff_iff, decide_eq_true_eq, List.all_eq_true]
    constructor
    · intro h c hc
      have h0 : s.filter (fun c => !decide (c ∈ t)) = [] := List.eq_nil_of_length_eq_zero (by omega)
      have := List.filter_eq_nil_iff.mp h0 c hc
      simpa using this
    · intro h
      have h0 : s.filter (fun c => !decide (c ∈ t)) = [] := List.filter_eq_nil_iff.mpr fun c hc => by rw [h c hc]; simp
      rw [h0]
      rfl
  rw [e]
  walk_at "n"
  exact q
theorem mixed_ok {xs : List D} {e : Int} {m : List Nat} (hd : DrE e xs) (hm : m.Sublist SGN) {Q : Vl → List (List D) → Prop} (q : ∀ t ys, (SGN.filter fun c => decide (c ∈ t)) = m → DrE e ys → Q (.fz (.str t)) [ys]) : Fv f_law_mixed [.li xs, .da (.str m)] Q := by
  have hS := SGN_lim
  have l96 := sub_len hm
  refine fv_fn rfl ?_
  walk_at "n"
  unfold b_law_mixed
  rw [next_eq]
  walk_at "gS"
  refine sv_then (fun ρ => ∃ (ys : List D) (t : List Nat) (x3 x6 : Sl), ρ = [.io ys, .d (.str m), .d (.str t), x3, .no, .no, x6] ∧ DrE e ys ∧ (∀ c, c ∈ t ↔ c ∈ m) ∧ t.length ≤ 96 ∧ ioQ (some x6) = false)
    (sv_for (fun i ρ => ∃ (ys : List D) (t : List Nat) (x3 x6 : Sl), ρ = [.io ys, .d (.str m), .d (.str t), x3, .no, .no, x6] ∧ DrE e ys ∧ (∀ c, c ∈ t ↔ c ∈ m.take i) ∧ t.length = i ∧ i ≤ m.length ∧ ioQ (some x3) = false ∧ ioQ (some x6) = false) (ev_isqd (ev_vd rfl ⟨.str m, rfl, rfl, ?_⟩))) ?_
  · refine ⟨⟨_, [], _, _, rfl, hd, fun c => Iff.rfl, rfl, Nat.zero_le _, rfl, rfl⟩, ?_, ?_⟩
    · rintro i y hy ρ ⟨ys, t, x3, x6, rfl, hd, ht, hl, hi, h3, h6⟩
      rw [List.getElem?_map] at hy
      obtain ⟨c, hc, rfl⟩ := Option.map_eq_some_iff.mp hy
      have hlt := (List.getElem?_eq_some_iff.mp hc).1
      refine ⟨_, asg_z (by exact h3), ?_⟩
      walk_at "n"
      walk_at "g"
      refine ⟨_, _, _, _, rfl, by assumption, fun d => ?_, by rw [len_ins, hl], hlt, rfl, rfl⟩
      rw [mem_ins, ht, take_s hc, List.mem_append, List.mem_singleton]
    · rintro ρ ⟨ys, t, x3, x6, rfl, hd, ht, hl, hi, h3, h6⟩
      refine ⟨_, t, _, _, rfl, hd, ?_, by omega, h6⟩
      rw [List.length_map, List.take_length] at ht
      exact ht
  rintro ρ ⟨ys, t, x3, x6, rfl, hd, ht, hl, h6⟩
  walk_at "gS"
  rename_i r0 y0 r1 r2 hd0
  obtain ⟨z, hz, z0, z1⟩ := six r1 r2
  refine giv_ixl hz ?_
  refine ⟨_, asg_z rfl, ?_⟩
  walk_at "n"
  refine sv_then (fun ρ => ∃ z : Int, ρ = [.io y0, .d (.str m), .d (.str t), x3, .d (.int z), .no, x6] ∧ 0 ≤ z ∧ z ≤ 200 ∧ (m = [] → z = 0)) ?_ ?_
  · walk_at "g"
    refine brn_d (fun w => ?_) (fun w => ?_)
    · walk_at "g"
      exact ⟨0, rfl, by decide, by decide, fun _ => rfl⟩
    · walk_at "g"
      exact ⟨z, rfl, z0, z1, fun h => absurd h w⟩
  rintro ρ ⟨z, rfl, z0, z1, z2⟩
  refine sv_then (fun ρ => ∃ (ys : List D) (t : List Nat) (x3 x5 x6 : Sl), ρ = [.io ys, .d (.str m), .d (.str t), x3, .d (.int z), x5, x6] ∧ DrE e ys ∧ (∀ c, c ∈ t ↔ c ∈ m))
    (sv_for (fun i ρ => ∃ (ys : List D) (t : List Nat) (x3 x5 x6 : Sl), ρ = [.io ys, .d (.str m), .d (.str t), x3, .d (.int z), x5, x6] ∧ DrE e ys ∧ (∀ c, c ∈ t ↔ c ∈ m) ∧ t.length ≤ 96 + i ∧ ioQ (some x5) = false ∧ ioQ (some x6) = false) (ev_ir1 ?_)) ?_
  · walk_at "g"
    refine ⟨_, rfl, by omega, by omega, ⟨_, t, _, _, _, rfl, hd0, ht, hl, rfl, h6⟩, ?_, ?_⟩
    · rintro i y hy ρ ⟨ys, t, x3, x5, x6, rfl, hd, ht, hl, h5, h6⟩
      obtain ⟨hi, rfl⟩ := rngL_get hy
      have mp : 0 < m.length := List.length_pos_iff.mpr fun h => by rw [z2 h] at hi; simp at hi
      refine ⟨_, asg_z (by exact h5), ?_⟩
      walk_at "n"
      walk_at "g"
      rename_i c hcm
      refine ⟨_, _, _, _, _, rfl, by assumption, fun d => ?_, by rw [len_ins]; omega, rfl, rfl⟩
      rw [mem_ins, ht]
      exact ⟨fun h => h.elim id fun h => by rw [h]; exact hcm, .inl⟩
    · rintro ρ ⟨ys, t, x3, x5, x6, rfl, hd, ht, hl, h5, h6⟩
      exact ⟨_, t, _, _, _, rfl, hd, ht⟩
  rintro ρ ⟨ys, t, x3, x5, x6, rfl, hd, ht⟩
  walk_at "g"
  walk_at "n"
  refine q t _ ?_ hd
  refine Eq.trans (List.filter_congr fun c _ => ?_) (fil_sgn hm)
  exact decide_eq_decide.mpr (ht c)
end K01
namespace K01
open Sw L2
theorem at_last {α : Type} (xs : List α) (x : α) : atI (xs ++ [x]) (-1) = some x := by
  unfold atI
  rw [List.length_append]
  have e : ixN (xs.length + [x].length) (-1) = some xs.length := by
    simp [ixN]
    try omega
  rw [e]
  show (xs ++ [x])[xs.length]? = _
  rw [List.getElem?_concat_length]
theorem runs_lt {a : List Nat} (asc : AscL a) (ha : ∀ i ∈ a, i < 96) : ∀ p ∈ runsI a, p.1 < 96 ∧ p.2 < 96 := fun p hp => by
  rw [(runs_len a asc ha).1] at hp
  have h := List.of_mem_zip hp
  exact ⟨ha _ (List.mem_filter.mp h.1).1, ha _ (List.mem_filter.mp h.2).1⟩
theorem runs_le {a : List Nat} (asc : AscL a) (ha : ∀ i ∈ a, i < 96) : (runsI a).length ≤ a.length := by
  obtain ⟨e, l⟩ := runs_len a asc ha
  rw [e, List.length_zip, ← l, Nat.min_self]
  exact List.filter_sublist.length_le
theorem ix_last (n : Nat) : ixN (n + 1) (-1) = some n := by
  simp [ixN]
  try omega
theorem ne_same {x : D} (h : shD x = true) (h0 : fNeS x x = none) : fNe x x = some (.bl false) := by
  show orF fNeS fNeD _ _ = _
  unfold orF
  rw [h0]
  show fNeD _ _ = _
  unfold fNeD
  rw [h]
  have e := eqD_same h
  unfold fEqD at e
  rw [h] at e
  have e' : some (D.bl ((toP x).eqv (toP x))) = some (D.bl true) := e
  show some (D.bl (!(toP x).eqv (toP x))) = _
  rw [Option.some.injEq, D.bl.injEq] at e'
  rw [e']
  rfl
theorem g_ok {i : Nat} (h : i < 96) : okD (.str [g i]) = true := by
  have hs : ∀ c ∈ SGN, c < 55296 := by decide
  show ([g i].all fun c => decide (c < 55296)) = true
  rw [List.all_cons, decide_eq_true (hs _ (g_sgn h))]
  rfl
theorem RD_sh {p : Nat × Nat} (h1 : p.1 < 96) (h2 : p.2 < 96) : shD (RD p) = true := shD_of (by
  show (okD (.str [g p.1]) && (okD (.str [g p.2]) && true)) = true
  rw [g_ok h1, g_ok h2]
  rfl) (by
  show max 0 (max 0 0) + 1 ≤ 64
  decide)
theorem runs_ok {a : List Nat} (asc : AscL a) (ha : ∀ i ∈ a, i < 96) (hs : (a.map g).length ≤ 96) {Q : Vl → List (List D) → Prop} (q : Q (.fr ((runsI a).map RD)) []) : Fv f_law_runs [.da (.str (a.map g))] Q := by
  have hS := SGN_lim
  have hl : a.length ≤ 96 := by rw [List.length_map] at hs; exact hs
  refine fv_fn rfl ?_
  walk_at "n"
  unfold b_law_runs
  rw [signs_eq]
  walk_at "gS"
  have src : ∀ {Q' : List D → Rho → Prop} {ρ : Rho}, ρ[0]? = some (.d (.str (a.map g))) → Q' (a.map fun i => D.str [g i]) ρ → Ev (iSq (eVar 0)) ρ Q' := fun h q' => ev_isqd (ev_vd h ⟨.str (a.map g), rfl, by
    show some ((a.map g).map fun c => D.str [c]) = _
    rw [List.map_map]
    rfl, q'⟩)
  refine sv_then (fun ρ => ∃ (x3 : Sl), ρ = [.d (.str (a.map g)), .d (.str SGN), .ow ((runsI a).map RD), x3])
    (sv_for (fun i ρ => ∃ (x3 : Sl), ρ = [.d (.str (a.map g)), .d (.str SGN), .ow ((runsI (a.take i)).map RD), x3] ∧ (runsI (a.take i)).length ≤ i ∧ ioQ (some x3) = false) (src rfl ?_)) ?_
  · refine ⟨⟨_, rfl, Nat.zero_le _, rfl⟩, ?_, ?_⟩
    · rintro i y hy ρ ⟨x3, rfl, hrl, h3⟩
      rw [List.getElem?_map] at hy
      obtain ⟨c, hc, rfl⟩ := Option.map_eq_some_iff.mp hy
      have hlt := (List.getElem?_eq_some_iff.mp hc).1
      have hc96 := ha c (List.mem_of_getElem? hc)
      refine ⟨_, asg_z (by exact h3), ?_⟩
      walk_at "n"
      have asc' : AscL (a.take i) := List.Pairwise.sublist (List.take_sublist _ _) asc
      have ha' : ∀ j ∈ a.take i, j < 96 := fun j hj => ha j (List.mem_of_mem_take hj)
      have asc2 : AscL (a.take (i + 1)) := List.Pairwise.sublist (List.take_sublist _ _) asc
      have ha2 : ∀ j ∈ a.take (i + 1), j < 96 := fun j hj => ha j (List.mem_of_mem_take hj)
      have hle2 := runs_le asc2 ha2
      have hlt' := runs_lt asc' ha'
      have step : runsI (a.take (i + 1)) = addR (runsI (a.take i)) c := by
        rw [take_s hc]
        unfold runsI
        rw [List.foldl_append]
        rfl
      rw [List.length_take] at hle2
      rw [step] at hle2 ⊢
      generalize runsI (a.take i) = rs at hrl hlt' hle2 ⊢
      have room : (rs.map RD).length < lim := by rw [List.length_map]; show _ < 16777216; omega
      rcases List.eq_nil_or_concat rs with e | ⟨Y, p, e⟩
      · subst e
        walk_at "g"
        refine app rfl rfl room ?_
        exact ⟨_, rfl, by show 1 ≤ i + 1; omega, rfl⟩
      · rw [List.concat_eq_append] at e
        subst e
        obtain ⟨p1, p2⟩ := hlt' p (by simp)
        have ml : (Y ++ [p]).map RD = Y.map RD ++ [RD p] := by rw [List.map_append]; rfl
        have al : atI ((Y ++ [p]).map RD) (-1) = some (RD p) := by rw [ml]; exact at_last _ _
        have ad : addR (Y ++ [p]) c = if p.2 + 1 = c then Y ++ [(p.1, c)] else Y ++ [p] ++ [(c, c)] := by
          unfold addR
          rw [List.getLast?_concat]
          dsimp only
          rw [List.dropLast_concat]
        rw [ad] at hle2 ⊢
        walk_at "g"
        rw [find_g p2, find_g hc96]
        have pos : 0 < (((Y ++ [p]).map RD).length : Int) := by rw [List.length_map, List.length_append]; simp only [List.length_cons, List.length_nil]; omega
        refine brn_d (fun z => ?_) (fun z => ?_)
        · have z' : p.2 + 1 = c := by have := z.2; omega
          rw [if_pos z'] at hle2 ⊢
          refine sv_seti_l ?_
          walk_at "g"
          refine ⟨_, _, rfl, rfl, ?_⟩
          walk_at "g"
          have ln : ((Y ++ [p]).map RD).length = Y.length + 1 := by rw [List.length_map, List.length_append]; rfl
          have sl : ((Y ++ [p]).map RD).set Y.length (.tup [.str [g p.1], .str [g c]]) = (Y ++ [(p.1, c)]).map RD := by
            rw [ml, List.map_append, show Y.length = (Y.map RD).length from (List.length_map _).symm, List.set_append_right _ _ (Nat.le_refl _), Nat.sub_self]
            rfl
          refine ⟨_, Y.length, rfl, by rw [ln]; exact ix_last _, .d (.str [g c]), ?_, by omega, rfl⟩
          rw [← sl]
          rfl
        · have z' : ¬ p.2 + 1 = c := fun e => z ⟨pos, by omega⟩
          rw [if_neg z'] at hle2 ⊢
          walk_at "g"
          refine app rfl rfl room ?_
          refine ⟨.d (.str [g c]), ?_, by omega, rfl⟩
          rw [show (Y ++ [p] ++ [(c, c)]).map RD = (Y ++ [p]).map RD ++ [RD (c, c)] from by rw [List.map_append]; rfl]
          rfl
    · rintro ρ ⟨x3, rfl, hrl, h3⟩
      rw [List.length_map, List.take_length]
      exact ⟨_, rfl⟩
  rintro ρ ⟨x3, rfl⟩
  walk_at "g"
  walk_at "n"
  exact q
theorem same_runs_ok {rs : List (Nat × Nat)} (hr : ∀ p ∈ rs, p.1 < 96 ∧ p.2 < 96) (hl : rs.length ≤ 96) {Q : Vl → List (List D) → Prop} (q : Q (.fz (.bl true)) []) : Fv f_law_same_runs [.da (.lst (rs.map RD)), .da (.lst (rs.map RD))] Q := by
  refine fv_fn rfl ?_
  walk_at "n"
  unfold b_law_same_runs
  walk_at "gS"
  refine sv_if_s ?_
  walk_at "g"
  refine brn_df (fun z => by rcases z with z | z; · cases z
                             · exact z rfl) ?_
  walk_at "gS"
  have hlen : (rs.map RD).length = rs.length := List.length_map _
  refine sv_then (fun ρ => ∃ (x2 x3 : Sl), ρ = [.d (.lst (rs.map RD)), .d (.lst (rs.map RD)), x2, x3])
    (sv_for (fun i ρ => ∃ (x2 x3 : Sl), ρ = [.d (.lst (rs.map RD)), .d (.lst (rs.map RD)), x2, x3] ∧ ioQ (some x2) = false ∧ ioQ (some x3) = false) (ev_ir1 ?_)) ?_
  · walk_at "g"
    refine ⟨_, rfl, by omega, by omega, ⟨_, _, rfl, rfl, rfl⟩, ?_, ?_⟩
    · rintro i y hy ρ ⟨x2, x3, rfl, h2, h3⟩
      obtain ⟨hi, rfl⟩ := rngL_get hy
      have hi' : i < rs.length := by rw [hlen] at hi; omega
      obtain ⟨p1, p2⟩ := hr rs[i] (List.getElem_mem hi')
      have gi : atI (rs.map RD) (0 + (i : Int)) = some (RD rs[i]) := by rw [show (0 : Int) + (i : Int) = ((i : Nat) : Int) by omega, atI_lit', List.getElem?_map, List.getElem?_eq_getElem hi']; rfl
      refine ⟨_, asg_z (by exact h2), ?_⟩
      walk_at "n"
      walk_at "gS"
      refine sv_if_s ?_
      walk_at "g"
      refine brn_df (fun z => by rcases z with z | z; · cases z
                                 · exact z rfl) ?_
      walk_at "g"
      refine giv (ne_same (RD_sh p1 p2) rfl) ?_
      walk_at "g"
      exact ⟨_, _, rfl, rfl, rfl⟩
    · rintro ρ ⟨x2, x3, rfl, h2, h3⟩
      exact ⟨_, _, rfl⟩
  rintro ρ ⟨x2, x3, rfl⟩
  walk_at "g"
  walk_at "n"
  exact q
end K01
namespace K01
open Sw L2
theorem ev_iOwn {s : List Nat} {m : M Vl} {ρ : Rho} {Q : List D → Rho → Prop} (h : Ev m ρ fun r ρ1 => r = .fz (OD s) ∧ Q (s.map fun c => .str [c]) ρ1) : Ev (iOwn "SignSet" "_signs" m) ρ Q := by
  obtain ⟨r, ρ1, e, rfl, q⟩ := h
  refine ⟨_, ρ1, ?_, q⟩
  unfold iOwn
  rw [e]
  rfl
theorem ev_newO {s : List Nat} {m : M Vl} {ρ : Rho} {Q : Vl → Rho → Prop} (hs : s.length ≤ 96) (h : Ev m ρ fun r ρ1 => r = .fz (OD s) ∧ Q (.fr (s.map fun c => .str [c])) ρ1) : Ev (eNewO "SignSet" "_signs" f_SignSet_len m) ρ Q := by
  obtain ⟨r, ρ1, e, rfl, q⟩ := h
  refine ⟨_, ρ1, ?_, q⟩
  have hl : lenOk f_SignSet_len (OD s) = true := by
    obtain ⟨r, os, e1, rfl⟩ : Fv f_SignSet_len [.da (OD s)] fun r os => r = .fz (.int s.length) := len_ok hs rfl
    unfold lenOk
    rw [e1]
    exact decide_eq_true ⟨by omega, by omega⟩
  unfold eNewO
  rw [e]
  show (if lenOk f_SignSet_len (OD s) = true then _ else none) = _
  rw [if_pos hl]
  show (if (s.map fun c => D.str [c]).length < 16777216 then _ else _) = _
  rw [if_pos (by rw [List.length_map]; omega)]
theorem giv_lenO {c : PySem.Str} {f : Fn} {ks : List PySem.Str} {xs : List D} {Q : D → Prop} (q : Fv f [.da (.obj c ks xs)] fun r _ => ∃ z, r = .fz (.int z) ∧ (0 ≤ z ∧ z < 1000000000) ∧ Q (.int z)) : Giv (cLenO c f [.obj c ks xs]) Q := by
  obtain ⟨r, os, e, b, rfl, b0, q⟩ := q
  refine ⟨_, ?_, q⟩
  unfold cLenO
  show cOwnLen c f [.obj c ks xs] = _
  unfold cOwnLen
  show (if isOf c (D.obj c ks xs) = true then (f [.da (D.obj c ks xs)]).bind _ else none) = _
  rw [if_pos isOf_obj, e]
  exact if_pos b0
theorem giv_lenS {c : PySem.Str} {f : Fn} {s : List Nat} {Q : D → Prop} (h : s.length ≤ lim) (q : Q (.int s.length)) : Giv (cLenO c f [.str s]) Q := by
  obtain ⟨z, e, q'⟩ : Giv (cLen [.str s]) fun z => z = .int s.length := giv_lens h rfl
  subst q'
  refine ⟨_, ?_, q⟩
  unfold cLenO
  rw [e]
theorem signs_sh {s : List Nat} (h : s.Sublist SGN) : shD (.lst (s.map fun c => D.str [c])) = true := by
  have hs : ∀ c ∈ SGN, c < 55296 := by decide
  have dp : ∀ s : List Nat, dpDs (s.map fun c => D.str [c]) = 0 := fun s => by
    induction s with
    | nil => rfl
    | cons a s ih =>
      show max 0 (dpDs (s.map fun c => D.str [c])) = 0
      rw [ih]
      rfl
  refine shD_of ?_ (by
    show dpDs _ + 1 ≤ 64
    rw [dp]
    decide)
  have ok : ∀ s : List Nat, (∀ c ∈ s, c ∈ SGN) → okDs (s.map fun c => D.str [c]) = true := fun s => by
    induction s with
    | nil => intro _; rfl
    | cons a s ih =>
      intro h
      show (([a].all fun c => decide (c < 55296)) && okDs (s.map fun c => D.str [c])) = true
      rw [ih fun c hc => h c (List.mem_cons_of_mem _ hc), List.all_cons, decide_eq_true (hs a (h a List.mem_cons_self))]
      rfl
  exact ok s h.subset
theorem walked_ok {s : List Nat} (hs : s.Sublist SGN) {Q : Vl → List (List D) → Prop} (q : Q (.fz (.bl true)) []) : Fv f_law_walked [.da (OD s), .da (.str s)] Q := by
  have l96 := sub_len hs
  have hl : s.length ≤ lim := Nat.le_trans l96 (by decide)
  refine fv_fn rfl ?_
  walk_at "n"
  unfold b_law_walked
  walk_at "gS"
  refine ev_newO l96 ?_
  walk_at "g"
  refine ⟨rfl, ?_⟩
  walk_at "gS"
  refine sv_if_s ?_
  walk_at "g"
  refine ev_lcm s (fun c => .str [c]) (fun c => .str [c]) rfl hl (fun q' => ev_isqd (ev_vd rfl ⟨.str s, rfl, rfl, q'⟩)) (fun c hc Q' q' => ?_) ?_
  · walk_at "g"
    exact q'
  walk_at "g"
  refine giv (ne_same (signs_sh hs) rfl) ?_
  walk_at "g"
  refine giv_lenO (len_ok l96 ⟨_, rfl, ⟨by omega, by omega⟩, ?_⟩)
  walk_at "g"
  refine giv_lenS hl ?_
  walk_at "g"
  refine brn_nf rfl ?_
  walk_at "gS"
  refine app rfl rfl (by rw [List.length_map]; show _ < 16777216; omega) ?_
  dsimp only [put, List.set_cons_zero, List.set_cons_succ]
  refine sv_seti_s (ev_c ⟨_, _, rfl, rfl, ev_c (isI ⟨_, 0, rfl, by simp [ixN] <;> omega, ?_⟩)⟩)
  dsimp only [put, List.set_cons_zero, List.set_cons_succ]
  generalize ((s.map fun c => D.str [c]) ++ [D.str [97]]).set 0 (.str [126]) = X2
  walk_at "gS"
  refine sv_then (fun ρ => ∃ (x4 x5 x6 : Sl), ρ = [.d (OD s), .d (.str s), .ow X2, .d (.int s.length), x4, x5, x6])
    (sv_for (fun i ρ => ∃ (x4 x5 x6 : Sl), ρ = [.d (OD s), .d (.str s), .ow X2, .d (.int (i : Nat)), x4, x5, x6] ∧ ioQ (some x4) = false ∧ ioQ (some x5) = false ∧ ioQ (some x6) = false) (ev_iOwn (s := s) ?_)) ?_
  · walk_at "g"
    refine ⟨rfl, ⟨_, _, _, rfl, rfl, rfl, rfl⟩, ?_, ?_⟩
    · rintro i y hy ρ ⟨x4, x5, x6, rfl, h4, h5, h6⟩
      rw [List.getElem?_map] at hy
      obtain ⟨c, hc, rfl⟩ := Option.map_eq_some_iff.mp hy
      have hi := (List.getElem?_eq_some_iff.mp hc).1
      have gi : atI s ((i : Nat) : Int) = some c := by rw [atI_lit', hc]
      refine ⟨_, asg_z (by exact h4), ?_⟩
      walk_at "n"
      refine sv_if_s ?_
      walk_at "g"
      refine giv_lenS hl ?_
      walk_at "g"
      refine brn_df (by omega) ?_
      walk_at "g"
      refine brn_df (fun z => by rcases z with z | z; · cases z
                                 · exact z rfl) ?_
      walk_at "gS"
      refine brn_d (fun z => ?_) (fun z => ?_)
      · walk_at "gS"
        refine sv_then (fun ρ => ∃ x6 : Sl, ρ = [.d (OD s), .d (.str s), .ow X2, .d (.int ((i : Int) + 1)), .d (.str [c]), .d (.str s), x6] ∧ ioQ (some x6) = false)
          (sv_for (fun k ρ => ∃ x6 : Sl, ρ = [.d (OD s), .d (.str s), .ow X2, .d (.int ((i : Int) + 1)), .d (.str [c]), .d (.str (s.take k)), x6] ∧ ioQ (some x6) = false) (ev_iOwn (s := s) ?_)) ?_
        · walk_at "g"
          refine ⟨rfl, ⟨_, rfl, h6⟩, ?_, ?_⟩
          · rintro k y hy ρ ⟨x6, rfl, h6⟩
            rw [List.getElem?_map] at hy
            obtain ⟨d, hd, rfl⟩ := Option.map_eq_some_iff.mp hy
            have tk : (s.take k).length ≤ 96 := Nat.le_trans (List.take_sublist _ _).length_le l96
            refine ⟨_, asg_z (by exact h6), ?_⟩
            walk_at "n"
            walk_at "g"
            exact ⟨_, by rw [take_s hd], rfl⟩
          · rintro ρ ⟨x6, rfl, h6⟩
            rw [List.length_map, List.take_length]
            exact ⟨_, rfl, h6⟩
        rintro ρ ⟨x6, rfl, h6⟩
        walk_at "g"
        refine brn_nf rfl ?_
        walk_at "g"
        exact ⟨_, _, _, rfl, rfl, rfl, h6⟩
      · walk_at "g"
        exact ⟨_, _, _, rfl, rfl, h5, h6⟩
    · rintro ρ ⟨x4, x5, x6, rfl, _⟩
      rw [List.length_map]
      exact ⟨_, _, _, rfl⟩
  rintro ρ ⟨x4, x5, x6, rfl⟩
  walk_at "g"
  refine giv_lenS hl ?_
  walk_at "g"
  rw [decide_eq_true rfl]
  walk_at "n"
  exact q
end K01
namespace K01
open Sw L2
theorem nls_RD : ∀ rs : List (Nat × Nat), nlDs (rs.map RD) = true
  | [] => rfl
  | p :: rs => by
    show (nlD (RD p) && nlDs (rs.map RD)) = true
    rw [nls_RD rs]
    rfl
theorem views_ok {s : List Nat} (hs : s.Sublist SGN) {Q : Vl → List (List D) → Prop} (q : Q (.fz (.bl true)) []) : Fv f_law_views [.da (OD s), .da (.str s)] Q := by
  obtain ⟨a, asc, ha, rfl⟩ := places hs
  have l96 := sub_len hs
  have hl : (a.map g).length ≤ lim := Nat.le_trans l96 (by decide)
  have rl : (runsI a).length ≤ 96 := Nat.le_trans (runs_le asc ha) (by rw [List.length_map] at l96; exact l96)
  refine fv_fn rfl ?_
  walk_at "n"
  unfold b_law_views
  refine sv_if_s ?_
  walk_at "g"
  refine members_ok ?_
  walk_at "g"
  refine members_ok ?_
  walk_at "g"
  refine brn_nf rfl ?_
  walk_at "gS"
  refine sv_then (fun ρ => ρ = [.d (OD (a.map g)), .d (.str (a.map g)), .no]) ?_ ?_
  · cases ht : a.map g with
    | nil =>
      walk_at "g"
      refine brn_dt rfl ?_
      walk_at "g"
      refine least_ok (by decide) (fun _ => ?_) (fun c t e => by cases e)
      walk_at "g"
      rfl
    | cons c t =>
      walk_at "g"
      refine brn_df (List.cons_ne_nil _ _) ?_
      walk_at "g"
      rfl
  rintro ρ rfl
  refine sv_then (fun ρ => ρ = [.d (OD (a.map g)), .d (.str (a.map g)), .no]) ?_ ?_
  · cases ht : a.map g with
    | nil =>
      walk_at "g"
      refine brn_nf rfl ?_
      walk_at "g"
      rfl
    | cons c t =>
      have h00 : atI (c :: t) 0 = some c := atI_zero
      have l2 : (c :: t).length ≤ 96 := by rw [← ht]; exact l96
      walk_at "g"
      refine brn_nt (List.cons_ne_nil _ _) ?_
      walk_at "g"
      refine least_ok l2 (fun e => by cases e) (fun c' t' e => ?_)
      cases e
      walk_at "g"
      refine least_ok l2 (fun e => by cases e) (fun c' t' e => ?_)
      cases e
      walk_at "g"
      refine brn_nf rfl ?_
      walk_at "g"
      rfl
  rintro ρ rfl
  walk_at "gS"
  refine ranges_ok asc ha l96 ?_
  walk_at "gS"
  refine sv_if_s ?_
  walk_at "g"
  refine ev_callL ?_
  walk_at "g"
  refine runs_ok asc ha l96 ?_
  walk_at "g"
  refine argL rfl rfl (same_runs_ok (runs_lt asc ha) rl ⟨rfl, ?_⟩)
  walk_at "gS"
  refine app rfl rfl (by rw [List.length_map]; show _ < 16777216; omega) ?_
  dsimp only [put, List.set_cons_zero, List.set_cons_succ]
  refine sv_seti_s ?_
  walk_at "g"
  refine ⟨_, _, rfl, rfl, ?_⟩
  walk_at "g"
  refine ⟨_, 0, rfl, by simp [ixN] <;> omega, ?_⟩
  walk_at "g"
  refine ranges_ok asc ha l96 ?_
  walk_at "g"
  refine runs_ok asc ha l96 ?_
  walk_at "g"
  refine same_runs_ok (runs_lt asc ha) rl ?_
  walk_at "g"
  refine walked_ok hs ?_
  walk_at "g"
  walk_at "n"
  exact q
end K01
namespace K01
open Sw L2
/-- the places lo .. hi -/
abbrev RN (i j : Nat) : List Nat := (SGN.drop i).take (j + 1 - i)
theorem RN_sub (i j : Nat) : (RN i j).Sublist SGN := (List.take_sublist _ _).trans (List.drop_sublist _ _)
theorem giv_ownEq {c : PySem.Str} {f : Fn} {x y : D} {Q : D → Prop} (hx : isOf c x = true) (hy : isOf c y = true) (q : Fv f [.da x, .da y] fun r _ => ∃ b, r = .fz (.bl b) ∧ Q (.bl b)) : Giv (fOwnEq c f x y) Q := by
  obtain ⟨r, os, e, b, rfl, q⟩ := q
  refine ⟨_, ?_, q⟩
  unfold fOwnEq
  rw [hx, hy, if_pos (show (true && (true || _)) = true from rfl), e]
  rfl
theorem giv_ownEqT {c : PySem.Str} {f : Fn} {x : D} {t : List Nat} {Q : D → Prop} (hx : isOf c x = true) (q : Fv f [.da x, .da (.str t)] fun r _ => ∃ b, r = .fz (.bl b) ∧ Q (.bl b)) : Giv (fOwnEq c f x (.str t)) Q := by
  obtain ⟨r, os, e, b, rfl, q⟩ := q
  refine ⟨_, ?_, q⟩
  have hc : (isOf c x && (isOf c (.str t) || (!isO (.str t) && notL (.str t) && !fOwnEq.isScr (.str t)))) = true := by
    rw [hx]
    rfl
  unfold fOwnEq
  rw [if_pos hc, e]
  rfl
theorem giv_ownEqL {c : PySem.Str} {f : Fn} {x : D} {t : List D} {Q : D → Prop} (hx : isOf c x = true) (q : Fv f [.da x, .da (.lst t)] fun r _ => ∃ b, r = .fz (.bl b) ∧ Q (.bl b)) : Giv (fOwnEqL c f x (.lst t)) Q := by
  obtain ⟨r, os, e, b, rfl, q⟩ := q
  refine ⟨_, ?_, q⟩
  unfold fOwnEqL
  rw [if_pos hx]
  dsimp only
  rw [e]
  rfl
theorem eq_okT {s t : List Nat} {Q : Vl → List (List D) → Prop} (q : Q (.fz (.bl false)) []) : Fv f_SignSet_eq [.da (OD s), .da (.str t)] Q := by
  refine fv_fn rfl ?_
  walk_at "n"
  unfold b_SignSet_eq
  walk_at "g"
  first | refine giv (rfl : fIsC _ (.str t) = some (.bl false)) ?_ | skip
  walk_at "g"
  walk_at "n"
  exact q
theorem eq_okL {s : List Nat} {t : List D} {Q : Vl → List (List D) → Prop} (q : Q (.fz (.bl false)) []) : Fv f_SignSet_eq [.da (OD s), .da (.lst t)] Q := by
  refine fv_fn rfl ?_
  walk_at "n"
  unfold b_SignSet_eq
  walk_at "g"
  first | refine giv (rfl : fIsC _ (.lst t) = some (.bl false)) ?_ | skip
  walk_at "g"
  walk_at "n"
  exact q
theorem four {a b c d k : Int} (h0 : 0 ≤ k) (h1 : k < 4) (ha : 0 ≤ a ∧ a < 96) (hb : 0 ≤ b ∧ b < 96) (hc : 0 ≤ c ∧ c < 96) (hd : 0 ≤ d ∧ d < 96) : ∃ z : Int, atI [D.int a, D.int b, D.int c, D.int d] k = some (.int z) ∧ 0 ≤ z ∧ z < 96 := by
  have : k = 0 ∨ k = 1 ∨ k = 2 ∨ k = 3 := by omega
  rcases this with rfl | rfl | rfl | rfl
  · exact ⟨a, rfl, ha⟩
  · exact ⟨b, rfl, hb⟩
  · exact ⟨c, rfl, hc⟩
  · exact ⟨d, rfl, hd⟩
theorem law_fv (ns : List Int) (hn : ns.length ≤ 63) : Fv f_law [.da (.scr ns)] fun r os => r = .fz (.bl true) ∧ os = [] := by
  have hS := SGN_lim
  refine fv_fn rfl ?_
  walk_at "n"
  unfold b_law
  rw [next_eq, draw_eq, signs_eq]
  walk_at "gS"
  refine subset_ok (by assumption) fun a y1 ha hd1 => ?_
  walk_at "gS"
  refine near_ok hd1 ha fun b y2 hb hd2 => ?_
  walk_at "gS"
  refine obj_okE ?_
  walk_at "g"
  refine mixed_ok hd2 ha fun t1 y3 ht1 hd3 => ?_
  walk_at "g"
  refine ⟨t1, rfl, ?_⟩
  rw [ht1]
  walk_at "gS"
  refine obj_okE ?_
  walk_at "g"
  refine mixed_ok hd3 ha fun t2 y4 ht2 hd4 => ?_
  walk_at "g"
  refine ⟨t2, rfl, ?_⟩
  rw [ht2]
  walk_at "gS"
  refine obj_okE ?_
  walk_at "g"
  refine mixed_ok hd4 hb fun t3 y5 ht3 hd5 => ?_
  walk_at "g"
  refine ⟨t3, rfl, ?_⟩
  rw [ht3]
  walk_at "gS"
  rename_i lo yl l0 l1 hl rb yb b0 b1 hb' k yk k0 k1 hk
  obtain ⟨z, hz, z0, z1⟩ := four (a := lo) (b := (lo + 1) % 96) (c := (lo + 95) % 96) (d := rb) k0 k1 ⟨l0, l1⟩ (by omega) (by omega) ⟨b0, b1⟩
  obtain ⟨i, rfl⟩ : ∃ i : Nat, lo = i := ⟨lo.toNat, by omega⟩
  obtain ⟨j, rfl⟩ : ∃ j : Nat, z = j := ⟨z.toNat, by omega⟩
  have hi : i < 96 := by omega
  have hj : j < 96 := by omega
  refine giv_ixl hz ?_
  refine ⟨_, asg_z rfl, ?_⟩
  walk_at "n"
  have gi : atI SGN ((i : Nat) : Int) = some (g i) := by rw [atI_lit', List.getElem?_eq_getElem (by rw [SGN_len]; exact hi), g_at hi]
  have gj : atI SGN ((j : Nat) : Int) = some (g j) := by rw [atI_lit', List.getElem?_eq_getElem (by rw [SGN_len]; exact hj), g_at hj]
  walk_at "gS"
  refine between_ok hi hj ?_
  walk_at "gS"
  have cut : List.take ((((j : Nat) : Int) + 1).toNat - ((i : Nat) : Int).toNat) (List.drop ((i : Nat) : Int).toNat SGN) = RN i j := by
    rw [show (((j : Nat) : Int) + 1).toNat = j + 1 by omega, show ((i : Nat) : Int).toNat = i by omega]
  have aDef0 : ∀ {ds : List D} {ρ : Rho} {Q : List Vl → Rho → Prop}, Q (ds.map .fz) ρ → Ev (aDef aNil ds) ρ Q := fun q => ⟨_, _, rfl, q⟩
  have e0 : (SGN.filter fun c => decide (c ∈ ([] : List Nat))) = [] := fil_sgn (List.nil_sublist _)
  have la := sub_len ha
  have lb := sub_len hb
  have lr := sub_len (RN_sub i j)
  have all_self : ∀ s : List Nat, (s.all fun c => decide (c ∈ s)) = true := fun s => List.all_eq_true.mpr fun c hc => decide_eq_true hc
  refine sv_then (fun ρ => ∃ (x11 : Sl), ρ = [.d (.scr ns), .ow yk, .d (.str SGN), .d (.str a), .d (.str b), .d (OD a), .d (OD a), .d (OD b), .d (.int (i : Nat)), .d (.int (j : Nat)), .d (OD (RN i j)), x11, .no])
    (sv_for (fun k ρ => ∃ (x11 : Sl), ρ = [.d (.scr ns), .ow yk, .d (.str SGN), .d (.str a), .d (.str b), .d (OD a), .d (OD a), .d (OD b), .d (.int (i : Nat)), .d (.int (j : Nat)), .d (OD (RN i j)), x11, .no] ∧ ioQ (some x11) = false) (ev_ir1 ?_)) ?_
  · walk_at "g"
    refine ⟨_, rfl, by omega, by omega, ⟨_, rfl, rfl⟩, ?_, ?_⟩
    · rintro k y hy ρ ⟨x11, rfl, h11⟩
      refine ⟨_, asg_z (by exact h11), ?_⟩
      walk_at "n"
      refine sv_if_s ?_
      walk_at "g"
      refine views_ok ha ?_
      walk_at "g"
      refine views_ok ha ?_
      walk_at "g"
      refine views_ok hb ?_
      walk_at "gS"
      refine sv_if_s ?_
      walk_at "g"
      rw [cut]
      refine views_ok (RN_sub i j) ?_
      walk_at "g"
      refine obj_okE (aDef0 ⟨[], rfl, ?_⟩)
      rw [e0]
      walk_at "g"
      refine views_ok (List.nil_sublist _) ?_
      walk_at "gS"
      refine sv_if_s ?_
      walk_at "g"
      refine giv_ownEq isOf_obj isOf_obj (eq_ok ⟨_, rfl, ?_⟩)
      walk_at "g"
      refine told_ok (decide_eq_true rfl) ?_
      walk_at "g"
      refine giv_ownEq isOf_obj isOf_obj (eq_ok ⟨_, rfl, ?_⟩)
      walk_at "g"
      refine told_ok (decide_eq_true rfl) ?_
      walk_at "g"
      refine giv_ownEq isOf_obj isOf_obj (eq_ok ⟨_, rfl, ?_⟩)
      walk_at "g"
      refine told_ok rfl ?_
      walk_at "gS"
      refine sv_if_s ?_
      walk_at "g"
      refine giv_ownEq isOf_obj isOf_obj (eq_ok ⟨_, rfl, ?_⟩)
      walk_at "g"
      refine told_ok (decide_eq_decide.mpr ⟨Eq.symm, Eq.symm⟩) ?_
      walk_at "g"
      refine giv_ownEq isOf_obj isOf_obj (eq_ok ⟨_, rfl, ?_⟩)
      walk_at "g"
      rw [cut]
      refine told_ok rfl ?_
      walk_at "gS"
      refine sv_if_s ?_
      walk_at "g"
      refine told_ok rfl ?_
      walk_at "g"
      refine ev_lcm a (fun c => .str [c]) (fun c => .str [c]) rfl (Nat.le_trans la (by decide)) (fun q' => ev_isqd (ev_vd rfl ⟨.str a, rfl, rfl, q'⟩)) (fun c hc Q' q' => ?_) ?_
      · walk_at "g"
        exact q'
      walk_at "g"
      first
        | (refine giv_ownEqL isOf_obj (eq_okL ⟨_, rfl, ?_⟩); walk_at "g")
        | skip
      refine told_ok rfl ?_
      walk_at "gS"
      refine sv_if_s ?_
      walk_at "g"
      refine within_ok la ?_
      walk_at "g"
      refine inside_ok la ?_
      walk_at "g"
      refine told_ok rfl ?_
      walk_at "g"
      refine within_ok lb ?_
      walk_at "g"
      refine inside_ok lb ?_
      walk_at "g"
      refine told_ok rfl ?_
      walk_at "gS"
      refine sv_if_s ?_
      walk_at "g"
      refine within_ok la ?_
      walk_at "g"
      refine told_ok (all_self a) ?_
      walk_at "g"
      refine obj_okE (aDef0 ⟨[], rfl, ?_⟩)
      rw [e0]
      walk_at "g"
      refine within_ok (by decide) ?_
      walk_at "g"
      refine told_ok rfl ?_
      walk_at "gS"
      refine obj_okE (aDef0 ⟨[], rfl, ?_⟩)
      rw [e0]
      walk_at "g"
      refine within_ok la ?_
      walk_at "g"
      refine told_ok ?_ ?_
      · cases a with
        | nil => rfl
        | cons c t => rw [List.all_cons]; rfl
      walk_at "g"
      refine within_ok la ?_
      walk_at "g"
      rw [cut]
      refine inside_ok la ?_
      walk_at "g"
      refine told_ok rfl ?_
      walk_at "g"
      exact ⟨_, rfl, rfl⟩
    · rintro ρ ⟨x11, rfl, h11⟩
      exact ⟨_, rfl⟩
  rintro ρ ⟨x11, rfl⟩
  walk_at "g"
  walk_at "n"
  exact ⟨rfl, rfl⟩
theorem law_true (ns : List Int) (hn : ns.length ≤ 63) : f_law [.da (.scr ns)] = some (.fz (.bl true), []) := by
  obtain ⟨r, os, e, rfl, rfl⟩ := law_fv ns hn
  exact e
end K01
namespace K01
open PySem PySem.Spec PyProof.Rows L2 Sw

def topS (i : Nat) : Stmt := PySem.Challenge.pw_surespan_k01_set_views.main.body.getD i (.Pass ⟨0, 0, 0, 0⟩)
abbrev st_init_SignSet : Stmt := inClass (topS 4) 0
abbrev N_init_SignSet : List Str := ["self", "signs", "sign"]
abbrev P_init_SignSet : List Str := ["self", "signs"]
theorem sc_init_SignSet : FnScope N_init_SignSet P_init_SignSet (defScope st_init_SignSet) := ⟨rfl, rfl, rfl, by decide +kernel, rfl, by decide +kernel, by decide +kernel⟩
abbrev st_rank : Stmt := topS 2
abbrev N_rank : List Str := ["sign"]
abbrev P_rank : List Str := ["sign"]
theorem sc_rank : FnScope N_rank P_rank (defScope st_rank) := ⟨rfl, rfl, rfl, by decide +kernel, rfl, by decide +kernel, by decide +kernel⟩
abbrev st_SignSet_between : Stmt := inClass (topS 4) 1
abbrev N_SignSet_between : List Str := ["first", "last"]
abbrev P_SignSet_between : List Str := ["first", "last"]
theorem sc_SignSet_between : FnScope N_SignSet_between P_SignSet_between (defScope st_SignSet_between) := ⟨rfl, rfl, rfl, by decide +kernel, rfl, by decide +kernel, by decide +kernel⟩
abbrev st_SignSet_eq : Stmt := inClass (topS 4) 13
abbrev N_SignSet_eq : List Str := ["self", "other"]
abbrev P_SignSet_eq : List Str := ["self", "other"]
theorem sc_SignSet_eq : FnScope N_SignSet_eq P_SignSet_eq (defScope st_SignSet_eq) := ⟨rfl, rfl, rfl, by decide +kernel, rfl, by decide +kernel, by decide +kernel⟩
abbrev st_SignSet_within : Stmt := inClass (topS 4) 5
abbrev N_SignSet_within : List Str := ["self", "other", "sign"]
abbrev P_SignSet_within : List Str := ["self", "other"]
theorem sc_SignSet_within : FnScope N_SignSet_within P_SignSet_within (defScope st_SignSet_within) := ⟨rfl, rfl, rfl, by decide +kernel, rfl, by decide +kernel, by decide +kernel⟩
abbrev st_law_draw : Stmt := topS 6
abbrev N_law_draw : List Str := ["_law_script", "_law_digits", "_law_one", "_law_two", "_law_cell", "_law_rest", "_law_k"]
abbrev P_law_draw : List Str := ["_law_script"]
theorem sc_law_draw : FnScope N_law_draw P_law_draw (defScope st_law_draw) := ⟨rfl, rfl, rfl, by decide +kernel, rfl, by decide +kernel, by decide +kernel⟩
abbrev st_law_inside : Stmt := topS 16
abbrev N_law_inside : List Str := ["_law_one", "_law_two", "_law_sign"]
abbrev P_law_inside : List Str := ["_law_one", "_law_two"]
theorem sc_law_inside : FnScope N_law_inside P_law_inside (defScope st_law_inside) := ⟨rfl, rfl, rfl, by decide +kernel, rfl, by decide +kernel, by decide +kernel⟩
abbrev st_law_next : Stmt := topS 7
abbrev N_law_next : List Str := ["_law_draw_here", "_law_many", "_law_at"]
abbrev P_law_next : List Str := ["_law_draw_here", "_law_many"]
theorem sc_law_next : FnScope N_law_next P_law_next (defScope st_law_next) := ⟨rfl, rfl, rfl, by decide +kernel, rfl, by decide +kernel, by decide +kernel⟩
abbrev st_law_mixed : Stmt := topS 11
abbrev N_law_mixed : List Str := ["_law_draw_here", "_law_members", "_law_text", "_law_sign", "_law_many", "_law_k", "_law_at"]
abbrev P_law_mixed : List Str := ["_law_draw_here", "_law_members"]
theorem sc_law_mixed : FnScope N_law_mixed P_law_mixed (defScope st_law_mixed) := ⟨rfl, rfl, rfl, by decide +kernel, rfl, by decide +kernel, by decide +kernel⟩
abbrev st_law_signs : Stmt := topS 8
abbrev N_law_signs : List Str := ["_law_signs_here"]
abbrev P_law_signs : List Str := []
theorem sc_law_signs : FnScope N_law_signs P_law_signs (defScope st_law_signs) := ⟨rfl, rfl, rfl, by decide +kernel, rfl, by decide +kernel, by decide +kernel⟩
abbrev st_law_subset : Stmt := topS 9
abbrev N_law_subset : List Str := ["_law_draw_here", "_law_signs_here", "_law_choice", "_law_many", "_law_low", "_law_few", "_law_k", "_law_sign"]
abbrev P_law_subset : List Str := ["_law_draw_here"]
theorem sc_law_subset : FnScope N_law_subset P_law_subset (defScope st_law_subset) := ⟨rfl, rfl, rfl, by decide +kernel, rfl, by decide +kernel, by decide +kernel⟩
abbrev st_law_near : Stmt := topS 10
abbrev N_law_near : List Str := ["_law_draw_here", "_law_first", "_law_signs_here", "_law_choice", "_law_rest", "_law_turned", "_law_gone", "_law_come", "_law_sign"]
abbrev P_law_near : List Str := ["_law_draw_here", "_law_first"]
theorem sc_law_near : FnScope N_law_near P_law_near (defScope st_law_near) := ⟨rfl, rfl, rfl, by decide +kernel, rfl, by decide +kernel, by decide +kernel⟩
abbrev st_law_told : Stmt := topS 17
abbrev N_law_told : List Str := ["_law_found", "_law_due"]
abbrev P_law_told : List Str := ["_law_found", "_law_due"]
theorem sc_law_told : FnScope N_law_told P_law_told (defScope st_law_told) := ⟨rfl, rfl, rfl, by decide +kernel, rfl, by decide +kernel, by decide +kernel⟩
abbrev st_SignSet_least : Stmt := inClass (topS 4) 3
abbrev N_SignSet_least : List Str := ["self"]
abbrev P_SignSet_least : List Str := ["self"]
theorem sc_SignSet_least : FnScope N_SignSet_least P_SignSet_least (defScope st_SignSet_least) := ⟨rfl, rfl, rfl, by decide +kernel, rfl, by decide +kernel, by decide +kernel⟩
abbrev st_SignSet_members : Stmt := inClass (topS 4) 2
abbrev N_SignSet_members : List Str := ["self"]
abbrev P_SignSet_members : List Str := ["self"]
theorem sc_SignSet_members : FnScope N_SignSet_members P_SignSet_members (defScope st_SignSet_members) := ⟨rfl, rfl, rfl, by decide +kernel, rfl, by decide +kernel, by decide +kernel⟩
abbrev st_SignSet_ranges : Stmt := inClass (topS 4) 4
abbrev N_SignSet_ranges : List Str := ["self", "signs", "firsts", "lasts", "sign"]
abbrev P_SignSet_ranges : List Str := ["self"]
theorem sc_SignSet_ranges : FnScope N_SignSet_ranges P_SignSet_ranges (defScope st_SignSet_ranges) := ⟨rfl, rfl, rfl, by decide +kernel, rfl, by decide +kernel, by decide +kernel⟩
abbrev st_law_runs : Stmt := topS 12
abbrev N_law_runs : List Str := ["_law_members", "_law_signs_here", "_law_runs_here", "_law_sign"]
abbrev P_law_runs : List Str := ["_law_members"]
theorem sc_law_runs : FnScope N_law_runs P_law_runs (defScope st_law_runs) := ⟨rfl, rfl, rfl, by decide +kernel, rfl, by decide +kernel, by decide +kernel⟩
abbrev st_law_same_runs : Stmt := topS 13
abbrev N_law_same_runs : List Str := ["_law_found", "_law_due", "_law_k", "_law_pair"]
abbrev P_law_same_runs : List Str := ["_law_found", "_law_due"]
theorem sc_law_same_runs : FnScope N_law_same_runs P_law_same_runs (defScope st_law_same_runs) := ⟨rfl, rfl, rfl, by decide +kernel, rfl, by decide +kernel, by decide +kernel⟩
abbrev st_SignSet_iter : Stmt := inClass (topS 4) 12
abbrev N_SignSet_iter : List Str := ["self"]
abbrev P_SignSet_iter : List Str := ["self"]
theorem sc_SignSet_iter : FnScope N_SignSet_iter P_SignSet_iter (defScope st_SignSet_iter) := ⟨rfl, rfl, rfl, by decide +kernel, rfl, by decide +kernel, by decide +kernel⟩
abbrev st_SignSet_len : Stmt := inClass (topS 4) 11
abbrev N_SignSet_len : List Str := ["self"]
abbrev P_SignSet_len : List Str := ["self"]
theorem sc_SignSet_len : FnScope N_SignSet_len P_SignSet_len (defScope st_SignSet_len) := ⟨rfl, rfl, rfl, by decide +kernel, rfl, by decide +kernel, by decide +kernel⟩
abbrev st_law_walked : Stmt := topS 14
abbrev N_law_walked : List Str := ["_law_found", "_law_due", "_law_listed", "_law_at", "_law_sign", "_law_inner", "_law_other"]
abbrev P_law_walked : List Str := ["_law_found", "_law_due"]
theorem sc_law_walked : FnScope N_law_walked P_law_walked (defScope st_law_walked) := ⟨rfl, rfl, rfl, by decide +kernel, rfl, by decide +kernel, by decide +kernel⟩
abbrev st_law_views : Stmt := topS 15
abbrev N_law_views : List Str := ["_law_found", "_law_due", "_law_runs_here"]
abbrev P_law_views : List Str := ["_law_found", "_law_due"]
theorem sc_law_views : FnScope N_law_views P_law_views (defScope st_law_views) := ⟨rfl, rfl, rfl, by decide +kernel, rfl, by decide +kernel, by decide +kernel⟩
abbrev st_law : Stmt := topS 18
abbrev N_law : List Str := ["_law_script", "_law_draw_here", "_law_signs_here", "_law_first", "_law_second", "_law_a", "_law_again", "_law_b", "_law_low", "_law_high", "_law_run", "_law_k", "_law_sign"]
abbrev P_law : List Str := ["_law_script"]
theorem sc_law : FnScope N_law P_law (defScope st_law) := ⟨rfl, rfl, rfl, by decide +kernel, rfl, by decide +kernel, by decide +kernel⟩
section
variable {P : Program} {w : World} {K : PySem.W.Frag} {mg : Str → Option Value} {base : Heap}

theorem ok_init_SignSet {f : Addr} {fd : FuncData} (F : FunG K "__init__" "SignSet.__init__" st_init_SignSet f fd) {u_SIGNS : Value} (hu_SIGNS : ∃ (x : Str) (t : Tok), u_SIGNS = .str x t ∧ x.cps.toList = c_SIGNS) (c_SIGNS' : mg "SIGNS" = some u_SIGNS) {C_SignSet : Addr} (cl_SignSet : Cls K C_SignSet) (na_SignSet__signs : NoAttr K C_SignSet "_signs") :
    FnOk P w K mg base CX0 1 f fd P_init_SignSet (spI K C_SignSet 1 g_SignSet) := by
  have nd := sc_init_SignSet.nd
  refine fn_init F sc_init_SignSet rfl rfl (by decide) fun cdv A outer s H E hr => ?_
  have hu := hr.units
  exact (si0_cons (si0_fld cl_SignSet na_SignSet__signs (pv 0) (se_join (se_str (cs := []) (by decide +kernel)) (sa_cons (se_lc (own := [("sign", 2)]) rfl nd (si_seq (se_gstr hu_SIGNS c_SIGNS' rfl)) (blkOk_by (own := [("sign", 2)]) (N := N_init_SignSet) (sc := defScope st_init_SignSet) (by decide +kernel)) (by decide) (gok_name 2) (fun _ _ _ _ _ => (sg_name (i := 2) nd rfl (Or.inl rfl))) (fun _ _ _ _ _ => (sts_one (st_c oIn (se_var (pv 2)) (se_var (pv 1)) rfl))) (fun _ _ _ _ _ => (se_var (pv 2)))) sa_nil)) rfl)
    si0_nil)
theorem ok_rank {f : Addr} {fd : FuncData} (F : FunG K "rank" "rank" st_rank f fd) {u_SIGNS : Value} (hu_SIGNS : ∃ (x : Str) (t : Tok), u_SIGNS = .str x t ∧ x.cps.toList = c_SIGNS) (c_SIGNS' : mg "SIGNS" = some u_SIGNS) :
    FnOk P w K mg base CX0 1 f fd P_rank (spF K 1 f_rank) := by
  have nd := sc_rank.nd
  refine fn_ok F sc_rank rfl rfl (by decide) fun cdv A outer s H E hr => ?_
  have hu := hr.units
  exact (sb_one (ss_ret (se_find (se_gstr hu_SIGNS c_SIGNS' rfl) (sa_cons (se_var (pv 0)) sa_nil))))
theorem ok_SignSet_between {f : Addr} {fd : FuncData} (F : FunG K "between" "SignSet.between" st_SignSet_between f fd) {u_SIGNS : Value} (hu_SIGNS : ∃ (x : Str) (t : Tok), u_SIGNS = .str x t ∧ x.cps.toList = c_SIGNS) (c_SIGNS' : mg "SIGNS" = some u_SIGNS) {C_SignSet : Addr} (hC_SignSet : ClsN K "SignSet" C_SignSet) {fi_SignSet : Addr} {fdi_SignSet : FuncData} (M_SignSet : Mk K C_SignSet fi_SignSet) (okI_SignSet : FnOk P w K mg base CX0 1 fi_SignSet fdi_SignSet P_init_SignSet (spI K C_SignSet 1 g_SignSet)) (mgC_SignSet : mg "SignSet" = some (.ref C_SignSet)) (biI_SignSet : Binds K fdi_SignSet P_init_SignSet []) {a_rank : Addr} {d_rank : FuncData} (ok_rank : FnOk P w K mg base CX0 1 a_rank d_rank P_rank (spF K 1 f_rank)) (mg_rank : mg "rank" = some (.ref a_rank)) (kp_rank : PySem.W.keepIn K (.ref a_rank) = true) (bi_rank : Binds K d_rank P_rank []) :
    FnOk P w K mg base CX0 3 f fd P_SignSet_between (spF K 2 f_SignSet_between) := by
  have nd := sc_SignSet_between.nd
  refine fn_ok F sc_SignSet_between rfl rfl (by decide) fun cdv A outer s H E hr => ?_
  have hu := hr.units
  exact (sb_one (ss_ret (se_make M_SignSet hC_SignSet okI_SignSet g_SignSet_len (hr.mono (by decide)) rfl mgC_SignSet biI_SignSet (sa_cons (se_slcA (se_gstr hu_SIGNS c_SIGNS' rfl) (so_some (se_call (fs := []) ok_rank fnS_len (hr.mono (by decide)) mg_rank kp_rank bi_rank rfl (sa_cons (se_var (pv 0)) sa_nil))) (so_some (se_b oAdd (se_call (fs := []) ok_rank fnS_len (hr.mono (by decide)) mg_rank kp_rank bi_rank rfl (sa_cons (se_var (pv 1)) sa_nil)) se_int))) sa_nil))))
theorem ok_SignSet_eq {f : Addr} {fd : FuncData} (F : FunG K "__eq__" "SignSet.__eq__" st_SignSet_eq f fd) (b_isinstance : mg "isinstance" = none) {C_SignSet : Addr} (hC_SignSet : ClsN K "SignSet" C_SignSet) (cl_SignSet : Cls K C_SignSet) (na_SignSet__signs : NoAttr K C_SignSet "_signs") (ic_SignSet : IsiC K C_SignSet) (mgC_SignSet : mg "SignSet" = some (.ref C_SignSet)) :
    FnOk P w K mg base CX0 1 f fd P_SignSet_eq (spF K 2 f_SignSet_eq) := by
  have nd := sc_SignSet_eq.nd
  refine fn_ok F sc_SignSet_eq rfl rfl (by decide) fun cdv A outer s H E hr => ?_
  have hu := hr.units
  exact (sb_one (ss_ret (se_and (se_isC b_isinstance rfl hC_SignSet cl_SignSet ic_SignSet mgC_SignSet rfl (se_var (pv 1))) (se_one (se_c (oEq hu) (se_fld hC_SignSet cl_SignSet na_SignSet__signs (se_var (pv 0)) rfl) (se_fld hC_SignSet cl_SignSet na_SignSet__signs (se_var (pv 1)) rfl) (nomark _))))))
theorem ok_SignSet_within {f : Addr} {fd : FuncData} (F : FunG K "within" "SignSet.within" st_SignSet_within f fd) (b_all : mg "all" = none) {C_SignSet : Addr} (hC_SignSet : ClsN K "SignSet" C_SignSet) (cl_SignSet : Cls K C_SignSet) (na_SignSet__signs : NoAttr K C_SignSet "_signs") :
    FnOk P w K mg base CX0 1 f fd P_SignSet_within (spF K 2 f_SignSet_within) := by
  have nd := sc_SignSet_within.nd
  refine fn_ok F sc_SignSet_within rfl rfl (by decide) fun cdv A outer s H E hr => ?_
  have hu := hr.units
  exact (sb_one (ss_ret (se_all b_all rfl rfl (sa_cons (se_lc (own := [("sign", 2)]) rfl nd (si_seq (se_fld hC_SignSet cl_SignSet na_SignSet__signs (se_var (pv 0)) rfl)) (blkOk_by (own := [("sign", 2)]) (N := N_SignSet_within) (sc := defScope st_SignSet_within) (by decide +kernel)) (by decide) (gok_name 2) (fun _ _ _ _ _ => (sg_name (i := 2) nd rfl (Or.inl rfl))) (fun _ _ _ _ _ => sts_nil) (fun _ _ _ _ _ => (se_c oIn (se_var (pv 2)) (se_fld hC_SignSet cl_SignSet na_SignSet__signs (se_var (pv 1)) rfl) rfl))) sa_nil))))
theorem ok_law_draw {f : Addr} {fd : FuncData} (F : FunG K "_law_draw" "_law_draw" st_law_draw f fd) (b_int : mg "int" = none) (b_range : mg "range" = none) :
    FnOk P w K mg base CX0 1 f fd P_law_draw (spF K 1 f_law_draw) := by
  have nd := sc_law_draw.nd
  refine fn_ok F sc_law_draw rfl rfl (by decide) fun cdv A outer s H E hr => ?_
  have hu := hr.units
  exact (sb_cons (ss_set (i := 1) nd rfl (Or.inl rfl) (se_lst sa_nil))
    (sb_cons (ss_set (i := 2) nd rfl (Or.inl rfl) se_int)
    (sb_cons (ss_set (i := 3) nd rfl (Or.inl rfl) se_int)
    (sb_cons (ss_for PassesOwn.never rfl (si_seq (se_var (pv 0))) (sg_name (i := 4) nd rfl (Or.inl rfl)) (sb_cons (ss_set (i := 2) nd rfl (Or.inl rfl) (se_b oMod (se_toint b_int rfl (sa_cons (se_b oAdd (se_b oMul (se_var (pv 2)) se_int) (se_var (pv 4))) sa_nil)) se_int))
    (sb_cons (ss_set (i := 3) nd rfl (Or.inl rfl) (se_b oMod (se_toint b_int rfl (sa_cons (se_b oAdd (se_b oMul (se_var (pv 3)) se_int) (se_b oDiv (se_var (pv 4)) se_int)) sa_nil)) se_int))
    (sb_cons (ss_set (i := 5) nd rfl (Or.inl rfl) (se_var (pv 4)))
    (sb_cons (ss_if (st_c oLt (se_var (pv 4)) (se_b oPow se_int se_int) (nomark _)) (sb_one (ss_set (i := 5) nd rfl (Or.inl rfl) se_int)) sb_nil)
    (sb_one (ss_for PassesOwn.never rfl (si_range1 b_range rfl (sa_cons se_int sa_nil)) (sg_name (i := 6) nd rfl (Or.inl rfl)) (sb_one (ss_if (st_c oGt (se_var (pv 5)) se_int (nomark _)) (sb_cons (ss_app (i := 1) (pv 1) (se_b oMod (se_toint b_int rfl (sa_cons (se_var (pv 5)) sa_nil)) se_int))
    (sb_one (ss_set (i := 5) nd rfl (Or.inl rfl) (se_b oDiv (se_var (pv 5)) se_int)))) sb_nil)))))))))
    (sb_one (ss_ret (se_lst (sa_cons se_int (sa_cons (se_var (pv 2)) (sa_cons (se_var (pv 3)) (sa_cons (se_var (pv 1)) (sa_cons se_int sa_nil))))))))))))
theorem ok_law_inside {f : Addr} {fd : FuncData} (F : FunG K "_law_inside" "_law_inside" st_law_inside f fd) (b_len : mg "len" = none) :
    FnOk P w K mg base CX0 1 f fd P_law_inside (spF K 2 f_law_inside) := by
  have nd := sc_law_inside.nd
  refine fn_ok F sc_law_inside rfl rfl (by decide) fun cdv A outer s H E hr => ?_
  have hu := hr.units
  exact (sb_one (ss_ret (se_c (oEq hu) (se_len b_len rfl (sa_cons (se_lc (own := [("_law_sign", 2)]) rfl nd (si_seq (se_var (pv 0))) (blkOk_by (own := [("_law_sign", 2)]) (N := N_law_inside) (sc := defScope st_law_inside) (by decide +kernel)) (by decide) (gok_name 2) (fun _ _ _ _ _ => (sg_name (i := 2) nd rfl (Or.inl rfl))) (fun _ _ _ _ _ => (sts_one (st_c oNi (se_var (pv 2)) (se_var (pv 1)) rfl))) (fun _ _ _ _ _ => (se_var (pv 2)))) sa_nil)) se_int (nomark _))))
theorem ok_law_next {f : Addr} {fd : FuncData} (F : FunG K "_law_next" "_law_next" st_law_next f fd) (b_int : mg "int" = none) (b_len : mg "len" = none) :
    FnOk P w K mg base CX0 1 f fd P_law_next (spF K 2 f_law_next) := by
  have nd := sc_law_next.nd
  refine fn_ok F sc_law_next rfl rfl (by decide) fun cdv A outer s H E hr => ?_
  have hu := hr.units
  exact (sb_cons (ss_set (i := 2) nd rfl (Or.inl rfl) (se_ix (se_var (pv 0)) se_int (fun _ _ => rfl)))
    (sb_cons (ss_if (st_c oLt (se_var (pv 2)) (se_len b_len rfl (sa_cons (se_ix (se_var (pv 0)) se_int (fun _ _ => rfl)) sa_nil)) (nomark _)) (sb_cons (ss_seti (i := 0) (pv 0) se_int (se_b oAdd (se_var (pv 2)) se_int))
    (sb_one (ss_ret (se_b oMod (se_toint b_int rfl (sa_cons (se_ix (se_ix (se_var (pv 0)) se_int (fun _ _ => rfl)) (se_var (pv 2)) (fun _ _ => rfl)) sa_nil)) (se_var (pv 1)))))) sb_nil)
    (sb_cons (ss_seti (i := 0) (pv 0) se_int (se_b oMod (se_toint b_int rfl (sa_cons (se_b oAdd (se_b oMul (se_ix (se_var (pv 0)) se_int (fun _ _ => rfl)) se_int) se_int) sa_nil)) se_int))
    (sb_cons (ss_seti (i := 0) (pv 0) se_int (se_b oMod (se_toint b_int rfl (sa_cons (se_b oAdd (se_b oMul (se_ix (se_var (pv 0)) se_int (fun _ _ => rfl)) se_int) se_int) sa_nil)) se_int))
    (sb_one (ss_ret (se_b oMod (se_toint b_int rfl (sa_cons (se_b oAdd (se_b oDiv (se_ix (se_var (pv 0)) se_int (fun _ _ => rfl)) se_int) (se_b oDiv (se_ix (se_var (pv 0)) se_int (fun _ _ => rfl)) se_int)) sa_nil)) (se_var (pv 1)))))))))
theorem ok_law_mixed {f : Addr} {fd : FuncData} (F : FunG K "_law_mixed" "_law_mixed" st_law_mixed f fd) (b_len : mg "len" = none) (b_range : mg "range" = none) {a_law_next : Addr} {d_law_next : FuncData} (ok_law_next : FnOk P w K mg base CX0 1 a_law_next d_law_next P_law_next (spF K 2 f_law_next)) (mg_law_next : mg "_law_next" = some (.ref a_law_next)) (kp_law_next : PySem.W.keepIn K (.ref a_law_next) = true) (bi_law_next : Binds K d_law_next P_law_next []) :
    FnOk P w K mg base CX0 2 f fd P_law_mixed (spF K 2 f_law_mixed) := by
  have nd := sc_law_mixed.nd
  refine fn_ok F sc_law_mixed rfl rfl (by decide) fun cdv A outer s H E hr => ?_
  have hu := hr.units
  exact (sb_cons (ss_set (i := 2) nd rfl (Or.inl rfl) (se_str (cs := []) (by decide +kernel)))
    (sb_cons (ss_for PassesOwn.never rfl (si_seq (se_var (pv 1))) (sg_name (i := 3) nd rfl (Or.inl rfl)) (sb_cons (ss_set (i := 6) nd rfl (Or.inl rfl) (se_call (fs := [true, false]) ok_law_next fnS_len (hr.mono (by decide)) mg_law_next kp_law_next bi_law_next rfl (sa_cons (se_var (pv 0)) (sa_cons (se_b oAdd (se_len b_len rfl (sa_cons (se_var (pv 2)) sa_nil)) se_int) sa_nil))))
    (sb_one (ss_set (i := 2) nd rfl (Or.inl rfl) (se_add (se_add (se_slcA (se_var (pv 2)) so_none (so_some (se_var (pv 6)))) (se_var (pv 3))) (se_slcA (se_var (pv 2)) (so_some (se_var (pv 6))) so_none))))))
    (sb_cons (ss_set (i := 4) nd rfl (Or.inl rfl) (se_ix (se_lst (sa_cons se_int (sa_cons se_int (sa_cons se_int (sa_cons se_int (sa_cons se_int (sa_cons se_int sa_nil))))))) (se_call (fs := [true, false]) ok_law_next fnS_len (hr.mono (by decide)) mg_law_next kp_law_next bi_law_next rfl (sa_cons (se_var (pv 0)) (sa_cons se_int sa_nil))) (fun _ _ => rfl)))
    (sb_cons (ss_if (st_c (oEq hu) (se_var (pv 1)) (se_str (cs := []) (by decide +kernel)) (nomark _)) (sb_one (ss_set (i := 4) nd rfl (Or.inl rfl) se_int)) sb_nil)
    (sb_cons (ss_for PassesOwn.never rfl (si_range1 b_range rfl (sa_cons (se_var (pv 4)) sa_nil)) (sg_name (i := 5) nd rfl (Or.inl rfl)) (sb_cons (ss_set (i := 6) nd rfl (Or.inl rfl) (se_call (fs := [true, false]) ok_law_next fnS_len (hr.mono (by decide)) mg_law_next kp_law_next bi_law_next rfl (sa_cons (se_var (pv 0)) (sa_cons (se_b oAdd (se_len b_len rfl (sa_cons (se_var (pv 2)) sa_nil)) se_int) sa_nil))))
    (sb_one (ss_set (i := 2) nd rfl (Or.inl rfl) (se_add (se_add (se_slcA (se_var (pv 2)) so_none (so_some (se_var (pv 6)))) (se_ix (se_var (pv 1)) (se_call (fs := [true, false]) ok_law_next fnS_len (hr.mono (by decide)) mg_law_next kp_law_next bi_law_next rfl (sa_cons (se_var (pv 0)) (sa_cons (se_len b_len rfl (sa_cons (se_var (pv 1)) sa_nil)) sa_nil))) (fun _ _ => rfl))) (se_slcA (se_var (pv 2)) (so_some (se_var (pv 6))) so_none))))))
    (sb_one (ss_ret (se_var (pv 2)))))))))
theorem ok_law_signs {f : Addr} {fd : FuncData} (F : FunG K "_law_signs" "_law_signs" st_law_signs f fd)  :
    FnOk P w K mg base CX0 1 f fd P_law_signs (spF K 0 f_law_signs) := by
  have nd := sc_law_signs.nd
  refine fn_ok F sc_law_signs rfl rfl (by decide) fun cdv A outer s H E hr => ?_
  have hu := hr.units
  exact (sb_cons (ss_set (i := 0) nd rfl (Or.inl rfl) (se_str (cs := tx_0123456789abcd) (by decide +kernel)))
    (sb_one (ss_ret (se_b oAdd (se_var (pv 0)) (se_str (cs := tx_abcdefghijklmn) (by decide +kernel))))))
theorem ok_law_subset {f : Addr} {fd : FuncData} (F : FunG K "_law_subset" "_law_subset" st_law_subset f fd) (b_range : mg "range" = none) {a_law_next : Addr} {d_law_next : FuncData} (ok_law_next : FnOk P w K mg base CX0 1 a_law_next d_law_next P_law_next (spF K 2 f_law_next)) (mg_law_next : mg "_law_next" = some (.ref a_law_next)) (kp_law_next : PySem.W.keepIn K (.ref a_law_next) = true) (bi_law_next : Binds K d_law_next P_law_next []) {a_law_signs : Addr} {d_law_signs : FuncData} (ok_law_signs : FnOk P w K mg base CX0 1 a_law_signs d_law_signs P_law_signs (spF K 0 f_law_signs)) (mg_law_signs : mg "_law_signs" = some (.ref a_law_signs)) (kp_law_signs : PySem.W.keepIn K (.ref a_law_signs) = true) (bi_law_signs : Binds K d_law_signs P_law_signs []) :
    FnOk P w K mg base CX0 2 f fd P_law_subset (spF K 1 f_law_subset) := by
  have nd := sc_law_subset.nd
  refine fn_ok F sc_law_subset rfl rfl (by decide) fun cdv A outer s H E hr => ?_
  have hu := hr.units
  exact (sb_cons (ss_set (i := 1) nd rfl (Or.inr rfl) (se_call0 (fs := []) ok_law_signs fnS_len (hr.mono (by decide)) mg_law_signs kp_law_signs bi_law_signs rfl))
    (sb_cons (ss_set (i := 2) nd rfl (Or.inl rfl) (se_call (fs := [true, false]) ok_law_next fnS_len (hr.mono (by decide)) mg_law_next kp_law_next bi_law_next rfl (sa_cons (se_var (pv 0)) (sa_cons se_int sa_nil))))
    (sb_cons (ss_if (st_c (oEq hu) (se_var (pv 2)) se_int (nomark _)) (sb_one (ss_ret (se_ix (se_lst (sa_cons (se_str (cs := []) (by decide +kernel)) (sa_cons (se_var (pv 1)) (sa_cons (se_slcA (se_var (pv 1)) so_none (so_some se_int)) (sa_cons (se_slcA (se_var (pv 1)) (so_some se_int) so_none) (sa_cons (se_slcA (se_var (pv 1)) (so_some se_int) so_none) (sa_cons (se_slcA (se_var (pv 1)) so_none (so_some se_int)) sa_nil))))))) (se_call (fs := [true, false]) ok_law_next fnS_len (hr.mono (by decide)) mg_law_next kp_law_next bi_law_next rfl (sa_cons (se_var (pv 0)) (sa_cons se_int sa_nil))) (fun _ _ => rfl)))) sb_nil)
    (sb_cons (ss_if (st_c oLt (se_var (pv 2)) se_int (nomark _)) (sb_cons (ss_set (i := 4) nd rfl (Or.inl rfl) (se_call (fs := [true, false]) ok_law_next fnS_len (hr.mono (by decide)) mg_law_next kp_law_next bi_law_next rfl (sa_cons (se_var (pv 0)) (sa_cons se_int sa_nil))))
    (sb_one (ss_ret (se_slcA (se_var (pv 1)) (so_some (se_var (pv 4))) (so_some (se_b oAdd (se_b oAdd (se_var (pv 4)) se_int) (se_call (fs := [true, false]) ok_law_next fnS_len (hr.mono (by decide)) mg_law_next kp_law_next bi_law_next rfl (sa_cons (se_var (pv 0)) (sa_cons se_int sa_nil))))))))) sb_nil)
    (sb_cons (ss_if (st_c oLt (se_var (pv 2)) se_int (nomark _)) (sb_cons (ss_set (i := 5) nd rfl (Or.inr rfl) (se_lc (own := [("_law_k", 6)]) rfl nd (si_range1 b_range rfl (sa_cons (se_b oAdd se_int (se_call (fs := [true, false]) ok_law_next fnS_len (hr.mono (by decide)) mg_law_next kp_law_next bi_law_next rfl (sa_cons (se_var (pv 0)) (sa_cons se_int sa_nil)))) sa_nil)) (blkOk_by (own := [("_law_k", 6)]) (N := N_law_subset) (sc := defScope st_law_subset) (by decide +kernel)) (by decide) (gok_name 6) (fun _ _ _ _ _ => (sg_name (i := 6) nd rfl (Or.inl rfl))) (fun _ _ _ _ _ => sts_nil) (fun _ _ _ _ _ => (se_ix (se_var (pv 1)) (se_call (fs := [true, false]) ok_law_next fnS_len (hr.mono (by decide)) mg_law_next kp_law_next bi_law_next rfl (sa_cons (se_var (pv 0)) (sa_cons se_int sa_nil))) (fun _ _ => rfl)))))
    (sb_one (ss_ret (se_join (se_str (cs := []) (by decide +kernel)) (sa_cons (se_lc (own := [("_law_sign", 7)]) rfl nd (si_seq (se_var (pv 1))) (blkOk_by (own := [("_law_sign", 7)]) (N := N_law_subset) (sc := defScope st_law_subset) (by decide +kernel)) (by decide) (gok_name 7) (fun _ _ _ _ _ => (sg_name (i := 7) nd rfl (Or.inl rfl))) (fun _ _ _ _ _ => (sts_one (st_c oIn (se_var (pv 7)) (se_var (pv 5)) rfl))) (fun _ _ _ _ _ => (se_var (pv 7)))) sa_nil))))) sb_nil)
    (sb_cons (ss_set (i := 3) nd rfl (Or.inr rfl) (se_b oSub (se_var (pv 2)) se_int))
    (sb_one (ss_ret (se_join (se_str (cs := []) (by decide +kernel)) (sa_cons (se_lc (own := [("_law_sign", 7)]) rfl nd (si_seq (se_var (pv 1))) (blkOk_by (own := [("_law_sign", 7)]) (N := N_law_subset) (sc := defScope st_law_subset) (by decide +kernel)) (by decide) (gok_name 7) (fun _ _ _ _ _ => (sg_name (i := 7) nd rfl (Or.inl rfl))) (fun _ _ _ _ _ => (sts_one (st_c (oEq hu) (se_call (fs := [true, false]) ok_law_next fnS_len (hr.mono (by decide)) mg_law_next kp_law_next bi_law_next rfl (sa_cons (se_var (pv 0)) (sa_cons (se_var (pv 3)) sa_nil))) se_int (nomark _)))) (fun _ _ _ _ _ => (se_var (pv 7)))) sa_nil))))))))))
theorem ok_law_near {f : Addr} {fd : FuncData} (F : FunG K "_law_near" "_law_near" st_law_near f fd) (b_len : mg "len" = none) {a_law_next : Addr} {d_law_next : FuncData} (ok_law_next : FnOk P w K mg base CX0 1 a_law_next d_law_next P_law_next (spF K 2 f_law_next)) (mg_law_next : mg "_law_next" = some (.ref a_law_next)) (kp_law_next : PySem.W.keepIn K (.ref a_law_next) = true) (bi_law_next : Binds K d_law_next P_law_next []) {a_law_signs : Addr} {d_law_signs : FuncData} (ok_law_signs : FnOk P w K mg base CX0 1 a_law_signs d_law_signs P_law_signs (spF K 0 f_law_signs)) (mg_law_signs : mg "_law_signs" = some (.ref a_law_signs)) (kp_law_signs : PySem.W.keepIn K (.ref a_law_signs) = true) (bi_law_signs : Binds K d_law_signs P_law_signs []) {a_law_subset : Addr} {d_law_subset : FuncData} (ok_law_subset : FnOk P w K mg base CX0 2 a_law_subset d_law_subset P_law_subset (spF K 1 f_law_subset)) (mg_law_subset : mg "_law_subset" = some (.ref a_law_subset)) (kp_law_subset : PySem.W.keepIn K (.ref a_law_subset) = true) (bi_law_subset : Binds K d_law_subset P_law_subset []) :
    FnOk P w K mg base CX0 3 f fd P_law_near (spF K 2 f_law_near) := by
  have nd := sc_law_near.nd
  refine fn_ok F sc_law_near rfl rfl (by decide) fun cdv A outer s H E hr => ?_
  have hu := hr.units
  exact (sb_cons (ss_set (i := 2) nd rfl (Or.inl rfl) (se_call0 (fs := []) ok_law_signs fnS_len (hr.mono (by decide)) mg_law_signs kp_law_signs bi_law_signs rfl))
    (sb_cons (ss_set (i := 3) nd rfl (Or.inl rfl) (se_call (fs := [true, false]) ok_law_next fnS_len (hr.mono (by decide)) mg_law_next kp_law_next bi_law_next rfl (sa_cons (se_var (pv 0)) (sa_cons se_int sa_nil))))
    (sb_cons (ss_set (i := 4) nd rfl (Or.inl rfl) (se_join (se_str (cs := []) (by decide +kernel)) (sa_cons (se_lc (own := [("_law_sign", 8)]) rfl nd (si_seq (se_var (pv 2))) (blkOk_by (own := [("_law_sign", 8)]) (N := N_law_near) (sc := defScope st_law_near) (by decide +kernel)) (by decide) (gok_name 8) (fun _ _ _ _ _ => (sg_name (i := 8) nd rfl (Or.inl rfl))) (fun _ _ _ _ _ => (sts_one (st_c oNi (se_var (pv 8)) (se_var (pv 1)) rfl))) (fun _ _ _ _ _ => (se_var (pv 8)))) sa_nil)))
    (sb_cons (ss_if (st_c (oEq hu) (se_var (pv 3)) se_int (nomark _)) (sb_one (ss_ret (se_var (pv 1)))) sb_nil)
    (sb_cons (ss_if (st_c (oEq hu) (se_var (pv 3)) se_int (nomark _)) (sb_one (ss_ret (se_var (pv 4)))) sb_nil)
    (sb_cons (ss_if (st_c (oEq hu) (se_var (pv 3)) se_int (nomark _)) (sb_cons (ss_set (i := 5) nd rfl (Or.inr rfl) (se_ix (se_var (pv 2)) (se_call (fs := [true, false]) ok_law_next fnS_len (hr.mono (by decide)) mg_law_next kp_law_next bi_law_next rfl (sa_cons (se_var (pv 0)) (sa_cons se_int sa_nil))) (fun _ _ => rfl)))
    (sb_one (ss_ret (se_join (se_str (cs := []) (by decide +kernel)) (sa_cons (se_lc (own := [("_law_sign", 8)]) rfl nd (si_seq (se_var (pv 2))) (blkOk_by (own := [("_law_sign", 8)]) (N := N_law_near) (sc := defScope st_law_near) (by decide +kernel)) (by decide) (gok_name 8) (fun _ _ _ _ _ => (sg_name (i := 8) nd rfl (Or.inl rfl))) (fun _ _ _ _ _ => (sts_one (st_c (oNe hu) (se_c oIn (se_var (pv 8)) (se_var (pv 1)) rfl) (se_c (oEq hu) (se_var (pv 8)) (se_var (pv 5)) (nomark _)) (nomark _)))) (fun _ _ _ _ _ => (se_var (pv 8)))) sa_nil))))) sb_nil)
    (sb_cons (ss_if (st_bool (sw_and (st_c (oEq hu) (se_var (pv 3)) se_int (nomark _)) (sw_and (st_c (oNe hu) (se_var (pv 1)) (se_str (cs := []) (by decide +kernel)) (nomark _)) (sw_and1 (st_c (oNe hu) (se_var (pv 4)) (se_str (cs := []) (by decide +kernel)) (nomark _)))))) (sb_cons (ss_set (i := 6) nd rfl (Or.inr rfl) (se_ix (se_var (pv 1)) (se_call (fs := [true, false]) ok_law_next fnS_len (hr.mono (by decide)) mg_law_next kp_law_next bi_law_next rfl (sa_cons (se_var (pv 0)) (sa_cons (se_len b_len rfl (sa_cons (se_var (pv 1)) sa_nil)) sa_nil))) (fun _ _ => rfl)))
    (sb_cons (ss_set (i := 7) nd rfl (Or.inr rfl) (se_ix (se_var (pv 4)) (se_call (fs := [true, false]) ok_law_next fnS_len (hr.mono (by decide)) mg_law_next kp_law_next bi_law_next rfl (sa_cons (se_var (pv 0)) (sa_cons (se_len b_len rfl (sa_cons (se_var (pv 4)) sa_nil)) sa_nil))) (fun _ _ => rfl)))
    (sb_one (ss_ret (se_join (se_str (cs := []) (by decide +kernel)) (sa_cons (se_lc (own := [("_law_sign", 8)]) rfl nd (si_seq (se_var (pv 2))) (blkOk_by (own := [("_law_sign", 8)]) (N := N_law_near) (sc := defScope st_law_near) (by decide +kernel)) (by decide) (gok_name 8) (fun _ _ _ _ _ => (sg_name (i := 8) nd rfl (Or.inl rfl))) (fun _ _ _ _ _ => (sts_one (st_bool (sw_or (st_c (oEq hu) (se_var (pv 8)) (se_var (pv 7)) (nomark _)) (sw_or1 (st_bool (sw_and (st_c oIn (se_var (pv 8)) (se_var (pv 1)) rfl) (sw_and1 (st_c (oNe hu) (se_var (pv 8)) (se_var (pv 6)) (nomark _)))))))))) (fun _ _ _ _ _ => (se_var (pv 8)))) sa_nil)))))) sb_nil)
    (sb_cons (ss_if (st_c (oEq hu) (se_var (pv 3)) se_int (nomark _)) (sb_one (ss_ret (se_join (se_str (cs := []) (by decide +kernel)) (sa_cons (se_lc (own := [("_law_sign", 8)]) rfl nd (si_seq (se_var (pv 1))) (blkOk_by (own := [("_law_sign", 8)]) (N := N_law_near) (sc := defScope st_law_near) (by decide +kernel)) (by decide) (gok_name 8) (fun _ _ _ _ _ => (sg_name (i := 8) nd rfl (Or.inl rfl))) (fun _ _ _ _ _ => (sts_one (st_c (oEq hu) (se_call (fs := [true, false]) ok_law_next fnS_len (hr.mono (by decide)) mg_law_next kp_law_next bi_law_next rfl (sa_cons (se_var (pv 0)) (sa_cons se_int sa_nil))) se_int (nomark _)))) (fun _ _ _ _ _ => (se_var (pv 8)))) sa_nil)))) sb_nil)
    (sb_one (ss_ret (se_call (fs := [true]) ok_law_subset fnS_len (hr.mono (by decide)) mg_law_subset kp_law_subset bi_law_subset rfl (sa_cons (se_var (pv 0)) sa_nil))))))))))))
theorem ok_law_told {f : Addr} {fd : FuncData} (F : FunG K "_law_told" "_law_told" st_law_told f fd) (b_bool : mg "bool" = none) (b_isinstance : mg "isinstance" = none) :
    FnOk P w K mg base CX0 1 f fd P_law_told (spF K 2 f_law_told) := by
  have nd := sc_law_told.nd
  refine fn_ok F sc_law_told rfl rfl (by decide) fun cdv A outer s H E hr => ?_
  have hu := hr.units
  exact (sb_one (ss_ret (se_and (se_isi b_isinstance rfl b_bool rfl (by decide +kernel) (se_var (pv 0))) (se_one (se_c (oEq hu) (se_var (pv 0)) (se_var (pv 1)) (nomark _))))))
theorem ok_SignSet_least {f : Addr} {fd : FuncData} (F : FunG K "least" "SignSet.least" st_SignSet_least f fd) {C_SignSet : Addr} (hC_SignSet : ClsN K "SignSet" C_SignSet) (cl_SignSet : Cls K C_SignSet) (na_SignSet__signs : NoAttr K C_SignSet "_signs") :
    FnOk P w K mg base CX0 1 f fd P_SignSet_least (spF K 1 f_SignSet_least) := by
  have nd := sc_SignSet_least.nd
  refine fn_ok F sc_SignSet_least rfl rfl (by decide) fun cdv A outer s H E hr => ?_
  have hu := hr.units
  exact (sb_cons (ss_if (st_c (oEq hu) (se_fld hC_SignSet cl_SignSet na_SignSet__signs (se_var (pv 0)) rfl) (se_str (cs := []) (by decide +kernel)) (nomark _)) (sb_one (ss_ret se_non)) sb_nil)
    (sb_one (ss_ret (se_ix (se_fld hC_SignSet cl_SignSet na_SignSet__signs (se_var (pv 0)) rfl) se_int (fun _ _ => rfl)))))
theorem ok_SignSet_members {f : Addr} {fd : FuncData} (F : FunG K "members" "SignSet.members" st_SignSet_members f fd) {C_SignSet : Addr} (hC_SignSet : ClsN K "SignSet" C_SignSet) (cl_SignSet : Cls K C_SignSet) (na_SignSet__signs : NoAttr K C_SignSet "_signs") :
    FnOk P w K mg base CX0 1 f fd P_SignSet_members (spF K 1 f_SignSet_members) := by
  have nd := sc_SignSet_members.nd
  refine fn_ok F sc_SignSet_members rfl rfl (by decide) fun cdv A outer s H E hr => ?_
  have hu := hr.units
  exact (sb_one (ss_ret (se_fld hC_SignSet cl_SignSet na_SignSet__signs (se_var (pv 0)) rfl)))
theorem ok_SignSet_ranges {f : Addr} {fd : FuncData} (F : FunG K "ranges" "SignSet.ranges" st_SignSet_ranges f fd) (b_len : mg "len" = none) (b_list : mg "list" = none) (b_zip : mg "zip" = none) {u_SIGNS : Value} (hu_SIGNS : ∃ (x : Str) (t : Tok), u_SIGNS = .str x t ∧ x.cps.toList = c_SIGNS) (c_SIGNS' : mg "SIGNS" = some u_SIGNS) {C_SignSet : Addr} (hC_SignSet : ClsN K "SignSet" C_SignSet) (cl_SignSet : Cls K C_SignSet) (na_SignSet__signs : NoAttr K C_SignSet "_signs") {a_rank : Addr} {d_rank : FuncData} (ok_rank : FnOk P w K mg base CX0 1 a_rank d_rank P_rank (spF K 1 f_rank)) (mg_rank : mg "rank" = some (.ref a_rank)) (kp_rank : PySem.W.keepIn K (.ref a_rank) = true) (bi_rank : Binds K d_rank P_rank []) :
    FnOk P w K mg base CX0 2 f fd P_SignSet_ranges (spF K 1 f_SignSet_ranges) := by
  have nd := sc_SignSet_ranges.nd
  refine fn_ok F sc_SignSet_ranges rfl rfl (by decide) fun cdv A outer s H E hr => ?_
  have hu := hr.units
  exact (sb_cons (ss_set (i := 1) nd rfl (Or.inr rfl) (se_fld hC_SignSet cl_SignSet na_SignSet__signs (se_var (pv 0)) rfl))
    (sb_cons (ss_setlc (i := 2) (own := [("sign", 4)]) rfl nd rfl rfl (sw_true rfl rfl rfl (by decide +kernel)) (si_seq (se_var (pv 1))) (blkOk_by (own := [("sign", 4)]) (N := N_SignSet_ranges) (sc := defScope st_SignSet_ranges) (by decide +kernel)) (by decide) (gok_name 4) (fun _ _ _ _ _ => (sg_name (i := 4) nd rfl (Or.inl rfl))) (fun _ _ _ _ _ => (sts_one (st_bool (sw_or (st_c (oEq hu) (se_call (fs := []) ok_rank fnS_len (hr.mono (by decide)) mg_rank kp_rank bi_rank rfl (sa_cons (se_var (pv 4)) sa_nil)) se_int (nomark _)) (sw_or1 (st_c oNi (se_ix (se_gstr hu_SIGNS c_SIGNS' rfl) (se_b oSub (se_call (fs := []) ok_rank fnS_len (hr.mono (by decide)) mg_rank kp_rank bi_rank rfl (sa_cons (se_var (pv 4)) sa_nil)) se_int) (fun _ _ => rfl)) (se_var (pv 1)) rfl)))))) (fun _ _ _ _ _ => (se_var (pv 4))))
    (sb_cons (ss_setlc (i := 3) (own := [("sign", 4)]) rfl nd rfl rfl (sw_true rfl rfl rfl (by decide +kernel)) (si_seq (se_var (pv 1))) (blkOk_by (own := [("sign", 4)]) (N := N_SignSet_ranges) (sc := defScope st_SignSet_ranges) (by decide +kernel)) (by decide) (gok_name 4) (fun _ _ _ _ _ => (sg_name (i := 4) nd rfl (Or.inl rfl))) (fun _ _ _ _ _ => (sts_one (st_bool (sw_or (st_c (oEq hu) (se_call (fs := []) ok_rank fnS_len (hr.mono (by decide)) mg_rank kp_rank bi_rank rfl (sa_cons (se_var (pv 4)) sa_nil)) (se_b oSub (se_len b_len rfl (sa_cons (se_gstr hu_SIGNS c_SIGNS' rfl) sa_nil)) se_int) (nomark _)) (sw_or1 (st_c oNi (se_ix (se_gstr hu_SIGNS c_SIGNS' rfl) (se_b oAdd (se_call (fs := []) ok_rank fnS_len (hr.mono (by decide)) mg_rank kp_rank bi_rank rfl (sa_cons (se_var (pv 4)) sa_nil)) se_int) (fun _ _ => rfl)) (se_var (pv 1)) rfl)))))) (fun _ _ _ _ _ => (se_var (pv 4))))
    (sb_one (ss_ret (se_listZip rfl rfl b_list rfl b_zip (sa_cons (se_var (pv 2)) (sa_cons (se_var (pv 3)) sa_nil))))))))
theorem ok_law_runs {f : Addr} {fd : FuncData} (F : FunG K "_law_runs" "_law_runs" st_law_runs f fd) (b_len : mg "len" = none) {a_law_signs : Addr} {d_law_signs : FuncData} (ok_law_signs : FnOk P w K mg base CX0 1 a_law_signs d_law_signs P_law_signs (spF K 0 f_law_signs)) (mg_law_signs : mg "_law_signs" = some (.ref a_law_signs)) (kp_law_signs : PySem.W.keepIn K (.ref a_law_signs) = true) (bi_law_signs : Binds K d_law_signs P_law_signs []) :
    FnOk P w K mg base CX0 2 f fd P_law_runs (spF K 1 f_law_runs) := by
  have nd := sc_law_runs.nd
  refine fn_ok F sc_law_runs rfl rfl (by decide) fun cdv A outer s H E hr => ?_
  have hu := hr.units
  exact (sb_cons (ss_set (i := 1) nd rfl (Or.inl rfl) (se_call0 (fs := []) ok_law_signs fnS_len (hr.mono (by decide)) mg_law_signs kp_law_signs bi_law_signs rfl))
    (sb_cons (ss_set (i := 2) nd rfl (Or.inl rfl) (se_lst sa_nil))
    (sb_cons (ss_for PassesOwn.never rfl (si_seq (se_var (pv 0))) (sg_name (i := 3) nd rfl (Or.inl rfl)) (sb_one (ss_if (st_bool (sw_and (st_c oGt (se_len b_len rfl (sa_cons (se_var (pv 2)) sa_nil)) se_int (nomark _)) (sw_and1 (st_c (oEq hu) (se_b oAdd (se_find (se_var (pv 1)) (sa_cons (se_ix (se_ix (se_var (pv 2)) (se_neg se_int) (fun _ _ => rfl)) se_int (fun _ _ => rfl)) sa_nil)) se_int) (se_find (se_var (pv 1)) (sa_cons (se_var (pv 3)) sa_nil)) (nomark _))))) (sb_one (ss_seti (i := 2) (pv 2) (se_neg se_int) (se_tup (sa_cons (se_ix (se_ix (se_var (pv 2)) (se_neg se_int) (fun _ _ => rfl)) se_int (fun _ _ => rfl)) (sa_cons (se_var (pv 3)) sa_nil))))) (sb_one (ss_app (i := 2) (pv 2) (se_tup (sa_cons (se_var (pv 3)) (sa_cons (se_var (pv 3)) sa_nil))))))))
    (sb_one (ss_ret (se_var (pv 2)))))))
theorem ok_law_same_runs {f : Addr} {fd : FuncData} (F : FunG K "_law_same_runs" "_law_same_runs" st_law_same_runs f fd) (b_isinstance : mg "isinstance" = none) (b_len : mg "len" = none) (b_list : mg "list" = none) (b_range : mg "range" = none) (b_str : mg "str" = none) (b_tuple : mg "tuple" = none) :
    FnOk P w K mg base CX0 1 f fd P_law_same_runs (spF K 2 f_law_same_runs) := by
  have nd := sc_law_same_runs.nd
  refine fn_ok F sc_law_same_runs rfl rfl (by decide) fun cdv A outer s H E hr => ?_
  have hu := hr.units
  exact (sb_cons (ss_if (st_bool (sw_or (st_not (st_val (se_isi b_isinstance rfl b_list rfl (by decide +kernel) (se_var (pv 0))) (by intro _; rfl))) (sw_or1 (st_c (oNe hu) (se_len b_len rfl (sa_cons (se_var (pv 0)) sa_nil)) (se_len b_len rfl (sa_cons (se_var (pv 1)) sa_nil)) (nomark _))))) (sb_one (ss_ret se_bl)) sb_nil)
    (sb_cons (ss_for PassesOwn.never rfl (si_range1 b_range rfl (sa_cons (se_len b_len rfl (sa_cons (se_var (pv 1)) sa_nil)) sa_nil)) (sg_name (i := 2) nd rfl (Or.inl rfl)) (sb_cons (ss_set (i := 3) nd rfl (Or.inl rfl) (se_ix (se_var (pv 0)) (se_var (pv 2)) (fun _ _ => rfl)))
    (sb_cons (ss_if (st_bool (sw_or (st_not (st_val (se_isi b_isinstance rfl b_tuple rfl (by decide +kernel) (se_var (pv 3))) (by intro _; rfl))) (sw_or1 (st_c (oNe hu) (se_len b_len rfl (sa_cons (se_var (pv 3)) sa_nil)) se_int (nomark _))))) (sb_one (ss_ret se_bl)) sb_nil)
    (sb_one (ss_if (st_bool (sw_or (st_not (st_val (se_isi b_isinstance rfl b_str rfl (by decide +kernel) (se_ix (se_var (pv 3)) se_int (fun _ _ => rfl))) (by intro _; rfl))) (sw_or (st_not (st_val (se_isi b_isinstance rfl b_str rfl (by decide +kernel) (se_ix (se_var (pv 3)) se_int (fun _ _ => rfl))) (by intro _; rfl))) (sw_or1 (st_c (oNe hu) (se_var (pv 3)) (se_ix (se_var (pv 1)) (se_var (pv 2)) (fun _ _ => rfl)) (nomark _)))))) (sb_one (ss_ret se_bl)) sb_nil)))))
    (sb_one (ss_ret se_bl))))
theorem ok_SignSet_iter {f : Addr} {fd : FuncData} (F : FunG K "__iter__" "SignSet.__iter__" st_SignSet_iter f fd) (b_iter : mg "iter" = none) {C_SignSet : Addr} (hC_SignSet : ClsN K "SignSet" C_SignSet) (cl_SignSet : Cls K C_SignSet) (na_SignSet__signs : NoAttr K C_SignSet "_signs") :
    ItFn P w K mg base 1 f fd P_SignSet_iter "SignSet" "_signs" := by
  have nd := sc_SignSet_iter.nd
  refine fn_it F sc_SignSet_iter rfl rfl (by decide) fun cdv A outer s H E hr => ?_
  exact pss_cons (ps_ret (pe_callB (x := "iter") call_iterA rfl b_iter (by decide +kernel) (sa_cons (se_fld hC_SignSet cl_SignSet na_SignSet__signs (se_var (pv 0)) rfl) sa_nil))) pss_nil
theorem ok_SignSet_len {f : Addr} {fd : FuncData} (F : FunG K "__len__" "SignSet.__len__" st_SignSet_len f fd) (b_len : mg "len" = none) {C_SignSet : Addr} (hC_SignSet : ClsN K "SignSet" C_SignSet) (cl_SignSet : Cls K C_SignSet) (na_SignSet__signs : NoAttr K C_SignSet "_signs") :
    FnOk P w K mg base CX0 1 f fd P_SignSet_len (spF K 1 f_SignSet_len) := by
  have nd := sc_SignSet_len.nd
  refine fn_ok F sc_SignSet_len rfl rfl (by decide) fun cdv A outer s H E hr => ?_
  have hu := hr.units
  exact (sb_one (ss_ret (se_len b_len rfl (sa_cons (se_fld hC_SignSet cl_SignSet na_SignSet__signs (se_var (pv 0)) rfl) sa_nil))))
theorem ok_law_walked {f : Addr} {fd : FuncData} (F : FunG K "_law_walked" "_law_walked" st_law_walked f fd) (b_isinstance : mg "isinstance" = none) (b_len : mg "len" = none) (b_list : mg "list" = none) (b_str : mg "str" = none) {C_SignSet : Addr} (hC_SignSet : ClsN K "SignSet" C_SignSet) {a_SignSet_iter : Addr} {d_SignSet_iter : FuncData} (ok_SignSet_iter : ItFn P w K mg base 1 a_SignSet_iter d_SignSet_iter P_SignSet_iter "SignSet" "_signs") (at_SignSet_iter : PySem.W.findIn K (.ref C_SignSet) "__iter__" = some (some (.ref a_SignSet_iter))) (fn_SignSet_iter : PySem.W.isFn K (.ref a_SignSet_iter) = true) (kp_SignSet_iter : PySem.W.keepIn K (.ref a_SignSet_iter) = true) (bi_SignSet_iter : Binds K d_SignSet_iter P_SignSet_iter []) {a_SignSet_len : Addr} {d_SignSet_len : FuncData} (ok_SignSet_len : FnOk P w K mg base CX0 1 a_SignSet_len d_SignSet_len P_SignSet_len (spF K 1 f_SignSet_len)) (at_SignSet_len : PySem.W.findIn K (.ref C_SignSet) "__len__" = some (some (.ref a_SignSet_len))) (fn_SignSet_len : PySem.W.isFn K (.ref a_SignSet_len) = true) (kp_SignSet_len : PySem.W.keepIn K (.ref a_SignSet_len) = true) (bi_SignSet_len : Binds K d_SignSet_len P_SignSet_len []) :
    FnOk P w K mg base CX0 5 f fd P_law_walked (spF K 2 f_law_walked) := by
  have nd := sc_law_walked.nd
  refine fn_ok F sc_law_walked rfl rfl (by decide) fun cdv A outer s H E hr => ?_
  have hu := hr.units
  exact (sb_cons (ss_set (i := 2) nd rfl (Or.inl rfl) (se_listO (m := 2) rfl hC_SignSet at_SignSet_iter fn_SignSet_iter ok_SignSet_iter bi_SignSet_iter at_SignSet_len fn_SignSet_len ok_SignSet_len bi_SignSet_len (by decide) (by decide) (hr.mono (by decide)) b_list rfl (se_var (pv 0))))
    (sb_cons (ss_if (st_bool (sw_or (st_c (oNe hu) (se_var (pv 2)) (se_lc (own := [("_law_sign", 4)]) rfl nd (si_seq (se_var (pv 1))) (blkOk_by (own := [("_law_sign", 4)]) (N := N_law_walked) (sc := defScope st_law_walked) (by decide +kernel)) (by decide) (gok_name 4) (fun _ _ _ _ _ => (sg_name (i := 4) nd rfl (Or.inl rfl))) (fun _ _ _ _ _ => sts_nil) (fun _ _ _ _ _ => (se_var (pv 4)))) (nomark _)) (sw_or1 (st_c (oNe hu) (se_lenO hC_SignSet at_SignSet_len fn_SignSet_len ok_SignSet_len (hr.mono (by decide)) bi_SignSet_len b_len rfl (sa_cons (se_var (pv 0)) sa_nil)) (se_lenO hC_SignSet at_SignSet_len fn_SignSet_len ok_SignSet_len (hr.mono (by decide)) bi_SignSet_len b_len rfl (sa_cons (se_var (pv 1)) sa_nil)) (nomark _))))) (sb_one (ss_ret se_bl)) sb_nil)
    (sb_cons (ss_app (i := 2) (pv 2) (se_str (cs := [97]) (by decide +kernel)))
    (sb_cons (ss_seti (i := 2) (pv 2) se_int (se_str (cs := [126]) (by decide +kernel)))
    (sb_cons (ss_set (i := 3) nd rfl (Or.inl rfl) se_int)
    (sb_cons (ss_for PassesOwn.never rfl (si_own hC_SignSet at_SignSet_iter fn_SignSet_iter ok_SignSet_iter (hr.mono (by decide)) bi_SignSet_iter (se_var (pv 0))) (sg_name (i := 4) nd rfl (Or.inl rfl)) (sb_cons (ss_if (st_bool (sw_or (st_c oGe (se_var (pv 3)) (se_lenO hC_SignSet at_SignSet_len fn_SignSet_len ok_SignSet_len (hr.mono (by decide)) bi_SignSet_len b_len rfl (sa_cons (se_var (pv 1)) sa_nil)) (nomark _)) (sw_or (st_not (st_val (se_isi b_isinstance rfl b_str rfl (by decide +kernel) (se_var (pv 4))) (by intro _; rfl))) (sw_or1 (st_c (oNe hu) (se_var (pv 4)) (se_ix (se_var (pv 1)) (se_var (pv 3)) (fun _ _ => rfl)) (nomark _)))))) (sb_one (ss_ret se_bl)) sb_nil)
    (sb_cons (ss_set (i := 3) nd rfl (Or.inl rfl) (se_b oAdd (se_var (pv 3)) se_int))
    (sb_one (ss_if (st_c oLt (se_var (pv 3)) se_int (nomark _)) (sb_cons (ss_set (i := 5) nd rfl (Or.inl rfl) (se_str (cs := []) (by decide +kernel)))
    (sb_cons (ss_for PassesOwn.never rfl (si_own hC_SignSet at_SignSet_iter fn_SignSet_iter ok_SignSet_iter (hr.mono (by decide)) bi_SignSet_iter (se_var (pv 0))) (sg_name (i := 6) nd rfl (Or.inl rfl)) (sb_one (ss_set (i := 5) nd rfl (Or.inl rfl) (se_add (se_var (pv 5)) (se_var (pv 6))))))
    (sb_one (ss_if (st_c (oNe hu) (se_var (pv 5)) (se_var (pv 1)) (nomark _)) (sb_one (ss_ret se_bl)) sb_nil)))) sb_nil)))))
    (sb_one (ss_ret (se_c (oEq hu) (se_var (pv 3)) (se_lenO hC_SignSet at_SignSet_len fn_SignSet_len ok_SignSet_len (hr.mono (by decide)) bi_SignSet_len b_len rfl (sa_cons (se_var (pv 1)) sa_nil)) (nomark _))))))))))
theorem ok_law_views {f : Addr} {fd : FuncData} (F : FunG K "_law_views" "_law_views" st_law_views f fd) (b_isinstance : mg "isinstance" = none) (b_str : mg "str" = none) {C_SignSet : Addr} (hC_SignSet : ClsN K "SignSet" C_SignSet) (cl_SignSet : Cls K C_SignSet) (ic_SignSet : IsiC K C_SignSet) (mgC_SignSet : mg "SignSet" = some (.ref C_SignSet)) {p_SignSet_least a_SignSet_least : Addr} {d_SignSet_least : FuncData} (ok_SignSet_least : FnOk P w K mg base CX0 1 a_SignSet_least d_SignSet_least P_SignSet_least (spF K 1 f_SignSet_least)) (pr_SignSet_least : PropOf K C_SignSet "least" p_SignSet_least a_SignSet_least) (bi_SignSet_least : Binds K d_SignSet_least P_SignSet_least []) {p_SignSet_members a_SignSet_members : Addr} {d_SignSet_members : FuncData} (ok_SignSet_members : FnOk P w K mg base CX0 1 a_SignSet_members d_SignSet_members P_SignSet_members (spF K 1 f_SignSet_members)) (pr_SignSet_members : PropOf K C_SignSet "members" p_SignSet_members a_SignSet_members) (bi_SignSet_members : Binds K d_SignSet_members P_SignSet_members []) {p_SignSet_ranges a_SignSet_ranges : Addr} {d_SignSet_ranges : FuncData} (ok_SignSet_ranges : FnOk P w K mg base CX0 2 a_SignSet_ranges d_SignSet_ranges P_SignSet_ranges (spF K 1 f_SignSet_ranges)) (pr_SignSet_ranges : PropOf K C_SignSet "ranges" p_SignSet_ranges a_SignSet_ranges) (bi_SignSet_ranges : Binds K d_SignSet_ranges P_SignSet_ranges []) {a_law_runs : Addr} {d_law_runs : FuncData} (ok_law_runs : FnOk P w K mg base CX0 2 a_law_runs d_law_runs P_law_runs (spF K 1 f_law_runs)) (mg_law_runs : mg "_law_runs" = some (.ref a_law_runs)) (kp_law_runs : PySem.W.keepIn K (.ref a_law_runs) = true) (bi_law_runs : Binds K d_law_runs P_law_runs []) {a_law_same_runs : Addr} {d_law_same_runs : FuncData} (ok_law_same_runs : FnOk P w K mg base CX0 1 a_law_same_runs d_law_same_runs P_law_same_runs (spF K 2 f_law_same_runs)) (mg_law_same_runs : mg "_law_same_runs" = some (.ref a_law_same_runs)) (kp_law_same_runs : PySem.W.keepIn K (.ref a_law_same_runs) = true) (bi_law_same_runs : Binds K d_law_same_runs P_law_same_runs []) {a_law_walked : Addr} {d_law_walked : FuncData} (ok_law_walked : FnOk P w K mg base CX0 5 a_law_walked d_law_walked P_law_walked (spF K 2 f_law_walked)) (mg_law_walked : mg "_law_walked" = some (.ref a_law_walked)) (kp_law_walked : PySem.W.keepIn K (.ref a_law_walked) = true) (bi_law_walked : Binds K d_law_walked P_law_walked []) :
    FnOk P w K mg base CX0 6 f fd P_law_views (spF K 2 f_law_views) := by
  have nd := sc_law_views.nd
  refine fn_ok F sc_law_views rfl rfl (by decide) fun cdv A outer s H E hr => ?_
  have hu := hr.units
  exact (sb_cons (ss_if (st_bool (sw_or (st_not (st_val (se_isC b_isinstance rfl hC_SignSet cl_SignSet ic_SignSet mgC_SignSet rfl (se_var (pv 0))) (by intro _; rfl))) (sw_or (st_not (st_val (se_isi b_isinstance rfl b_str rfl (by decide +kernel) (se_prop hC_SignSet cl_SignSet pr_SignSet_members ok_SignSet_members fnS_len (hr.mono (by decide)) bi_SignSet_members (se_var (pv 0)) rfl)) (by intro _; rfl))) (sw_or1 (st_c (oNe hu) (se_prop hC_SignSet cl_SignSet pr_SignSet_members ok_SignSet_members fnS_len (hr.mono (by decide)) bi_SignSet_members (se_var (pv 0)) rfl) (se_var (pv 1)) (nomark _)))))) (sb_one (ss_ret se_bl)) sb_nil)
    (sb_cons (ss_if (st_bool (sw_and (st_c (oEq hu) (se_var (pv 1)) (se_str (cs := []) (by decide +kernel)) (nomark _)) (sw_and1 (st_c oNt (se_prop hC_SignSet cl_SignSet pr_SignSet_least ok_SignSet_least fnS_len (hr.mono (by decide)) bi_SignSet_least (se_var (pv 0)) rfl) se_non (nomark _))))) (sb_one (ss_ret se_bl)) sb_nil)
    (sb_cons (ss_if (st_bool (sw_and (st_c (oNe hu) (se_var (pv 1)) (se_str (cs := []) (by decide +kernel)) (nomark _)) (sw_and1 (st_bool (sw_or (st_not (st_val (se_isi b_isinstance rfl b_str rfl (by decide +kernel) (se_prop hC_SignSet cl_SignSet pr_SignSet_least ok_SignSet_least fnS_len (hr.mono (by decide)) bi_SignSet_least (se_var (pv 0)) rfl)) (by intro _; rfl))) (sw_or1 (st_c (oNe hu) (se_prop hC_SignSet cl_SignSet pr_SignSet_least ok_SignSet_least fnS_len (hr.mono (by decide)) bi_SignSet_least (se_var (pv 0)) rfl) (se_ix (se_var (pv 1)) se_int (fun _ _ => rfl)) (nomark _)))))))) (sb_one (ss_ret se_bl)) sb_nil)
    (sb_cons (ss_set (i := 2) nd rfl (Or.inl rfl) (se_prop hC_SignSet cl_SignSet pr_SignSet_ranges ok_SignSet_ranges fnS_len (hr.mono (by decide)) bi_SignSet_ranges (se_var (pv 0)) rfl))
    (sb_cons (ss_if (st_not (st_val (se_callL (fs := [true, false]) ok_law_same_runs fnS_len (hr.mono (by decide)) mg_law_same_runs kp_law_same_runs bi_law_same_runs rfl (sa_cons (se_var (pv 2)) (sa_cons (se_call (fs := []) ok_law_runs fnS_len (hr.mono (by decide)) mg_law_runs kp_law_runs bi_law_runs rfl (sa_cons (se_var (pv 1)) sa_nil)) sa_nil))) (by intro _; rfl))) (sb_one (ss_ret se_bl)) sb_nil)
    (sb_cons (ss_app (i := 2) (pv 2) (se_tup (sa_cons (se_str (cs := [97]) (by decide +kernel)) (sa_cons (se_str (cs := [98]) (by decide +kernel)) sa_nil))))
    (sb_cons (ss_seti (i := 2) (pv 2) se_int (se_tup (sa_cons (se_str (cs := [126]) (by decide +kernel)) (sa_cons (se_str (cs := [97]) (by decide +kernel)) sa_nil))))
    (sb_one (ss_ret (se_and (se_call (fs := []) ok_law_same_runs fnS_len (hr.mono (by decide)) mg_law_same_runs kp_law_same_runs bi_law_same_runs rfl (sa_cons (se_prop hC_SignSet cl_SignSet pr_SignSet_ranges ok_SignSet_ranges fnS_len (hr.mono (by decide)) bi_SignSet_ranges (se_var (pv 0)) rfl) (sa_cons (se_call (fs := []) ok_law_runs fnS_len (hr.mono (by decide)) mg_law_runs kp_law_runs bi_law_runs rfl (sa_cons (se_var (pv 1)) sa_nil)) sa_nil))) (se_one (se_call (fs := []) ok_law_walked fnS_len (hr.mono (by decide)) mg_law_walked kp_law_walked bi_law_walked rfl (sa_cons (se_var (pv 0)) (sa_cons (se_var (pv 1)) sa_nil))))))))))))))
theorem ok_law {f : Addr} {fd : FuncData} (F : FunG K "law" "law" st_law f fd) (b_int : mg "int" = none) (b_range : mg "range" = none) {C_SignSet : Addr} (hC_SignSet : ClsN K "SignSet" C_SignSet) (cl_SignSet : Cls K C_SignSet) (ic_SignSet : IsiC K C_SignSet) (qc_SignSet : EqC K C_SignSet) (ql_SignSet : EqL K C_SignSet) {fi_SignSet : Addr} {fdi_SignSet : FuncData} (M_SignSet : Mk K C_SignSet fi_SignSet) (okI_SignSet : FnOk P w K mg base CX0 1 fi_SignSet fdi_SignSet P_init_SignSet (spI K C_SignSet 1 g_SignSet)) (mgC_SignSet : mg "SignSet" = some (.ref C_SignSet)) (biI_SignSet : Binds K fdi_SignSet P_init_SignSet []) (biD_SignSet : ∃ dus, Vals [.str ⟨#[]⟩] dus ∧ Binds K fdi_SignSet P_init_SignSet dus) {a_SignSet_between : Addr} {d_SignSet_between : FuncData} (ok_SignSet_between : FnOk P w K mg base CX0 3 a_SignSet_between d_SignSet_between P_SignSet_between (spF K 2 f_SignSet_between)) (sm_SignSet_between : SmOf K C_SignSet "between" a_SignSet_between) (kp_SignSet_between : PySem.W.keepIn K (.ref a_SignSet_between) = true) (bi_SignSet_between : Binds K d_SignSet_between P_SignSet_between []) {a_SignSet_eq : Addr} {d_SignSet_eq : FuncData} (ok_SignSet_eq : FnOk P w K mg base CX0 1 a_SignSet_eq d_SignSet_eq P_SignSet_eq (spF K 2 f_SignSet_eq)) (at_SignSet_eq : PySem.W.findIn K (.ref C_SignSet) "__eq__" = some (some (.ref a_SignSet_eq))) (fn_SignSet_eq : PySem.W.isFn K (.ref a_SignSet_eq) = true) (kp_SignSet_eq : PySem.W.keepIn K (.ref a_SignSet_eq) = true) (bi_SignSet_eq : Binds K d_SignSet_eq P_SignSet_eq []) {a_SignSet_within : Addr} {d_SignSet_within : FuncData} (ok_SignSet_within : FnOk P w K mg base CX0 1 a_SignSet_within d_SignSet_within P_SignSet_within (spF K 2 f_SignSet_within)) (at_SignSet_within : PySem.W.findIn K (.ref C_SignSet) "within" = some (some (.ref a_SignSet_within))) (fn_SignSet_within : PySem.W.isFn K (.ref a_SignSet_within) = true) (kp_SignSet_within : PySem.W.keepIn K (.ref a_SignSet_within) = true) (bi_SignSet_within : Binds K d_SignSet_within P_SignSet_within []) {a_law_draw : Addr} {d_law_draw : FuncData} (ok_law_draw : FnOk P w K mg base CX0 1 a_law_draw d_law_draw P_law_draw (spF K 1 f_law_draw)) (mg_law_draw : mg "_law_draw" = some (.ref a_law_draw)) (kp_law_draw : PySem.W.keepIn K (.ref a_law_draw) = true) (bi_law_draw : Binds K d_law_draw P_law_draw []) {a_law_inside : Addr} {d_law_inside : FuncData} (ok_law_inside : FnOk P w K mg base CX0 1 a_law_inside d_law_inside P_law_inside (spF K 2 f_law_inside)) (mg_law_inside : mg "_law_inside" = some (.ref a_law_inside)) (kp_law_inside : PySem.W.keepIn K (.ref a_law_inside) = true) (bi_law_inside : Binds K d_law_inside P_law_inside []) {a_law_mixed : Addr} {d_law_mixed : FuncData} (ok_law_mixed : FnOk P w K mg base CX0 2 a_law_mixed d_law_mixed P_law_mixed (spF K 2 f_law_mixed)) (mg_law_mixed : mg "_law_mixed" = some (.ref a_law_mixed)) (kp_law_mixed : PySem.W.keepIn K (.ref a_law_mixed) = true) (bi_law_mixed : Binds K d_law_mixed P_law_mixed []) {a_law_near : Addr} {d_law_near : FuncData} (ok_law_near : FnOk P w K mg base CX0 3 a_law_near d_law_near P_law_near (spF K 2 f_law_near)) (mg_law_near : mg "_law_near" = some (.ref a_law_near)) (kp_law_near : PySem.W.keepIn K (.ref a_law_near) = true) (bi_law_near : Binds K d_law_near P_law_near []) {a_law_next : Addr} {d_law_next : FuncData} (ok_law_next : FnOk P w K mg base CX0 1 a_law_next d_law_next P_law_next (spF K 2 f_law_next)) (mg_law_next : mg "_law_next" = some (.ref a_law_next)) (kp_law_next : PySem.W.keepIn K (.ref a_law_next) = true) (bi_law_next : Binds K d_law_next P_law_next []) {a_law_signs : Addr} {d_law_signs : FuncData} (ok_law_signs : FnOk P w K mg base CX0 1 a_law_signs d_law_signs P_law_signs (spF K 0 f_law_signs)) (mg_law_signs : mg "_law_signs" = some (.ref a_law_signs)) (kp_law_signs : PySem.W.keepIn K (.ref a_law_signs) = true) (bi_law_signs : Binds K d_law_signs P_law_signs []) {a_law_subset : Addr} {d_law_subset : FuncData} (ok_law_subset : FnOk P w K mg base CX0 2 a_law_subset d_law_subset P_law_subset (spF K 1 f_law_subset)) (mg_law_subset : mg "_law_subset" = some (.ref a_law_subset)) (kp_law_subset : PySem.W.keepIn K (.ref a_law_subset) = true) (bi_law_subset : Binds K d_law_subset P_law_subset []) {a_law_told : Addr} {d_law_told : FuncData} (ok_law_told : FnOk P w K mg base CX0 1 a_law_told d_law_told P_law_told (spF K 2 f_law_told)) (mg_law_told : mg "_law_told" = some (.ref a_law_told)) (kp_law_told : PySem.W.keepIn K (.ref a_law_told) = true) (bi_law_told : Binds K d_law_told P_law_told []) {a_law_views : Addr} {d_law_views : FuncData} (ok_law_views : FnOk P w K mg base CX0 6 a_law_views d_law_views P_law_views (spF K 2 f_law_views)) (mg_law_views : mg "_law_views" = some (.ref a_law_views)) (kp_law_views : PySem.W.keepIn K (.ref a_law_views) = true) (bi_law_views : Binds K d_law_views P_law_views []) :
    FnOk P w K mg base CX0 7 f fd P_law (spF K 1 f_law) := by
  have nd := sc_law.nd
  refine fn_ok F sc_law rfl rfl (by decide) fun cdv A outer s H E hr => ?_
  have hu := hr.units
  exact (sb_cons (ss_set (i := 1) nd rfl (Or.inl rfl) (se_call (fs := []) ok_law_draw fnS_len (hr.mono (by decide)) mg_law_draw kp_law_draw bi_law_draw rfl (sa_cons (se_var (pv 0)) sa_nil)))
    (sb_cons (ss_set (i := 2) nd rfl (Or.inl rfl) (se_call0 (fs := []) ok_law_signs fnS_len (hr.mono (by decide)) mg_law_signs kp_law_signs bi_law_signs rfl))
    (sb_cons (ss_set (i := 3) nd rfl (Or.inl rfl) (se_call (fs := [true]) ok_law_subset fnS_len (hr.mono (by decide)) mg_law_subset kp_law_subset bi_law_subset rfl (sa_cons (se_var (pv 1)) sa_nil)))
    (sb_cons (ss_set (i := 4) nd rfl (Or.inl rfl) (se_call (fs := [true, false]) ok_law_near fnS_len (hr.mono (by decide)) mg_law_near kp_law_near bi_law_near rfl (sa_cons (se_var (pv 1)) (sa_cons (se_var (pv 3)) sa_nil))))
    (sb_cons (ss_set (i := 5) nd rfl (Or.inl rfl) (se_make M_SignSet hC_SignSet okI_SignSet g_SignSet_len (hr.mono (by decide)) rfl mgC_SignSet biI_SignSet (sa_cons (se_call (fs := [true, false]) ok_law_mixed fnS_len (hr.mono (by decide)) mg_law_mixed kp_law_mixed bi_law_mixed rfl (sa_cons (se_var (pv 1)) (sa_cons (se_var (pv 3)) sa_nil))) sa_nil)))
    (sb_cons (ss_set (i := 6) nd rfl (Or.inl rfl) (se_make M_SignSet hC_SignSet okI_SignSet g_SignSet_len (hr.mono (by decide)) rfl mgC_SignSet biI_SignSet (sa_cons (se_call (fs := [true, false]) ok_law_mixed fnS_len (hr.mono (by decide)) mg_law_mixed kp_law_mixed bi_law_mixed rfl (sa_cons (se_var (pv 1)) (sa_cons (se_var (pv 3)) sa_nil))) sa_nil)))
    (sb_cons (ss_set (i := 7) nd rfl (Or.inl rfl) (se_make M_SignSet hC_SignSet okI_SignSet g_SignSet_len (hr.mono (by decide)) rfl mgC_SignSet biI_SignSet (sa_cons (se_call (fs := [true, false]) ok_law_mixed fnS_len (hr.mono (by decide)) mg_law_mixed kp_law_mixed bi_law_mixed rfl (sa_cons (se_var (pv 1)) (sa_cons (se_var (pv 4)) sa_nil))) sa_nil)))
    (sb_cons (ss_set (i := 8) nd rfl (Or.inl rfl) (se_call (fs := [true, false]) ok_law_next fnS_len (hr.mono (by decide)) mg_law_next kp_law_next bi_law_next rfl (sa_cons (se_var (pv 1)) (sa_cons se_int sa_nil))))
    (sb_cons (ss_set (i := 9) nd rfl (Or.inl rfl) (se_ix (se_lst (sa_cons (se_var (pv 8)) (sa_cons (se_b oMod (se_toint b_int rfl (sa_cons (se_b oAdd (se_var (pv 8)) se_int) sa_nil)) se_int) (sa_cons (se_b oMod (se_toint b_int rfl (sa_cons (se_b oAdd (se_var (pv 8)) se_int) sa_nil)) se_int) (sa_cons (se_call (fs := [true, false]) ok_law_next fnS_len (hr.mono (by decide)) mg_law_next kp_law_next bi_law_next rfl (sa_cons (se_var (pv 1)) (sa_cons se_int sa_nil))) sa_nil))))) (se_call (fs := [true, false]) ok_law_next fnS_len (hr.mono (by decide)) mg_law_next kp_law_next bi_law_next rfl (sa_cons (se_var (pv 1)) (sa_cons se_int sa_nil))) (fun _ _ => rfl)))
    (sb_cons (ss_set (i := 10) nd rfl (Or.inl rfl) (se_sm (fs := []) ok_SignSet_between fnS_len (hr.mono (by decide)) rfl mgC_SignSet sm_SignSet_between kp_SignSet_between bi_SignSet_between (sa_cons (se_ix (se_var (pv 2)) (se_var (pv 8)) (fun _ _ => rfl)) (sa_cons (se_ix (se_var (pv 2)) (se_var (pv 9)) (fun _ _ => rfl)) sa_nil))))
    (sb_cons (ss_for PassesOwn.never rfl (si_range1 b_range rfl (sa_cons se_int sa_nil)) (sg_name (i := 11) nd rfl (Or.inl rfl)) (sb_cons (ss_if (st_bool (sw_or (st_not (st_val (se_call (fs := []) ok_law_views fnS_len (hr.mono (by decide)) mg_law_views kp_law_views bi_law_views rfl (sa_cons (se_var (pv 5)) (sa_cons (se_var (pv 3)) sa_nil))) (by intro _; rfl))) (sw_or (st_not (st_val (se_call (fs := []) ok_law_views fnS_len (hr.mono (by decide)) mg_law_views kp_law_views bi_law_views rfl (sa_cons (se_var (pv 6)) (sa_cons (se_var (pv 3)) sa_nil))) (by intro _; rfl))) (sw_or1 (st_not (st_val (se_call (fs := []) ok_law_views fnS_len (hr.mono (by decide)) mg_law_views kp_law_views bi_law_views rfl (sa_cons (se_var (pv 7)) (sa_cons (se_var (pv 4)) sa_nil))) (by intro _; rfl))))))) (sb_one (ss_ret se_bl)) sb_nil)
    (sb_cons (ss_if (st_bool (sw_or (st_not (st_val (se_call (fs := []) ok_law_views fnS_len (hr.mono (by decide)) mg_law_views kp_law_views bi_law_views rfl (sa_cons (se_var (pv 10)) (sa_cons (se_slcA (se_var (pv 2)) (so_some (se_var (pv 8))) (so_some (se_b oAdd (se_var (pv 9)) se_int))) sa_nil))) (by intro _; rfl))) (sw_or1 (st_not (st_val (se_call (fs := []) ok_law_views fnS_len (hr.mono (by decide)) mg_law_views kp_law_views bi_law_views rfl (sa_cons (se_make0 M_SignSet hC_SignSet okI_SignSet g_SignSet_len (hr.mono (by decide)) rfl mgC_SignSet biD_SignSet ⟨fun _ => .str [], trivial⟩) (sa_cons (se_str (cs := []) (by decide +kernel)) sa_nil))) (by intro _; rfl)))))) (sb_one (ss_ret se_bl)) sb_nil)
    (sb_cons (ss_if (st_bool (sw_or (st_not (st_val (se_call (fs := []) ok_law_told fnS_len (hr.mono (by decide)) mg_law_told kp_law_told bi_law_told rfl (sa_cons (se_c (Op2.or (Op2.or (oEq hu) (oOwnEq hC_SignSet cl_SignSet ic_SignSet qc_SignSet at_SignSet_eq fn_SignSet_eq hu ok_SignSet_eq (hr.mono (by decide)) bi_SignSet_eq )) (oOwnEqL hC_SignSet ql_SignSet at_SignSet_eq fn_SignSet_eq hu ok_SignSet_eq (hr.mono (by decide)) bi_SignSet_eq )) (se_var (pv 5)) (se_var (pv 6)) (nomark _)) (sa_cons se_bl sa_nil))) (by intro _; rfl))) (sw_or (st_not (st_val (se_call (fs := []) ok_law_told fnS_len (hr.mono (by decide)) mg_law_told kp_law_told bi_law_told rfl (sa_cons (se_c (Op2.or (Op2.or (oEq hu) (oOwnEq hC_SignSet cl_SignSet ic_SignSet qc_SignSet at_SignSet_eq fn_SignSet_eq hu ok_SignSet_eq (hr.mono (by decide)) bi_SignSet_eq )) (oOwnEqL hC_SignSet ql_SignSet at_SignSet_eq fn_SignSet_eq hu ok_SignSet_eq (hr.mono (by decide)) bi_SignSet_eq )) (se_var (pv 5)) (se_var (pv 5)) (nomark _)) (sa_cons se_bl sa_nil))) (by intro _; rfl))) (sw_or1 (st_not (st_val (se_call (fs := []) ok_law_told fnS_len (hr.mono (by decide)) mg_law_told kp_law_told bi_law_told rfl (sa_cons (se_c (Op2.or (Op2.or (oEq hu) (oOwnEq hC_SignSet cl_SignSet ic_SignSet qc_SignSet at_SignSet_eq fn_SignSet_eq hu ok_SignSet_eq (hr.mono (by decide)) bi_SignSet_eq )) (oOwnEqL hC_SignSet ql_SignSet at_SignSet_eq fn_SignSet_eq hu ok_SignSet_eq (hr.mono (by decide)) bi_SignSet_eq )) (se_var (pv 5)) (se_var (pv 7)) (nomark _)) (sa_cons (se_c (Op2.or (Op2.or (oEq hu) (oOwnEq hC_SignSet cl_SignSet ic_SignSet qc_SignSet at_SignSet_eq fn_SignSet_eq hu ok_SignSet_eq (hr.mono (by decide)) bi_SignSet_eq )) (oOwnEqL hC_SignSet ql_SignSet at_SignSet_eq fn_SignSet_eq hu ok_SignSet_eq (hr.mono (by decide)) bi_SignSet_eq )) (se_var (pv 3)) (se_var (pv 4)) (nomark _)) sa_nil))) (by intro _; rfl))))))) (sb_one (ss_ret se_bl)) sb_nil)
    (sb_cons (ss_if (st_bool (sw_or (st_not (st_val (se_call (fs := []) ok_law_told fnS_len (hr.mono (by decide)) mg_law_told kp_law_told bi_law_told rfl (sa_cons (se_c (Op2.or (Op2.or (oEq hu) (oOwnEq hC_SignSet cl_SignSet ic_SignSet qc_SignSet at_SignSet_eq fn_SignSet_eq hu ok_SignSet_eq (hr.mono (by decide)) bi_SignSet_eq )) (oOwnEqL hC_SignSet ql_SignSet at_SignSet_eq fn_SignSet_eq hu ok_SignSet_eq (hr.mono (by decide)) bi_SignSet_eq )) (se_var (pv 7)) (se_var (pv 5)) (nomark _)) (sa_cons (se_c (Op2.or (Op2.or (oEq hu) (oOwnEq hC_SignSet cl_SignSet ic_SignSet qc_SignSet at_SignSet_eq fn_SignSet_eq hu ok_SignSet_eq (hr.mono (by decide)) bi_SignSet_eq )) (oOwnEqL hC_SignSet ql_SignSet at_SignSet_eq fn_SignSet_eq hu ok_SignSet_eq (hr.mono (by decide)) bi_SignSet_eq )) (se_var (pv 3)) (se_var (pv 4)) (nomark _)) sa_nil))) (by intro _; rfl))) (sw_or1 (st_not (st_val (se_call (fs := []) ok_law_told fnS_len (hr.mono (by decide)) mg_law_told kp_law_told bi_law_told rfl (sa_cons (se_c (Op2.or (Op2.or (oEq hu) (oOwnEq hC_SignSet cl_SignSet ic_SignSet qc_SignSet at_SignSet_eq fn_SignSet_eq hu ok_SignSet_eq (hr.mono (by decide)) bi_SignSet_eq )) (oOwnEqL hC_SignSet ql_SignSet at_SignSet_eq fn_SignSet_eq hu ok_SignSet_eq (hr.mono (by decide)) bi_SignSet_eq )) (se_var (pv 5)) (se_var (pv 10)) (nomark _)) (sa_cons (se_c (Op2.or (Op2.or (oEq hu) (oOwnEq hC_SignSet cl_SignSet ic_SignSet qc_SignSet at_SignSet_eq fn_SignSet_eq hu ok_SignSet_eq (hr.mono (by decide)) bi_SignSet_eq )) (oOwnEqL hC_SignSet ql_SignSet at_SignSet_eq fn_SignSet_eq hu ok_SignSet_eq (hr.mono (by decide)) bi_SignSet_eq )) (se_var (pv 3)) (se_slcA (se_var (pv 2)) (so_some (se_var (pv 8))) (so_some (se_b oAdd (se_var (pv 9)) se_int))) (nomark _)) sa_nil))) (by intro _; rfl)))))) (sb_one (ss_ret se_bl)) sb_nil)
    (sb_cons (ss_if (st_bool (sw_or (st_not (st_val (se_call (fs := []) ok_law_told fnS_len (hr.mono (by decide)) mg_law_told kp_law_told bi_law_told rfl (sa_cons (se_c (Op2.or (Op2.or (oEq hu) (oOwnEq hC_SignSet cl_SignSet ic_SignSet qc_SignSet at_SignSet_eq fn_SignSet_eq hu ok_SignSet_eq (hr.mono (by decide)) bi_SignSet_eq )) (oOwnEqL hC_SignSet ql_SignSet at_SignSet_eq fn_SignSet_eq hu ok_SignSet_eq (hr.mono (by decide)) bi_SignSet_eq )) (se_var (pv 5)) (se_var (pv 3)) (nomark _)) (sa_cons se_bl sa_nil))) (by intro _; rfl))) (sw_or1 (st_not (st_val (se_call (fs := []) ok_law_told fnS_len (hr.mono (by decide)) mg_law_told kp_law_told bi_law_told rfl (sa_cons (se_c (Op2.or (Op2.or (oEq hu) (oOwnEq hC_SignSet cl_SignSet ic_SignSet qc_SignSet at_SignSet_eq fn_SignSet_eq hu ok_SignSet_eq (hr.mono (by decide)) bi_SignSet_eq )) (oOwnEqL hC_SignSet ql_SignSet at_SignSet_eq fn_SignSet_eq hu ok_SignSet_eq (hr.mono (by decide)) bi_SignSet_eq )) (se_var (pv 5)) (se_lc (own := [("_law_sign", 12)]) rfl nd (si_seq (se_var (pv 3))) (blkOk_by (own := [("_law_sign", 12)]) (N := N_law) (sc := defScope st_law) (by decide +kernel)) (by decide) (gok_name 12) (fun _ _ _ _ _ => (sg_name (i := 12) nd rfl (Or.inl rfl))) (fun _ _ _ _ _ => sts_nil) (fun _ _ _ _ _ => (se_var (pv 12)))) (nomark _)) (sa_cons se_bl sa_nil))) (by intro _; rfl)))))) (sb_one (ss_ret se_bl)) sb_nil)
    (sb_cons (ss_if (st_bool (sw_or (st_not (st_val (se_call (fs := []) ok_law_told fnS_len (hr.mono (by decide)) mg_law_told kp_law_told bi_law_told rfl (sa_cons (se_meth hC_SignSet cl_SignSet ⟨at_SignSet_within , fn_SignSet_within , kp_SignSet_within ⟩ ok_SignSet_within fnS_len (hr.mono (by decide)) bi_SignSet_within (se_var (pv 5)) (sa_cons (se_var (pv 7)) sa_nil)) (sa_cons (se_call (fs := []) ok_law_inside fnS_len (hr.mono (by decide)) mg_law_inside kp_law_inside bi_law_inside rfl (sa_cons (se_var (pv 3)) (sa_cons (se_var (pv 4)) sa_nil))) sa_nil))) (by intro _; rfl))) (sw_or1 (st_not (st_val (se_call (fs := []) ok_law_told fnS_len (hr.mono (by decide)) mg_law_told kp_law_told bi_law_told rfl (sa_cons (se_meth hC_SignSet cl_SignSet ⟨at_SignSet_within , fn_SignSet_within , kp_SignSet_within ⟩ ok_SignSet_within fnS_len (hr.mono (by decide)) bi_SignSet_within (se_var (pv 7)) (sa_cons (se_var (pv 5)) sa_nil)) (sa_cons (se_call (fs := []) ok_law_inside fnS_len (hr.mono (by decide)) mg_law_inside kp_law_inside bi_law_inside rfl (sa_cons (se_var (pv 4)) (sa_cons (se_var (pv 3)) sa_nil))) sa_nil))) (by intro _; rfl)))))) (sb_one (ss_ret se_bl)) sb_nil)
    (sb_cons (ss_if (st_bool (sw_or (st_not (st_val (se_call (fs := []) ok_law_told fnS_len (hr.mono (by decide)) mg_law_told kp_law_told bi_law_told rfl (sa_cons (se_meth hC_SignSet cl_SignSet ⟨at_SignSet_within , fn_SignSet_within , kp_SignSet_within ⟩ ok_SignSet_within fnS_len (hr.mono (by decide)) bi_SignSet_within (se_var (pv 5)) (sa_cons (se_var (pv 6)) sa_nil)) (sa_cons se_bl sa_nil))) (by intro _; rfl))) (sw_or1 (st_not (st_val (se_call (fs := []) ok_law_told fnS_len (hr.mono (by decide)) mg_law_told kp_law_told bi_law_told rfl (sa_cons (se_meth hC_SignSet cl_SignSet ⟨at_SignSet_within , fn_SignSet_within , kp_SignSet_within ⟩ ok_SignSet_within fnS_len (hr.mono (by decide)) bi_SignSet_within (se_make0 M_SignSet hC_SignSet okI_SignSet g_SignSet_len (hr.mono (by decide)) rfl mgC_SignSet biD_SignSet ⟨fun _ => .str [], trivial⟩) (sa_cons (se_var (pv 5)) sa_nil)) (sa_cons se_bl sa_nil))) (by intro _; rfl)))))) (sb_one (ss_ret se_bl)) sb_nil)
    (sb_one (ss_if (st_bool (sw_or (st_not (st_val (se_call (fs := []) ok_law_told fnS_len (hr.mono (by decide)) mg_law_told kp_law_told bi_law_told rfl (sa_cons (se_meth hC_SignSet cl_SignSet ⟨at_SignSet_within , fn_SignSet_within , kp_SignSet_within ⟩ ok_SignSet_within fnS_len (hr.mono (by decide)) bi_SignSet_within (se_var (pv 5)) (sa_cons (se_make0 M_SignSet hC_SignSet okI_SignSet g_SignSet_len (hr.mono (by decide)) rfl mgC_SignSet biD_SignSet ⟨fun _ => .str [], trivial⟩) sa_nil)) (sa_cons (se_c (Op2.or (Op2.or (oEq hu) (oOwnEq hC_SignSet cl_SignSet ic_SignSet qc_SignSet at_SignSet_eq fn_SignSet_eq hu ok_SignSet_eq (hr.mono (by decide)) bi_SignSet_eq )) (oOwnEqL hC_SignSet ql_SignSet at_SignSet_eq fn_SignSet_eq hu ok_SignSet_eq (hr.mono (by decide)) bi_SignSet_eq )) (se_var (pv 3)) (se_str (cs := []) (by decide +kernel)) (nomark _)) sa_nil))) (by intro _; rfl))) (sw_or1 (st_not (st_val (se_call (fs := []) ok_law_told fnS_len (hr.mono (by decide)) mg_law_told kp_law_told bi_law_told rfl (sa_cons (se_meth hC_SignSet cl_SignSet ⟨at_SignSet_within , fn_SignSet_within , kp_SignSet_within ⟩ ok_SignSet_within fnS_len (hr.mono (by decide)) bi_SignSet_within (se_var (pv 5)) (sa_cons (se_var (pv 10)) sa_nil)) (sa_cons (se_call (fs := []) ok_law_inside fnS_len (hr.mono (by decide)) mg_law_inside kp_law_inside bi_law_inside rfl (sa_cons (se_var (pv 3)) (sa_cons (se_slcA (se_var (pv 2)) (so_some (se_var (pv 8))) (so_some (se_b oAdd (se_var (pv 9)) se_int))) sa_nil))) sa_nil))) (by intro _; rfl)))))) (sb_one (ss_ret se_bl)) sb_nil))))))))))
    (sb_one (ss_ret se_bl)))))))))))))
end
end K01
namespace K01
open PySem PySem.Spec PyProof.Rows L2 Sw
/-! what the top has written -/
theorem all_mk {l : PySem.W.OpenLaw} {w : World} {K : PySem.W.Frag} {h : Heap} {mg : Str → Option Value} {fa : Addr} (X : K.In h) (G : h.Ns mainGlobals mg) (hfa : mg "law" = some (.ref fa))
    {C_SignSet : Addr} (aC_SignSet : PySem.W.nsIn K mainGlobals "SignSet" = some (some (.ref C_SignSet)))
    (pg_SignSet : PySem.W.plainGet K C_SignSet PySem.Str.empty = true) (hd_SignSet : PySem.W.hasDictIn K C_SignSet = true) (po_SignSet : PySem.W.plainOver K C_SignSet = true) (sa_SignSet : PySem.W.findIn K (.ref C_SignSet) "__setattr__" = some (some (.builtin "object.__setattr__"))) (mk_SignSet : PySem.W.makesIn K C_SignSet = true) (kc_SignSet : PySem.W.keepIn K (.ref C_SignSet) = true)
    (na_SignSet__signs : PySem.W.findIn K (.ref C_SignSet) "_signs" = some none)
    (ic0_SignSet : PySem.W.findIn K (.ref C_SignSet) "__class__" = some (some (.builtin "object.__class__"))) (ic1_SignSet : PySem.W.specialIn K (.builtin "object.__class__") "__get__" = some (some (.builtin "getset_descriptor.__get__"))) (ic2_SignSet : PySem.W.takesIn K (.builtin "object.__class__") = some true) (ic3_SignSet : PySem.W.mroIn K C_SignSet (.type "object") = some true)
    (ic4_SignSet : PySem.W.kitOne K (.type "NoneType") (.ref C_SignSet) = some false)
    (ic5_SignSet : PySem.W.kitOne K (.type "bool") (.ref C_SignSet) = some false)
    (ic6_SignSet : PySem.W.kitOne K (.type "int") (.ref C_SignSet) = some false)
    (ic7_SignSet : PySem.W.kitOne K (.type "str") (.ref C_SignSet) = some false)
    (ic8_SignSet : PySem.W.kitOne K (.type "list") (.ref C_SignSet) = some false)
    (ic9_SignSet : PySem.W.kitOne K (.type "tuple") (.ref C_SignSet) = some false)
    (qc0_SignSet : PySem.W.notFirst K C_SignSet (.type "NoneType") = true)
    (qc1_SignSet : PySem.W.notFirst K C_SignSet (.type "bool") = true)
    (qc2_SignSet : PySem.W.notFirst K C_SignSet (.type "int") = true)
    (qc3_SignSet : PySem.W.notFirst K C_SignSet (.type "str") = true)
    (qc4_SignSet : PySem.W.notFirst K C_SignSet (.type "tuple") = true)
    (ql_SignSet : PySem.W.notFirst K C_SignSet (.type "list") = true)
    {f0 : Addr} {od0 an0 : Option Addr} {sl0 : Array (Option Value)} {oc0 kV0 dc0 pm0 cd0 ct0 : Value}
    {T0 : Addr} {oT0 : Obj} {its0 : List Value} {nT0 : Nat} (a0 : PySem.W.findIn K (.ref C_SignSet) "__init__" = some (some (.ref f0))) (i0 : PySem.W.isFn K (.ref f0) = true) (l0 : K.lookup f0 = some ⟨oc0, od0, .func (PySem.W.fnOf "__init__" "SignSet.__init__" (defArgs st_init_SignSet) (defBody st_init_SignSet) (defScope st_init_SignSet) (.ref T0) kV0 dc0 pm0 an0 cd0 ct0), sl0⟩) (c0 : PySem.W.codeIn K cd0 "SignSet.__init__" = true) (k0 : PySem.W.keepIn K (.ref f0) = true)
    (tl0 : K.lookup T0 = some oT0) (td0 : oT0.data = .seq its0.toArray nT0) (tv0 : Vals [.str ⟨#[]⟩] its0)
    {f1 : Addr} {od1 an1 : Option Addr} {sl1 : Array (Option Value)} {oc1 kV1 dc1 pm1 cd1 ct1 : Value}
    (a1 : PySem.W.nsIn K mainGlobals "rank" = some (some (.ref f1))) (l1 : K.lookup f1 = some ⟨oc1, od1, .func (PySem.W.fnOf "rank" "rank" (defArgs st_rank) (defBody st_rank) (defScope st_rank) .none kV1 dc1 pm1 an1 cd1 ct1), sl1⟩) (c1 : PySem.W.codeIn K cd1 "rank" = true) (k1 : PySem.W.keepIn K (.ref f1) = true)
    {f2 : Addr} {od2 an2 : Option Addr} {sl2 : Array (Option Value)} {oc2 kV2 dc2 pm2 cd2 ct2 : Value}
    {p2 : Addr} {mc2 : Value} (ga2 : PySem.W.specialIn K (.ref C_SignSet) "__getattribute__" = some (some (.builtin "type.__getattribute__"))) (ty2 : PySem.W.typeIn K (.ref C_SignSet) = some mc2) (rd2 : PySem.W.readsIn K C_SignSet mc2 = true) (fc2 : PySem.W.findCls K (.ref C_SignSet) mc2 "between" = some (.get (.builtin "staticmethod.__get__") (.ref p2) .none (.ref C_SignSet))) (pc2 : ∃ rest, PySem.W.recIn K p2 "staticmethod" = some (.ref f2 :: rest)) (l2 : K.lookup f2 = some ⟨oc2, od2, .func (PySem.W.fnOf "between" "SignSet.between" (defArgs st_SignSet_between) (defBody st_SignSet_between) (defScope st_SignSet_between) .none kV2 dc2 pm2 an2 cd2 ct2), sl2⟩) (c2 : PySem.W.codeIn K cd2 "SignSet.between" = true) (k2 : PySem.W.keepIn K (.ref f2) = true)
    {f3 : Addr} {od3 an3 : Option Addr} {sl3 : Array (Option Value)} {oc3 kV3 dc3 pm3 cd3 ct3 : Value}
    (a3 : PySem.W.findIn K (.ref C_SignSet) "__eq__" = some (some (.ref f3))) (i3 : PySem.W.isFn K (.ref f3) = true) (l3 : K.lookup f3 = some ⟨oc3, od3, .func (PySem.W.fnOf "__eq__" "SignSet.__eq__" (defArgs st_SignSet_eq) (defBody st_SignSet_eq) (defScope st_SignSet_eq) .none kV3 dc3 pm3 an3 cd3 ct3), sl3⟩) (c3 : PySem.W.codeIn K cd3 "SignSet.__eq__" = true) (k3 : PySem.W.keepIn K (.ref f3) = true)
    {f4 : Addr} {od4 an4 : Option Addr} {sl4 : Array (Option Value)} {oc4 kV4 dc4 pm4 cd4 ct4 : Value}
    (a4 : PySem.W.findIn K (.ref C_SignSet) "within" = some (some (.ref f4))) (i4 : PySem.W.isFn K (.ref f4) = true) (l4 : K.lookup f4 = some ⟨oc4, od4, .func (PySem.W.fnOf "within" "SignSet.within" (defArgs st_SignSet_within) (defBody st_SignSet_within) (defScope st_SignSet_within) .none kV4 dc4 pm4 an4 cd4 ct4), sl4⟩) (c4 : PySem.W.codeIn K cd4 "SignSet.within" = true) (k4 : PySem.W.keepIn K (.ref f4) = true)
    {f5 : Addr} {od5 an5 : Option Addr} {sl5 : Array (Option Value)} {oc5 kV5 dc5 pm5 cd5 ct5 : Value}
    (a5 : PySem.W.nsIn K mainGlobals "_law_draw" = some (some (.ref f5))) (l5 : K.lookup f5 = some ⟨oc5, od5, .func (PySem.W.fnOf "_law_draw" "_law_draw" (defArgs st_law_draw) (defBody st_law_draw) (defScope st_law_draw) .none kV5 dc5 pm5 an5 cd5 ct5), sl5⟩) (c5 : PySem.W.codeIn K cd5 "_law_draw" = true) (k5 : PySem.W.keepIn K (.ref f5) = true)
    {f6 : Addr} {od6 an6 : Option Addr} {sl6 : Array (Option Value)} {oc6 kV6 dc6 pm6 cd6 ct6 : Value}
    (a6 : PySem.W.nsIn K mainGlobals "_law_inside" = some (some (.ref f6))) (l6 : K.lookup f6 = some ⟨oc6, od6, .func (PySem.W.fnOf "_law_inside" "_law_inside" (defArgs st_law_inside) (defBody st_law_inside) (defScope st_law_inside) .none kV6 dc6 pm6 an6 cd6 ct6), sl6⟩) (c6 : PySem.W.codeIn K cd6 "_law_inside" = true) (k6 : PySem.W.keepIn K (.ref f6) = true)
    {f7 : Addr} {od7 an7 : Option Addr} {sl7 : Array (Option Value)} {oc7 kV7 dc7 pm7 cd7 ct7 : Value}
    (a7 : PySem.W.nsIn K mainGlobals "_law_next" = some (some (.ref f7))) (l7 : K.lookup f7 = some ⟨oc7, od7, .func (PySem.W.fnOf "_law_next" "_law_next" (defArgs st_law_next) (defBody st_law_next) (defScope st_law_next) .none kV7 dc7 pm7 an7 cd7 ct7), sl7⟩) (c7 : PySem.W.codeIn K cd7 "_law_next" = true) (k7 : PySem.W.keepIn K (.ref f7) = true)
    {f8 : Addr} {od8 an8 : Option Addr} {sl8 : Array (Option Value)} {oc8 kV8 dc8 pm8 cd8 ct8 : Value}
    (a8 : PySem.W.nsIn K mainGlobals "_law_mixed" = some (some (.ref f8))) (l8 : K.lookup f8 = some ⟨oc8, od8, .func (PySem.W.fnOf "_law_mixed" "_law_mixed" (defArgs st_law_mixed) (defBody st_law_mixed) (defScope st_law_mixed) .none kV8 dc8 pm8 an8 cd8 ct8), sl8⟩) (c8 : PySem.W.codeIn K cd8 "_law_mixed" = true) (k8 : PySem.W.keepIn K (.ref f8) = true)
    {f9 : Addr} {od9 an9 : Option Addr} {sl9 : Array (Option Value)} {oc9 kV9 dc9 pm9 cd9 ct9 : Value}
    (a9 : PySem.W.nsIn K mainGlobals "_law_signs" = some (some (.ref f9))) (l9 : K.lookup f9 = some ⟨oc9, od9, .func (PySem.W.fnOf "_law_signs" "_law_signs" (defArgs st_law_signs) (defBody st_law_signs) (defScope st_law_signs) .none kV9 dc9 pm9 an9 cd9 ct9), sl9⟩) (c9 : PySem.W.codeIn K cd9 "_law_signs" = true) (k9 : PySem.W.keepIn K (.ref f9) = true)
    {f10 : Addr} {od10 an10 : Option Addr} {sl10 : Array (Option Value)} {oc10 kV10 dc10 pm10 cd10 ct10 : Value}
    (a10 : PySem.W.nsIn K mainGlobals "_law_subset" = some (some (.ref f10))) (l10 : K.lookup f10 = some ⟨oc10, od10, .func (PySem.W.fnOf "_law_subset" "_law_subset" (defArgs st_law_subset) (defBody st_law_subset) (defScope st_law_subset) .none kV10 dc10 pm10 an10 cd10 ct10), sl10⟩) (c10 : PySem.W.codeIn K cd10 "_law_subset" = true) (k10 : PySem.W.keepIn K (.ref f10) = true)
    {f11 : Addr} {od11 an11 : Option Addr} {sl11 : Array (Option Value)} {oc11 kV11 dc11 pm11 cd11 ct11 : Value}
    (a11 : PySem.W.nsIn K mainGlobals "_law_near" = some (some (.ref f11))) (l11 : K.lookup f11 = some ⟨oc11, od11, .func (PySem.W.fnOf "_law_near" "_law_near" (defArgs st_law_near) (defBody st_law_near) (defScope st_law_near) .none kV11 dc11 pm11 an11 cd11 ct11), sl11⟩) (c11 : PySem.W.codeIn K cd11 "_law_near" = true) (k11 : PySem.W.keepIn K (.ref f11) = true)
    {f12 : Addr} {od12 an12 : Option Addr} {sl12 : Array (Option Value)} {oc12 kV12 dc12 pm12 cd12 ct12 : Value}
    (a12 : PySem.W.nsIn K mainGlobals "_law_told" = some (some (.ref f12))) (l12 : K.lookup f12 = some ⟨oc12, od12, .func (PySem.W.fnOf "_law_told" "_law_told" (defArgs st_law_told) (defBody st_law_told) (defScope st_law_told) .none kV12 dc12 pm12 an12 cd12 ct12), sl12⟩) (c12 : PySem.W.codeIn K cd12 "_law_told" = true) (k12 : PySem.W.keepIn K (.ref f12) = true)
    {f13 : Addr} {od13 an13 : Option Addr} {sl13 : Array (Option Value)} {oc13 kV13 dc13 pm13 cd13 ct13 : Value}
    {p13 : Addr} (pa13 : PySem.W.findIn K (.ref C_SignSet) "least" = some (some (.ref p13))) (pg13 : PySem.W.specialIn K (.ref p13) "__get__" = some (some (.builtin "property.__get__"))) (pt13 : PySem.W.takesIn K (.ref p13) = some true) (pc13 : ∃ rest, PySem.W.recIn K p13 "property" = some (.ref f13 :: rest)) (l13 : K.lookup f13 = some ⟨oc13, od13, .func (PySem.W.fnOf "least" "SignSet.least" (defArgs st_SignSet_least) (defBody st_SignSet_least) (defScope st_SignSet_least) .none kV13 dc13 pm13 an13 cd13 ct13), sl13⟩) (c13 : PySem.W.codeIn K cd13 "SignSet.least" = true) (k13 : PySem.W.keepIn K (.ref f13) = true)
    {f14 : Addr} {od14 an14 : Option Addr} {sl14 : Array (Option Value)} {oc14 kV14 dc14 pm14 cd14 ct14 : Value}
    {p14 : Addr} (pa14 : PySem.W.findIn K (.ref C_SignSet) "members" = some (some (.ref p14))) (pg14 : PySem.W.specialIn K (.ref p14) "__get__" = some (some (.builtin "property.__get__"))) (pt14 : PySem.W.takesIn K (.ref p14) = some true) (pc14 : ∃ rest, PySem.W.recIn K p14 "property" = some (.ref f14 :: rest)) (l14 : K.lookup f14 = some ⟨oc14, od14, .func (PySem.W.fnOf "members" "SignSet.members" (defArgs st_SignSet_members) (defBody st_SignSet_members) (defScope st_SignSet_members) .none kV14 dc14 pm14 an14 cd14 ct14), sl14⟩) (c14 : PySem.W.codeIn K cd14 "SignSet.members" = true) (k14 : PySem.W.keepIn K (.ref f14) = true)
    {f15 : Addr} {od15 an15 : Option Addr} {sl15 : Array (Option Value)} {oc15 kV15 dc15 pm15 cd15 ct15 : Value}
    {p15 : Addr} (pa15 : PySem.W.findIn K (.ref C_SignSet) "ranges" = some (some (.ref p15))) (pg15 : PySem.W.specialIn K (.ref p15) "__get__" = some (some (.builtin "property.__get__"))) (pt15 : PySem.W.takesIn K (.ref p15) = some true) (pc15 : ∃ rest, PySem.W.recIn K p15 "property" = some (.ref f15 :: rest)) (l15 : K.lookup f15 = some ⟨oc15, od15, .func (PySem.W.fnOf "ranges" "SignSet.ranges" (defArgs st_SignSet_ranges) (defBody st_SignSet_ranges) (defScope st_SignSet_ranges) .none kV15 dc15 pm15 an15 cd15 ct15), sl15⟩) (c15 : PySem.W.codeIn K cd15 "SignSet.ranges" = true) (k15 : PySem.W.keepIn K (.ref f15) = true)
    {f16 : Addr} {od16 an16 : Option Addr} {sl16 : Array (Option Value)} {oc16 kV16 dc16 pm16 cd16 ct16 : Value}
    (a16 : PySem.W.nsIn K mainGlobals "_law_runs" = some (some (.ref f16))) (l16 : K.lookup f16 = some ⟨oc16, od16, .func (PySem.W.fnOf "_law_runs" "_law_runs" (defArgs st_law_runs) (defBody st_law_runs) (defScope st_law_runs) .none kV16 dc16 pm16 an16 cd16 ct16), sl16⟩) (c16 : PySem.W.codeIn K cd16 "_law_runs" = true) (k16 : PySem.W.keepIn K (.ref f16) = true)
    {f17 : Addr} {od17 an17 : Option Addr} {sl17 : Array (Option Value)} {oc17 kV17 dc17 pm17 cd17 ct17 : Value}
    (a17 : PySem.W.nsIn K mainGlobals "_law_same_runs" = some (some (.ref f17))) (l17 : K.lookup f17 = some ⟨oc17, od17, .func (PySem.W.fnOf "_law_same_runs" "_law_same_runs" (defArgs st_law_same_runs) (defBody st_law_same_runs) (defScope st_law_same_runs) .none kV17 dc17 pm17 an17 cd17 ct17), sl17⟩) (c17 : PySem.W.codeIn K cd17 "_law_same_runs" = true) (k17 : PySem.W.keepIn K (.ref f17) = true)
    {f18 : Addr} {od18 an18 : Option Addr} {sl18 : Array (Option Value)} {oc18 kV18 dc18 pm18 cd18 ct18 : Value}
    (a18 : PySem.W.findIn K (.ref C_SignSet) "__iter__" = some (some (.ref f18))) (i18 : PySem.W.isFn K (.ref f18) = true) (l18 : K.lookup f18 = some ⟨oc18, od18, .func (PySem.W.fnOf "__iter__" "SignSet.__iter__" (defArgs st_SignSet_iter) (defBody st_SignSet_iter) (defScope st_SignSet_iter) .none kV18 dc18 pm18 an18 cd18 ct18), sl18⟩) (c18 : PySem.W.codeIn K cd18 "SignSet.__iter__" = true) (k18 : PySem.W.keepIn K (.ref f18) = true)
    {f19 : Addr} {od19 an19 : Option Addr} {sl19 : Array (Option Value)} {oc19 kV19 dc19 pm19 cd19 ct19 : Value}
    (a19 : PySem.W.findIn K (.ref C_SignSet) "__len__" = some (some (.ref f19))) (i19 : PySem.W.isFn K (.ref f19) = true) (l19 : K.lookup f19 = some ⟨oc19, od19, .func (PySem.W.fnOf "__len__" "SignSet.__len__" (defArgs st_SignSet_len) (defBody st_SignSet_len) (defScope st_SignSet_len) .none kV19 dc19 pm19 an19 cd19 ct19), sl19⟩) (c19 : PySem.W.codeIn K cd19 "SignSet.__len__" = true) (k19 : PySem.W.keepIn K (.ref f19) = true)
    {f20 : Addr} {od20 an20 : Option Addr} {sl20 : Array (Option Value)} {oc20 kV20 dc20 pm20 cd20 ct20 : Value}
    (a20 : PySem.W.nsIn K mainGlobals "_law_walked" = some (some (.ref f20))) (l20 : K.lookup f20 = some ⟨oc20, od20, .func (PySem.W.fnOf "_law_walked" "_law_walked" (defArgs st_law_walked) (defBody st_law_walked) (defScope st_law_walked) .none kV20 dc20 pm20 an20 cd20 ct20), sl20⟩) (c20 : PySem.W.codeIn K cd20 "_law_walked" = true) (k20 : PySem.W.keepIn K (.ref f20) = true)
    {f21 : Addr} {od21 an21 : Option Addr} {sl21 : Array (Option Value)} {oc21 kV21 dc21 pm21 cd21 ct21 : Value}
    (a21 : PySem.W.nsIn K mainGlobals "_law_views" = some (some (.ref f21))) (l21 : K.lookup f21 = some ⟨oc21, od21, .func (PySem.W.fnOf "_law_views" "_law_views" (defArgs st_law_views) (defBody st_law_views) (defScope st_law_views) .none kV21 dc21 pm21 an21 cd21 ct21), sl21⟩) (c21 : PySem.W.codeIn K cd21 "_law_views" = true) (k21 : PySem.W.keepIn K (.ref f21) = true)
    {f22 : Addr} {od22 an22 : Option Addr} {sl22 : Array (Option Value)} {oc22 kV22 dc22 pm22 cd22 ct22 : Value}
    (a22 : PySem.W.nsIn K mainGlobals "law" = some (some (.ref f22))) (l22 : K.lookup f22 = some ⟨oc22, od22, .func (PySem.W.fnOf "law" "law" (defArgs st_law) (defBody st_law) (defScope st_law) .none kV22 dc22 pm22 an22 cd22 ct22), sl22⟩) (c22 : PySem.W.codeIn K cd22 "law" = true) (k22 : PySem.W.keepIn K (.ref f22) = true)
    (z_all : PySem.W.nsIn K mainGlobals "all" = some none)
    (z_bool : PySem.W.nsIn K mainGlobals "bool" = some none)
    (z_int : PySem.W.nsIn K mainGlobals "int" = some none)
    (z_isinstance : PySem.W.nsIn K mainGlobals "isinstance" = some none)
    (z_iter : PySem.W.nsIn K mainGlobals "iter" = some none)
    (z_len : PySem.W.nsIn K mainGlobals "len" = some none)
    (z_list : PySem.W.nsIn K mainGlobals "list" = some none)
    (z_range : PySem.W.nsIn K mainGlobals "range" = some none)
    (z_str : PySem.W.nsIn K mainGlobals "str" = some none)
    (z_tuple : PySem.W.nsIn K mainGlobals "tuple" = some none)
    (z_zip : PySem.W.nsIn K mainGlobals "zip" = some none)
    {u_SIGNS : Value} (y_SIGNS : PySem.W.nsIn K mainGlobals "SIGNS" = some (some u_SIGNS)) (hu_SIGNS : ∃ (x : Str) (t : Tok), u_SIGNS = .str x t ∧ x.cps.toList = c_SIGNS)
    : ∃ fd : FuncData, (∀ (s : Shared) (v : Value), BindsTo s fd ⟨[v], []⟩ [("_law_script", v)]) ∧ ∀ base : Heap, K.In base → base.Ns mainGlobals mg → FnOk l.prog w K mg base CX0 7 fa fd ["_law_script"] (spF K 1 f_law) := by
  have e := hfa.symm.trans (PySem.W.mg_of X G a22)
  cases e
  have E0 := fund_mk (st := st_init_SignSet) l0 c0 k0 tl0 td0 (by decide) tv0
  have F0 := fund_g E0
  have b0 := binds_all (E0.binds1 (ps := P_init_SignSet) 2 1 (by decide) rfl fun T _ _ _ _ _ _ us its hl hi => ⟨_, rfl, match us, its, hl, hi with | [_, _], [_], _, _ => rfl⟩)
  have bD0 := E0.binds1 (ps := P_init_SignSet) 1 0 (by decide) rfl fun T _ _ _ _ _ _ us its hl hi => ⟨_, rfl, match us, its, hl, hi with | [_], [_], _, _ => rfl⟩
  have E1 := fun_mk (st := st_rank) l1 c1 k1
  have F1 := fun_g E1
  have b1 := E1.binds (ps := P_rank) fun _ _ _ _ _ _ us hl => match us, hl with | [_], _ => rfl
  have E2 := fun_mk (st := st_SignSet_between) l2 c2 k2
  have F2 := fun_g E2
  have b2 := E2.binds (ps := P_SignSet_between) fun _ _ _ _ _ _ us hl => match us, hl with | [_, _], _ => rfl
  have E3 := fun_mk (st := st_SignSet_eq) l3 c3 k3
  have F3 := fun_g E3
  have b3 := E3.binds (ps := P_SignSet_eq) fun _ _ _ _ _ _ us hl => match us, hl with | [_, _], _ => rfl
  have E4 := fun_mk (st := st_SignSet_within) l4 c4 k4
  have F4 := fun_g E4
  have b4 := E4.binds (ps := P_SignSet_within) fun _ _ _ _ _ _ us hl => match us, hl with | [_, _], _ => rfl
  have E5 := fun_mk (st := st_law_draw) l5 c5 k5
  have F5 := fun_g E5
  have b5 := E5.binds (ps := P_law_draw) fun _ _ _ _ _ _ us hl => match us, hl with | [_], _ => rfl
  have E6 := fun_mk (st := st_law_inside) l6 c6 k6
  have F6 := fun_g E6
  have b6 := E6.binds (ps := P_law_inside) fun _ _ _ _ _ _ us hl => match us, hl with | [_, _], _ => rfl
  have E7 := fun_mk (st := st_law_next) l7 c7 k7
  have F7 := fun_g E7
  have b7 := E7.binds (ps := P_law_next) fun _ _ _ _ _ _ us hl => match us, hl with | [_, _], _ => rfl
  have E8 := fun_mk (st := st_law_mixed) l8 c8 k8
  have F8 := fun_g E8
  have b8 := E8.binds (ps := P_law_mixed) fun _ _ _ _ _ _ us hl => match us, hl with | [_, _], _ => rfl
  have E9 := fun_mk (st := st_law_signs) l9 c9 k9
  have F9 := fun_g E9
  have b9 := E9.binds (ps := P_law_signs) fun _ _ _ _ _ _ us hl => match us, hl with | [], _ => rfl
  have E10 := fun_mk (st := st_law_subset) l10 c10 k10
  have F10 := fun_g E10
  have b10 := E10.binds (ps := P_law_subset) fun _ _ _ _ _ _ us hl => match us, hl with | [_], _ => rfl
  have E11 := fun_mk (st := st_law_near) l11 c11 k11
  have F11 := fun_g E11
  have b11 := E11.binds (ps := P_law_near) fun _ _ _ _ _ _ us hl => match us, hl with | [_, _], _ => rfl
  have E12 := fun_mk (st := st_law_told) l12 c12 k12
  have F12 := fun_g E12
  have b12 := E12.binds (ps := P_law_told) fun _ _ _ _ _ _ us hl => match us, hl with | [_, _], _ => rfl
  have E13 := fun_mk (st := st_SignSet_least) l13 c13 k13
  have F13 := fun_g E13
  have b13 := E13.binds (ps := P_SignSet_least) fun _ _ _ _ _ _ us hl => match us, hl with | [_], _ => rfl
  have E14 := fun_mk (st := st_SignSet_members) l14 c14 k14
  have F14 := fun_g E14
  have b14 := E14.binds (ps := P_SignSet_members) fun _ _ _ _ _ _ us hl => match us, hl with | [_], _ => rfl
  have E15 := fun_mk (st := st_SignSet_ranges) l15 c15 k15
  have F15 := fun_g E15
  have b15 := E15.binds (ps := P_SignSet_ranges) fun _ _ _ _ _ _ us hl => match us, hl with | [_], _ => rfl
  have E16 := fun_mk (st := st_law_runs) l16 c16 k16
  have F16 := fun_g E16
  have b16 := E16.binds (ps := P_law_runs) fun _ _ _ _ _ _ us hl => match us, hl with | [_], _ => rfl
  have E17 := fun_mk (st := st_law_same_runs) l17 c17 k17
  have F17 := fun_g E17
  have b17 := E17.binds (ps := P_law_same_runs) fun _ _ _ _ _ _ us hl => match us, hl with | [_, _], _ => rfl
  have E18 := fun_mk (st := st_SignSet_iter) l18 c18 k18
  have F18 := fun_g E18
  have b18 := E18.binds (ps := P_SignSet_iter) fun _ _ _ _ _ _ us hl => match us, hl with | [_], _ => rfl
  have E19 := fun_mk (st := st_SignSet_len) l19 c19 k19
  have F19 := fun_g E19
  have b19 := E19.binds (ps := P_SignSet_len) fun _ _ _ _ _ _ us hl => match us, hl with | [_], _ => rfl
  have E20 := fun_mk (st := st_law_walked) l20 c20 k20
  have F20 := fun_g E20
  have b20 := E20.binds (ps := P_law_walked) fun _ _ _ _ _ _ us hl => match us, hl with | [_, _], _ => rfl
  have E21 := fun_mk (st := st_law_views) l21 c21 k21
  have F21 := fun_g E21
  have b21 := E21.binds (ps := P_law_views) fun _ _ _ _ _ _ us hl => match us, hl with | [_, _], _ => rfl
  have E22 := fun_mk (st := st_law) l22 c22 k22
  have F22 := fun_g E22
  have b22 := E22.binds (ps := P_law) fun _ _ _ _ _ _ us hl => match us, hl with | [_], _ => rfl
  refine ⟨PySem.W.fnOf "law" "law" (defArgs st_law) (defBody st_law) (defScope st_law) .none kV22 dc22 pm22 an22 cd22 ct22, fun s v => .of_eq rfl, fun base _ _ => ?_⟩
  have G0 := ok_init_SignSet (P := l.prog) (w := w) (mg := mg) (base := base) F0 hu_SIGNS (PySem.W.mg_of X G y_SIGNS) ⟨pg_SignSet, hd_SignSet, po_SignSet, sa_SignSet⟩ na_SignSet__signs
  have G1 := ok_rank (P := l.prog) (w := w) (mg := mg) (base := base) F1 hu_SIGNS (PySem.W.mg_of X G y_SIGNS)
  have G2 := ok_SignSet_between (P := l.prog) (w := w) (mg := mg) (base := base) F2 hu_SIGNS (PySem.W.mg_of X G y_SIGNS) aC_SignSet ⟨mk_SignSet, a0, i0, kc_SignSet⟩ G0 (PySem.W.mg_of X G aC_SignSet) b0 G1 (PySem.W.mg_of X G a1) k1 b1
  have G3 := ok_SignSet_eq (P := l.prog) (w := w) (mg := mg) (base := base) F3 (PySem.W.mg_none_of X G z_isinstance) aC_SignSet ⟨pg_SignSet, hd_SignSet, po_SignSet, sa_SignSet⟩ na_SignSet__signs ⟨ic0_SignSet, ic1_SignSet, ic2_SignSet, ic3_SignSet, ic4_SignSet, ic5_SignSet, ic6_SignSet, ic7_SignSet, ic8_SignSet, ic9_SignSet⟩ (PySem.W.mg_of X G aC_SignSet)
  have G4 := ok_SignSet_within (P := l.prog) (w := w) (mg := mg) (base := base) F4 (PySem.W.mg_none_of X G z_all) aC_SignSet ⟨pg_SignSet, hd_SignSet, po_SignSet, sa_SignSet⟩ na_SignSet__signs
  have G5 := ok_law_draw (P := l.prog) (w := w) (mg := mg) (base := base) F5 (PySem.W.mg_none_of X G z_int) (PySem.W.mg_none_of X G z_range)
  have G6 := ok_law_inside (P := l.prog) (w := w) (mg := mg) (base := base) F6 (PySem.W.mg_none_of X G z_len)
  have G7 := ok_law_next (P := l.prog) (w := w) (mg := mg) (base := base) F7 (PySem.W.mg_none_of X G z_int) (PySem.W.mg_none_of X G z_len)
  have G8 := ok_law_mixed (P := l.prog) (w := w) (mg := mg) (base := base) F8 (PySem.W.mg_none_of X G z_len) (PySem.W.mg_none_of X G z_range) G7 (PySem.W.mg_of X G a7) k7 b7
  have G9 := ok_law_signs (P := l.prog) (w := w) (mg := mg) (base := base) F9 
  have G10 := ok_law_subset (P := l.prog) (w := w) (mg := mg) (base := base) F10 (PySem.W.mg_none_of X G z_range) G7 (PySem.W.mg_of X G a7) k7 b7 G9 (PySem.W.mg_of X G a9) k9 b9
  have G11 := ok_law_near (P := l.prog) (w := w) (mg := mg) (base := base) F11 (PySem.W.mg_none_of X G z_len) G7 (PySem.W.mg_of X G a7) k7 b7 G9 (PySem.W.mg_of X G a9) k9 b9 G10 (PySem.W.mg_of X G a10) k10 b10
  have G12 := ok_law_told (P := l.prog) (w := w) (mg := mg) (base := base) F12 (PySem.W.mg_none_of X G z_bool) (PySem.W.mg_none_of X G z_isinstance)
  have G13 := ok_SignSet_least (P := l.prog) (w := w) (mg := mg) (base := base) F13 aC_SignSet ⟨pg_SignSet, hd_SignSet, po_SignSet, sa_SignSet⟩ na_SignSet__signs
  have G14 := ok_SignSet_members (P := l.prog) (w := w) (mg := mg) (base := base) F14 aC_SignSet ⟨pg_SignSet, hd_SignSet, po_SignSet, sa_SignSet⟩ na_SignSet__signs
  have G15 := ok_SignSet_ranges (P := l.prog) (w := w) (mg := mg) (base := base) F15 (PySem.W.mg_none_of X G z_len) (PySem.W.mg_none_of X G z_list) (PySem.W.mg_none_of X G z_zip) hu_SIGNS (PySem.W.mg_of X G y_SIGNS) aC_SignSet ⟨pg_SignSet, hd_SignSet, po_SignSet, sa_SignSet⟩ na_SignSet__signs G1 (PySem.W.mg_of X G a1) k1 b1
  have G16 := ok_law_runs (P := l.prog) (w := w) (mg := mg) (base := base) F16 (PySem.W.mg_none_of X G z_len) G9 (PySem.W.mg_of X G a9) k9 b9
  have G17 := ok_law_same_runs (P := l.prog) (w := w) (mg := mg) (base := base) F17 (PySem.W.mg_none_of X G z_isinstance) (PySem.W.mg_none_of X G z_len) (PySem.W.mg_none_of X G z_list) (PySem.W.mg_none_of X G z_range) (PySem.W.mg_none_of X G z_str) (PySem.W.mg_none_of X G z_tuple)
  have G18 := ok_SignSet_iter (P := l.prog) (w := w) (mg := mg) (base := base) F18 (PySem.W.mg_none_of X G z_iter) aC_SignSet ⟨pg_SignSet, hd_SignSet, po_SignSet, sa_SignSet⟩ na_SignSet__signs
  have G19 := ok_SignSet_len (P := l.prog) (w := w) (mg := mg) (base := base) F19 (PySem.W.mg_none_of X G z_len) aC_SignSet ⟨pg_SignSet, hd_SignSet, po_SignSet, sa_SignSet⟩ na_SignSet__signs
  have G20 := ok_law_walked (P := l.prog) (w := w) (mg := mg) (base := base) F20 (PySem.W.mg_none_of X G z_isinstance) (PySem.W.mg_none_of X G z_len) (PySem.W.mg_none_of X G z_list) (PySem.W.mg_none_of X G z_str) aC_SignSet G18 a18 i18 k18 b18 G19 a19 i19 k19 b19
  have G21 := ok_law_views (P := l.prog) (w := w) (mg := mg) (base := base) F21 (PySem.W.mg_none_of X G z_isinstance) (PySem.W.mg_none_of X G z_str) aC_SignSet ⟨pg_SignSet, hd_SignSet, po_SignSet, sa_SignSet⟩ ⟨ic0_SignSet, ic1_SignSet, ic2_SignSet, ic3_SignSet, ic4_SignSet, ic5_SignSet, ic6_SignSet, ic7_SignSet, ic8_SignSet, ic9_SignSet⟩ (PySem.W.mg_of X G aC_SignSet) G13 ⟨pa13, pg13, pt13, pc13⟩ b13 G14 ⟨pa14, pg14, pt14, pc14⟩ b14 G15 ⟨pa15, pg15, pt15, pc15⟩ b15 G16 (PySem.W.mg_of X G a16) k16 b16 G17 (PySem.W.mg_of X G a17) k17 b17 G20 (PySem.W.mg_of X G a20) k20 b20
  have G22 := ok_law (P := l.prog) (w := w) (mg := mg) (base := base) F22 (PySem.W.mg_none_of X G z_int) (PySem.W.mg_none_of X G z_range) aC_SignSet ⟨pg_SignSet, hd_SignSet, po_SignSet, sa_SignSet⟩ ⟨ic0_SignSet, ic1_SignSet, ic2_SignSet, ic3_SignSet, ic4_SignSet, ic5_SignSet, ic6_SignSet, ic7_SignSet, ic8_SignSet, ic9_SignSet⟩ ⟨qc0_SignSet, qc1_SignSet, qc2_SignSet, qc3_SignSet, qc4_SignSet⟩ ⟨ql_SignSet⟩ ⟨mk_SignSet, a0, i0, kc_SignSet⟩ G0 (PySem.W.mg_of X G aC_SignSet) b0 bD0 G2 ⟨ga2, mc2, p2, pc2.choose, rd2, fc2, pc2.choose_spec⟩ k2 b2 G3 a3 i3 k3 b3 G4 a4 i4 k4 b4 G5 (PySem.W.mg_of X G a5) k5 b5 G6 (PySem.W.mg_of X G a6) k6 b6 G8 (PySem.W.mg_of X G a8) k8 b8 G11 (PySem.W.mg_of X G a11) k11 b11 G7 (PySem.W.mg_of X G a7) k7 b7 G9 (PySem.W.mg_of X G a9) k9 b9 G10 (PySem.W.mg_of X G a10) k10 b10 G12 (PySem.W.mg_of X G a12) k12 b12 G21 (PySem.W.mg_of X G a21) k21 b21
  exact G22
end K01
open PySem PySem.W PyProof.Rows
set_option maxHeartbeats 0 in
theorem PySem.Challenge.cw_surespan_k01_set_views_holds : PySem.Challenge.rw_surespan_k01_set_views.Holds := by
  w_on; o_law; k_head; (case hw => w_witness2)
  k_fill
  refine L2.walk_ofK (l := PySem.Challenge.rw_surespan_k01_set_views) (n := 63) (k := 7) (x := "_law_script") (CX := L2.CX0) (sp := fun K => Sw.spF K 1 K01.f_law) rfl (by decide) rfl ⟨rfl, by decide, by decide⟩ (fun w h Y => PySem.W.kIn_of Y) ?F (fun K H a ns hl _ hS => Sw.law_sp hS (K01.law_true ns hl)) (fun _ _ _ _ h => h)
  case F =>
    intro w mg fa h KX G hmg
    refine' K01.all_mk KX G hmg ?aC_SignSet ?pg_SignSet ?hd_SignSet ?po_SignSet ?sa_SignSet ?mk_SignSet ?kc_SignSet ?na_SignSet__signs ?ic0_SignSet ?ic1_SignSet ?ic2_SignSet ?ic3_SignSet ?ic4_SignSet ?ic5_SignSet ?ic6_SignSet ?ic7_SignSet ?ic8_SignSet ?ic9_SignSet ?qc0_SignSet ?qc1_SignSet ?qc2_SignSet ?qc3_SignSet ?qc4_SignSet ?ql_SignSet ?a0 ?i0 ?l0 ?c0 ?k0 ?tl0 ?td0 ?tv0 ?a1 ?l1 ?c1 ?k1 ?ga2 ?ty2 ?rd2 ?fc2 ?pc2 ?l2 ?c2 ?k2 ?a3 ?i3 ?l3 ?c3 ?k3 ?a4 ?i4 ?l4 ?c4 ?k4 ?a5 ?l5 ?c5 ?k5 ?a6 ?l6 ?c6 ?k6 ?a7 ?l7 ?c7 ?k7 ?a8 ?l8 ?c8 ?k8 ?a9 ?l9 ?c9 ?k9 ?a10 ?l10 ?c10 ?k10 ?a11 ?l11 ?c11 ?k11 ?a12 ?l12 ?c12 ?k12 ?pa13 ?pg13 ?pt13 ?pc13 ?l13 ?c13 ?k13 ?pa14 ?pg14 ?pt14 ?pc14 ?l14 ?c14 ?k14 ?pa15 ?pg15 ?pt15 ?pc15 ?l15 ?c15 ?k15 ?a16 ?l16 ?c16 ?k16 ?a17 ?l17 ?c17 ?k17 ?a18 ?i18 ?l18 ?c18 ?k18 ?a19 ?i19 ?l19 ?c19 ?k19 ?a20 ?l20 ?c20 ?k20 ?a21 ?l21 ?c21 ?k21 ?a22 ?l22 ?c22 ?k22 ?z_all ?z_bool ?z_int ?z_isinstance ?z_iter ?z_len ?z_list ?z_range ?z_str ?z_tuple ?z_zip ?y_SIGNS ?hu_SIGNS
    (case aC_SignSet => k_is)
    (case pg_SignSet => k_is)
    (case hd_SignSet => k_is)
    (case po_SignSet => k_is)
    (case sa_SignSet => k_is)
    (case mk_SignSet => k_is)
    (case kc_SignSet => k_is)
    (case na_SignSet__signs => k_is)
    (case ic0_SignSet => k_is)
    (case ic1_SignSet => k_is)
    (case ic2_SignSet => k_is)
    (case ic3_SignSet => k_is)
    (case ic4_SignSet => first | k_is | kit_is | decide +kernel)
    (case ic5_SignSet => first | k_is | kit_is | decide +kernel)
    (case ic6_SignSet => first | k_is | kit_is | decide +kernel)
    (case ic7_SignSet => first | k_is | kit_is | decide +kernel)
    (case ic8_SignSet => first | k_is | kit_is | decide +kernel)
    (case ic9_SignSet => first | k_is | kit_is | decide +kernel)
    (case qc0_SignSet => first | k_is | kit_is | decide +kernel)
    (case qc1_SignSet => first | k_is | kit_is | decide +kernel)
    (case qc2_SignSet => first | k_is | kit_is | decide +kernel)
    (case qc3_SignSet => first | k_is | kit_is | decide +kernel)
    (case qc4_SignSet => first | k_is | kit_is | decide +kernel)
    (case ql_SignSet => first | k_is | kit_is | decide +kernel)
    (case a0 => k_is)
    (case i0 => k_is)
    (case l0 => k_is)
    (case c0 => k_is)
    (case k0 => k_is)
    (case tl0 => k_is)
    (case td0 => exact rfl)
    (case tv0 => exact (.cons ⟨_, rfl⟩ .nil))
    (case a1 => k_is)
    (case l1 => k_is)
    (case c1 => k_is)
    (case k1 => k_is)
    (case ga2 => k_is)
    (case ty2 => k_is)
    (case rd2 => k_is)
    (case fc2 => k_is)
    (case pc2 => exact ⟨_, by k_is⟩)
    (case l2 => k_is)
    (case c2 => k_is)
    (case k2 => k_is)
    (case a3 => k_is)
    (case i3 => k_is)
    (case l3 => k_is)
    (case c3 => k_is)
    (case k3 => k_is)
    (case a4 => k_is)
    (case i4 => k_is)
    (case l4 => k_is)
    (case c4 => k_is)
    (case k4 => k_is)
    (case a5 => k_is)
    (case l5 => k_is)
    (case c5 => k_is)
    (case k5 => k_is)
    (case a6 => k_is)
    (case l6 => k_is)
    (case c6 => k_is)
    (case k6 => k_is)
    (case a7 => k_is)
    (case l7 => k_is)
    (case c7 => k_is)
    (case k7 => k_is)
    (case a8 => k_is)
    (case l8 => k_is)
    (case c8 => k_is)
    (case k8 => k_is)
    (case a9 => k_is)
    (case l9 => k_is)
    (case c9 => k_is)
    (case k9 => k_is)
    (case a10 => k_is)
    (case l10 => k_is)
    (case c10 => k_is)
    (case k10 => k_is)
    (case a11 => k_is)
    (case l11 => k_is)
    (case c11 => k_is)
    (case k11 => k_is)
    (case a12 => k_is)
    (case l12 => k_is)
    (case c12 => k_is)
    (case k12 => k_is)
    (case pa13 => k_is)
    (case pg13 => k_is)
    (case pt13 => k_is)
    (case pc13 => exact ⟨_, by k_is⟩)
    (case l13 => k_is)
    (case c13 => k_is)
    (case k13 => k_is)
    (case pa14 => k_is)
    (case pg14 => k_is)
    (case pt14 => k_is)
    (case pc14 => exact ⟨_, by k_is⟩)
    (case l14 => k_is)
    (case c14 => k_is)
    (case k14 => k_is)
    (case pa15 => k_is)
    (case pg15 => k_is)
    (case pt15 => k_is)
    (case pc15 => exact ⟨_, by k_is⟩)
    (case l15 => k_is)
    (case c15 => k_is)
    (case k15 => k_is)
    (case a16 => k_is)
    (case l16 => k_is)
    (case c16 => k_is)
    (case k16 => k_is)
    (case a17 => k_is)
    (case l17 => k_is)
    (case c17 => k_is)
    (case k17 => k_is)
    (case a18 => k_is)
    (case i18 => k_is)
    (case l18 => k_is)
    (case c18 => k_is)
    (case k18 => k_is)
    (case a19 => k_is)
    (case i19 => k_is)
    (case l19 => k_is)
    (case c19 => k_is)
    (case k19 => k_is)
    (case a20 => k_is)
    (case l20 => k_is)
    (case c20 => k_is)
    (case k20 => k_is)
    (case a21 => k_is)
    (case l21 => k_is)
    (case c21 => k_is)
    (case k21 => k_is)
    (case a22 => k_is)
    (case l22 => k_is)
    (case c22 => k_is)
    (case k22 => k_is)
    (case z_all => k_is)
    (case z_bool => k_is)
    (case z_int => k_is)
    (case z_isinstance => k_is)
    (case z_iter => k_is)
    (case z_len => k_is)
    (case z_list => k_is)
    (case z_range => k_is)
    (case z_str => k_is)
    (case z_tuple => k_is)
    (case z_zip => k_is)
    (case y_SIGNS => k_is)
    (case hu_SIGNS => exact ⟨_, _, rfl, by decide +kernel⟩)
