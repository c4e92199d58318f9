import PyProof.Rows.All
import Wide.All
import OpenK.AllK
import Wide.FinOn
import HandS.ForMost
import HandS.Flow
import HandS.Style
import HandS.StrMore
import HandS.TupAny
import HandS.TupLe
import HandS.IsInst
import HandS.Flt
import HandS.RaiseMore
import HandS.SortInts
import HandS.More
import KE.GoesMore
import PyProof.Draws
import PyProof.EnumMake
import HandS.Zip
import HandS.ExcIs
import HandS.ExcInit
import HandS.ExcField
import HandS.WordsExc
import HandS.HotCalls
import HandS.ExcInitHot
import KE.KExcIs
import PyProof.StrLawsFrom
import KE.SortData
import OpenK.KMeth
import KE.KOpsOwn
import HandS.Property
import HandS.OwnEq
import HandS.Defaults
import PyProof.Rows.StrCountLaw
import PyProof.Rows.StrFoldSign
import KE.KOwnIter
import HandS.IterVal
import HandS.Lambda
import HandS.OwnIter
import HandS.ClsMeth
import PySem.Challenge.RW_surespan_k84_answer_object
set_option Elab.async false
set_option linter.all false
set_option maxRecDepth 100000
set_option maxHeartbeats 4000000
/-! Sw1: a pure semantics of values for a part of Python (data D, slots Rho), and its tie to the readings of HandS. -/
namespace Sw
open PySem PySem.Spec PyProof.Rows L2

/-- a def as it stands behind the top, whatever its defaults are -/
structure FunG (K : PySem.W.Frag) (x qual : PySem.Str) (st : Stmt) (f : Addr) (fd : FuncData) : Prop where
  ex : ∃ (oc : Value) (od : Option Addr) (dV kV doc pm : Value) (an : Option Addr) (cdv ct : Value) (osl : Array (Option Value)),
    fd = PySem.W.fnOf x qual (defArgs st) (defBody st) (defScope st) dV kV doc pm an cdv ct ∧ K.lookup f = some ⟨oc, od, .func fd, osl⟩ ∧ PySem.W.codeIn K cdv qual = true
theorem fun_g {K : PySem.W.Frag} {x qual : PySem.Str} {st : Stmt} {f : Addr} {fd : FuncData} (F : Fun K x qual st f fd) : FunG K x qual st f fd := by
  obtain ⟨oc, od, kV, doc, pm, an, cdv, ct, osl, e, lk, hcd⟩ := F.ex
  exact ⟨oc, od, .none, kV, doc, pm, an, cdv, ct, osl, e, lk, hcd⟩
theorem FunG.ok {P : Program} {w : World} {K : PySem.W.Frag} {mg : Str → Option Value} {base : Heap} {x qual : Str} {st : Stmt} {f : Addr} {fd : FuncData} {N ps : List Str} {k : Nat} {sp : Sp} (F : FunG K x qual st f fd) (S : FnScope N ps (defScope st)) (len : ∀ vs H Q E, sp vs H Q E → vs.length = ps.length)
    (hbody : ∀ (cdv : Value) (A : Around) (outer : List Env) (s : Shared) (H : Hp) (vs : List V) (Q : VK) (E : XK), Room k (A.deeper (envOfC qual (defScope st) s.heap.objs.size f cdv)) → sp vs H Q E →
      ∃ t, PSs (cxOf CX0 P w K mg base N qual (defScope st) f cdv A outer s H E).nox (defBody st) t ∧ t { nx := fun _ H' => Q .non H', rt := Q } (start N vs) H) : FnOk P w K mg base CX0 (k + 1) f fd ps sp := by
  obtain ⟨oc, od, dV, kV, doc, pm, an, cdv, ct, osl, rfl, lk, hcd⟩ := F.ex
  refine fn_of lk hcd S len fun A outer s H vs Q E hr hsp => ?_
  obtain ⟨t, h, q⟩ := hbody cdv A outer s H vs Q E hr hsp
  exact ⟨t, h.nox, q⟩

inductive D where
  | non | bl (b : Bool) | int (i : Int) | str (s : List Nat) | lst (xs : List D) | tup (xs : List D) | scr (xs : List Int)
  /-- an instance that is not changed any more: its class, its attributes by name -/
  | obj (c : PySem.Str) (ks : List PySem.Str) (xs : List D)
/-- the class of that name stands at C -/
def ClsN (K : PySem.W.Frag) (c : PySem.Str) (C : Addr) : Prop := PySem.W.nsIn K mainGlobals c = some (some (.ref C))
theorem ClsN.uniq {K : PySem.W.Frag} {c : PySem.Str} {C C' : Addr} (h : ClsN K c C) (h' : ClsN K c C') : C = C' := by
  unfold ClsN at h h'
  rw [h] at h'
  cases h'
  rfl

mutual
inductive Rep (K : PySem.W.Frag) (F : Hp) : V → D → Prop where
  | non : Rep K F .non .non
  | bl (b : Bool) : Rep K F (.bl b) (.bl b)
  | int (i : Int) : Rep K F (.int i) (.int i)
  | str (s : List Nat) : Rep K F (.str ⟨s.toArray⟩) (.str s)
  | lst {a : Addr} {vs : List V} {ds : List D} : F a = some (.lst vs) → Reps K F vs ds → Rep K F (.ref a) (.lst ds)
  | scr {a : Addr} {xs : List Int} : SqL K F a (xs.map V.int) → Rep K F (.ref a) (.scr xs)
  | tup {a : Addr} {vs : List V} {ds : List D} : SqT K F a vs → Reps K F vs ds → Rep K F (.ref a) (.tup ds)
  | obj {a C dx : Addr} {c : PySem.Str} {ks : List PySem.Str} {vs : List V} {ds : List D} : ClsN K c C → F a = some (.ins C dx (ks.zip vs)) → vs.length = ks.length → Reps K F vs ds → Rep K F (.ref a) (.obj c ks ds)
inductive Reps (K : PySem.W.Frag) (F : Hp) : List V → List D → Prop where
  | nil : Reps K F [] []
  | cons {v : V} {d : D} {vs : List V} {ds : List D} : Rep K F v d → Reps K F vs ds → Reps K F (v :: vs) (d :: ds)
end

theorem same_t {K : PySem.W.Frag} {H H' : Hp} {a : Addr} {xs : List V} (e : Same H H') (h : SqT K H a xs) : SqT K H' a xs := by
  rcases h with (h | ⟨o, h⟩) | h
  · exact .inl (.inl (e _ _ h))
  · exact .inl (.inr ⟨o, e _ _ h⟩)
  · exact .inr h

mutual
theorem Rep.mono {K : PySem.W.Frag} {F F' : Hp} (e : Same F F') : ∀ {v : V} {d : D}, Rep K F v d → Rep K F' v d
  | _, _, .non => .non
  | _, _, .bl b => .bl b
  | _, _, .int i => .int i
  | _, _, .str s => .str s
  | _, _, .lst h r => .lst (e _ _ h) (Reps.mono e r)
  | _, _, .scr h => .scr (e.seq h)
  | _, _, .tup h r => .tup (same_t e h) (Reps.mono e r)
  | _, _, .obj h1 h2 h3 r => .obj h1 (e _ _ h2) h3 (Reps.mono e r)
theorem Reps.mono {K : PySem.W.Frag} {F F' : Hp} (e : Same F F') : ∀ {vs : List V} {ds : List D}, Reps K F vs ds → Reps K F' vs ds
  | _, _, .nil => .nil
  | _, _, .cons h r => .cons (Rep.mono e h) (Reps.mono e r)
end
theorem Reps.len {K : PySem.W.Frag} {F : Hp} : ∀ {vs : List V} {ds : List D}, Reps K F vs ds → vs.length = ds.length
  | _, _, .nil => rfl
  | _, _, .cons _ r => by rw [List.length_cons, List.length_cons, Reps.len r]
theorem Reps.get {K : PySem.W.Frag} {F : Hp} : ∀ {vs : List V} {ds : List D} {i : Nat} {v : V}, Reps K F vs ds → vs[i]? = some v → ∃ d, ds[i]? = some d ∧ Rep K F v d
  | _, _, _, _, .nil, h => by simp at h
  | _, _, 0, _, .cons r _, h => by simp at h; subst h; exact ⟨_, rfl, r⟩
  | _, _, i + 1, v, .cons _ t, h => by
    obtain ⟨d, h1, h2⟩ := Reps.get (i := i) (v := v) t (by simpa using h)
    exact ⟨d, by simpa using h1, h2⟩
theorem Reps.get' {K : PySem.W.Frag} {F : Hp} : ∀ {vs : List V} {ds : List D} {i : Nat} {d : D}, Reps K F vs ds → ds[i]? = some d → ∃ v, vs[i]? = some v ∧ Rep K F v d
  | _, _, _, _, .nil, h => by simp at h
  | _, _, 0, _, .cons r _, h => by simp at h; subst h; exact ⟨_, rfl, r⟩
  | _, _, i + 1, v, .cons _ t, h => by
    obtain ⟨d, h1, h2⟩ := Reps.get' (i := i) (d := v) t (by simpa using h)
    exact ⟨d, by simpa using h1, h2⟩
theorem Reps.append {K : PySem.W.Frag} {F : Hp} : ∀ {vs us : List V} {ds es : List D}, Reps K F vs ds → Reps K F us es → Reps K F (vs ++ us) (ds ++ es)
  | _, _, _, _, .nil, s => s
  | _, _, _, _, .cons r t, s => .cons r (Reps.append t s)
theorem Reps.take {K : PySem.W.Frag} {F : Hp} : ∀ {vs : List V} {ds : List D} (n : Nat), Reps K F vs ds → Reps K F (vs.take n) (ds.take n)
  | _, _, 0, _ => .nil
  | _, _, _ + 1, .nil => .nil
  | _, _, n + 1, .cons r t => .cons r (Reps.take n t)
theorem Reps.drop {K : PySem.W.Frag} {F : Hp} : ∀ {vs : List V} {ds : List D} (n : Nat), Reps K F vs ds → Reps K F (vs.drop n) (ds.drop n)
  | _, _, 0, r => r
  | _, _, _ + 1, .nil => .nil
  | _, _, n + 1, .cons _ t => Reps.drop n t
theorem Reps.set {K : PySem.W.Frag} {F : Hp} {v : V} {d : D} (r : Rep K F v d) : ∀ {vs : List V} {ds : List D} (i : Nat), Reps K F vs ds → Reps K F (vs.set i v) (ds.set i d)
  | _, _, _, .nil => .nil
  | _, _, 0, .cons _ t => .cons r t
  | _, _, i + 1, .cons q t => .cons q (Reps.set r i t)
theorem Reps.reverse {K : PySem.W.Frag} {F : Hp} : ∀ {vs : List V} {ds : List D}, Reps K F vs ds → Reps K F vs.reverse ds.reverse
  | _, _, .nil => .nil
  | _, _, .cons r t => by
    rw [List.reverse_cons, List.reverse_cons]
    exact (Reps.reverse t).append (.cons r .nil)

/-! ### slots and worlds -/
/-- a slot: unset, a datum, a list of one's own, a list handed in to be changed -/
inductive Sl where
  | no | d (x : D) | ow (xs : List D) | io (xs : List D)
  /-- the exception that the suite holds -/
  | xa (a dx : Addr) (f : Option (PySem.Str × D))
abbrev Rho := List Sl
/-- what an expression gives: a datum, a new list, the list that stands in a slot -/
inductive Vl where
  | fz (x : D) | fr (xs : List D) | bw (i : Nat)
structure Gd where
  H0 : Hp
  F0 : Hp
  ia : List (Nat × Addr)
  nl : Nat

def Ow (ρ : Rho) (σ : L2.St) (i : Nat) (a : Addr) : Prop := (∃ xs, ρ[i]? = some (.ow xs) ∨ ρ[i]? = some (.io xs)) ∧ σ[i]? = some (some (.ref a))

/-- the one field of the exception whose dict stands at dx -/
def XaR (K : PySem.W.Frag) (F : Hp) (dx : Addr) : Option (PySem.Str × D) → Prop
  | none => True
  | some (k, y) => ∃ v, F dx = some (.xd [(k, v)]) ∧ Rep K F v y
theorem XaR.mono {K : PySem.W.Frag} {F F' : Hp} {dx : Addr} {f : Option (PySem.Str × D)} (e : Same F F') (h : XaR K F dx f) : XaR K F' dx f := by
  cases f with
  | none => trivial
  | some p =>
    obtain ⟨k, y⟩ := p
    obtain ⟨v, h1, h2⟩ := h
    exact ⟨v, e _ _ h1, h2.mono e⟩
def SlR (K : PySem.W.Frag) (G : Gd) (σ : L2.St) (H F : Hp) (i : Nat) : Sl → Prop
  | .no => True
  | .d x => ∃ v, σ[i]? = some (some v) ∧ Rep K F v x
  | .ow xs => ∃ a vs, σ[i]? = some (some (.ref a)) ∧ H a = some (.lst vs) ∧ Reps K F vs xs ∧ F a = none ∧ G.H0 a = none
  | .io xs => ∃ a vs, σ[i]? = some (some (.ref a)) ∧ H a = some (.lst vs) ∧ Reps K F vs xs ∧ F a = none ∧ (i, a) ∈ G.ia
  | .xa b dx f => σ[i]? = some (some (.ref b)) ∧ XaR K F dx f

structure Wd (K : PySem.W.Frag) (G : Gd) (ρ : Rho) (σ : L2.St) (H F : Hp) : Prop where
  len : ρ.length = σ.length
  gl : σ.length = G.nl
  sub : Same F H
  f0 : Same G.F0 F
  kp : ∀ b o, G.H0 b = some o → b ∉ G.ia.map (·.2) → H b = some o
  nw : ∀ b, F b ≠ none → G.F0 b ≠ none ∨ G.H0 b = none
  it : ∀ b, b ∈ G.ia.map (·.2) → H b ≠ none
  sl : ∀ i s, ρ[i]? = some s → SlR K G σ H F i s
  ap : ∀ i j a, Ow ρ σ i a → Ow ρ σ j a → i = j
  ai : ∀ i a, (i, a) ∈ G.ia → (∃ xs, ρ[i]? = some (.io xs)) ∧ σ[i]? = some (some (.ref a))

def VlR (K : PySem.W.Frag) (G : Gd) (P : Hp) (ρ : Rho) (σ : L2.St) (H F : Hp) (v : V) : Vl → Prop
  | .fz x => Rep K F v x
  | .fr xs => ∃ a vs, v = .ref a ∧ H a = some (.lst vs) ∧ Reps K F vs xs ∧ F a = none ∧ P a = none ∧ ∀ i, ¬ Ow ρ σ i a
  | .bw i => σ[i]? = some (some v)
/-- settled values: a datum or a slot's list -/
def VlS (K : PySem.W.Frag) (σ : L2.St) (F : Hp) (v : V) : Vl → Prop
  | .fz x => Rep K F v x
  | .fr _ => False
  | .bw i => σ[i]? = some (some v)
def stl : Vl → Vl
  | .fr xs => .fz (.lst xs)
  | r => r

structure Ste (K : PySem.W.Frag) (G : Gd) (ρ : Rho) (σ : L2.St) (H F : Hp) (ρ' : Rho) (H' F' : Hp) : Prop where
  wd : Wd K G ρ' σ H' F'
  ff : Same F F'
  kk : ∀ b o, H b = some o → (∀ i, ¬ Ow ρ σ i b) → H' b = some o
  nf : ∀ b, F' b ≠ none → F b ≠ none ∨ H b = none ∨ ∃ i, Ow ρ σ i b
  oo : ∀ i a, Ow ρ' σ i a → Ow ρ σ i a
  tr : ∀ b, H b ≠ none → H' b ≠ none

section
variable {K : PySem.W.Frag} {G : Gd} {ρ ρ1 ρ2 ρ' : Rho} {σ : L2.St} {H H1 H2 H' F F1 F2 F' : Hp} {v : V} {r : Vl}

theorem Ste.refl (W : Wd K G ρ σ H F) : Ste K G ρ σ H F ρ H F :=
  ⟨W, Same.refl _, fun _ _ h _ => h, fun _ h => .inl h, fun _ _ h => h, fun _ h => h⟩
theorem Ste.trans (a : Ste K G ρ σ H F ρ1 H1 F1) (b : Ste K G ρ1 σ H1 F1 ρ2 H2 F2) : Ste K G ρ σ H F ρ2 H2 F2 := by
  refine ⟨b.wd, a.ff.trans b.ff, fun c o h n => b.kk c o (a.kk c o h n) fun i q => n i (a.oo i c q), fun c h => ?_, fun i c q => a.oo i c (b.oo i c q), fun c h => b.tr c (a.tr c h)⟩
  rcases b.nf c h with h1 | h1 | ⟨i, h1⟩
  · exact a.nf c h1
  · by_cases q : ∃ i, Ow ρ σ i c
    · exact .inr (.inr q)
    · refine .inr (.inl ?_)
      cases e : H c with
      | none => rfl
      | some o =>
        rw [a.kk c o e fun i z => q ⟨i, z⟩] at h1
        cases h1
  · exact .inr (.inr ⟨i, a.oo i c h1⟩)
theorem Wd.ow_there (W : Wd K G ρ σ H F) {i : Nat} {a : Addr} (h : Ow ρ σ i a) : ∃ vs, H a = some (.lst vs) ∧ F a = none := by
  obtain ⟨⟨xs, h1 | h1⟩, h2⟩ := h
  · obtain ⟨b, vs, e, h3, _, h5, _⟩ := W.sl i _ h1
    rw [h2] at e; cases e
    exact ⟨vs, h3, h5⟩
  · obtain ⟨b, vs, e, h3, _, h5, _⟩ := W.sl i _ h1
    rw [h2] at e; cases e
    exact ⟨vs, h3, h5⟩
theorem VlS.ste (h : VlS K σ F1 v r) (s : Ste K G ρ1 σ H1 F1 ρ2 H2 F2) : VlS K σ F2 v r := by
  cases r with
  | fz x => exact Rep.mono s.ff h
  | bw i => exact h
  | fr xs => exact h.elim

/-- what is read of a value now -/
def look (ρ : Rho) : Vl → Option D
  | .fz x => some x
  | .fr xs => some (.lst xs)
  | .bw i => match ρ[i]? with
    | some (.ow xs) => some (.lst xs)
    | some (.io xs) => some (.lst xs)
    | _ => none
def Vw (K : PySem.W.Frag) (H F : Hp) (v : V) : D → Prop
  | .lst xs => ∃ a vs, v = .ref a ∧ H a = some (.lst vs) ∧ Reps K F vs xs
  | x => Rep K F v x
theorem vw_rep {x : D} (s : Same F H) (h : Rep K F v x) : Vw K H F v x := by
  cases h with
  | lst h r => exact ⟨_, _, rfl, s _ _ h, r⟩
  | scr h => exact .scr h
  | non => exact .non
  | bl b => exact .bl b
  | int i => exact .int i
  | str s => exact .str s
  | tup h r => exact .tup h r
  | obj h1 h2 h3 r => exact .obj h1 h2 h3 r
theorem vw_of {x : D} (W : Wd K G ρ σ H F) (h : VlS K σ F v r) (e : look ρ r = some x) : Vw K H F v x := by
  cases r with
  | fz y => cases e; exact vw_rep W.sub h
  | fr xs => exact h.elim
  | bw i =>
    unfold look at e
    have h : σ[i]? = some (some v) := h
    cases q : ρ[i]? with
    | none => simp [q] at e
    | some s =>
      cases s with
      | no => simp [q] at e
      | xa b dx f => simp [q] at e
      | d y => simp [q] at e
      | ow xs =>
        simp [q] at e; subst e
        obtain ⟨a, vs, e, h1, h2, _⟩ := W.sl i _ q
        rw [h] at e; cases e
        exact ⟨a, vs, rfl, h1, h2⟩
      | io xs =>
        simp [q] at e; subst e
        obtain ⟨a, vs, e, h1, h2, _⟩ := W.sl i _ q
        rw [h] at e; cases e
        exact ⟨a, vs, rfl, h1, h2⟩

/-- a value becomes a datum -/
def frz (ρ : Rho) : Vl → Option (D × Rho)
  | .fz x => some (x, ρ)
  | .fr xs => some (.lst xs, ρ)
  | .bw i => match ρ[i]? with
    | some (.ow xs) => some (.lst xs, ρ.set i (.d (.lst xs)))
    | _ => none

theorem Wd.h0 (W : Wd K G ρ σ H F) {b : Addr} (h : H b = none) : G.H0 b = none := by
  cases e : G.H0 b with
  | none => rfl
  | some o =>
    by_cases q : b ∈ G.ia.map (·.2)
    · exact absurd h (W.it b q)
    · rw [W.kp b o e q] at h; cases h

structure Alc (F H F' H' : Hp) : Prop where
  ff : Same F F'
  sub : Same F' H'
  hh : Same H H'
  nf : ∀ b, F' b ≠ none → F b ≠ none ∨ H b = none
theorem Alc.refl (s : Same F H) : Alc F H F H := ⟨Same.refl _, s, Same.refl _, fun _ h => .inl h⟩
theorem Alc.trans {F1 H1 F2 H2 : Hp} (a : Alc F H F1 H1) (b : Alc F1 H1 F2 H2) : Alc F H F2 H2 := by
  refine ⟨a.ff.trans b.ff, b.sub, a.hh.trans b.hh, fun c h => ?_⟩
  rcases b.nf c h with q | q
  · exact a.nf c q
  · exact .inr (a.hh.free q)
theorem same_upd {p : Addr} {o : HO} (h : H p = none) : Same H (upd H p o) := fun b x e => by
  rw [upd_ne (ne_of_none e h)]
  exact e
theorem Alc.new {p : Addr} {o : HO} (s : Same F H) (h : H p = none) : Alc F H (upd F p o) (upd H p o) := by
  refine ⟨same_upd (s.free h), fun b x e => ?_, same_upd h, fun b q => ?_⟩
  · by_cases hb : b = p
    · subst hb; rw [upd_same] at e ⊢; exact e
    · rw [upd_ne hb] at e ⊢; exact s _ _ e
  · by_cases hb : b = p
    · subst hb; exact .inr h
    · rw [upd_ne hb] at q; exact .inl q
theorem SlR.alc {i : Nat} {s : Sl} (A : Alc F H F' H') (h : SlR K G σ H F i s) : SlR K G σ H' F' i s := by
  have fn : ∀ {a : Addr} {vs : List V}, H a = some (.lst vs) → F a = none → F' a = none := fun {a vs} h1 h2 => by
    cases e : F' a with
    | none => rfl
    | some o =>
      rcases A.nf a (by rw [e]; simp) with q | q
      · exact absurd h2 q
      · rw [h1] at q; cases q
  cases s with
  | no => trivial
  | xa b dx f => exact ⟨h.1, h.2.mono A.ff⟩
  | d x => obtain ⟨v, e, r⟩ := h; exact ⟨v, e, r.mono A.ff⟩
  | ow xs => obtain ⟨a, vs, e, h1, h2, h3, h4⟩ := h; exact ⟨a, vs, e, A.hh _ _ h1, h2.mono A.ff, fn h1 h3, h4⟩
  | io xs => obtain ⟨a, vs, e, h1, h2, h3, h4⟩ := h; exact ⟨a, vs, e, A.hh _ _ h1, h2.mono A.ff, fn h1 h3, h4⟩
theorem Wd.alc (W : Wd K G ρ σ H F) (A : Alc F H F' H') : Ste K G ρ σ H F ρ H' F' := by
  refine ⟨⟨W.len, W.gl, A.sub, W.f0.trans A.ff, fun b o h q => A.hh _ _ (W.kp b o h q), fun b h => ?_, fun b h e => W.it b h (A.hh.free e), fun i s h => (W.sl i s h).alc A, W.ap, W.ai⟩, A.ff, fun b o h _ => A.hh _ _ h, fun b h => (A.nf b h).elim .inl fun q => .inr (.inl q), fun _ _ h => h, fun b h e => h (A.hh.free e)⟩
  rcases A.nf b h with q | q
  · exact W.nw b q
  · exact .inr (W.h0 q)

/-- an untracked-by-F list that no slot owns is frozen -/
theorem Wd.freeze_new {a : Addr} {vs : List V} (W : Wd K G ρ σ H F) (h1 : H a = some (.lst vs)) (h2 : F a = none) (h3 : G.H0 a = none) (h4 : ∀ i, ¬ Ow ρ σ i a) : Wd K G ρ σ H (upd F a (.lst vs)) ∧ Same F (upd F a (.lst vs)) := by
  have ss := same_upd (o := HO.lst vs) h2
  refine ⟨⟨W.len, W.gl, fun b x e => ?_, W.f0.trans ss, W.kp, fun b h => ?_, W.it, fun i s h => ?_, W.ap, W.ai⟩, ss⟩
  · by_cases hb : b = a
    · subst hb; rw [upd_same] at e; cases e; exact h1
    · rw [upd_ne hb] at e; exact W.sub _ _ e
  · by_cases hb : b = a
    · subst hb; exact .inr h3
    · rw [upd_ne hb] at h; exact W.nw b h
  · have q := W.sl i s h
    cases s with
    | no => trivial
    | xa b dx f => exact ⟨q.1, q.2.mono ss⟩
    | d x => obtain ⟨v, e, r⟩ := q; exact ⟨v, e, r.mono ss⟩
    | ow xs =>
      obtain ⟨c, us, e, p1, p2, p3, p4⟩ := q
      have nc : c ≠ a := fun z => h4 i ⟨⟨xs, .inl h⟩, by rw [← z]; exact e⟩
      exact ⟨c, us, e, p1, p2.mono ss, by rw [upd_ne nc]; exact p3, p4⟩
    | io xs =>
      obtain ⟨c, us, e, p1, p2, p3, p4⟩ := q
      have nc : c ≠ a := fun z => h4 i ⟨⟨xs, .inr h⟩, by rw [← z]; exact e⟩
      exact ⟨c, us, e, p1, p2.mono ss, by rw [upd_ne nc]; exact p3, p4⟩

/-- a new list is settled -/
theorem settle (W : Wd K G ρ σ H F) (s : Ste K G ρ σ H F ρ1 H1 F1) (h : VlR K G H ρ1 σ H1 F1 v r) : ∃ F2, Ste K G ρ σ H F ρ1 H1 F2 ∧ VlS K σ F2 v (stl r) ∧ Same F1 F2 := by
  cases r with
  | fz y => exact ⟨F1, s, h, Same.refl _⟩
  | bw i => exact ⟨F1, s, h, Same.refl _⟩
  | fr xs =>
    obtain ⟨a, vs, rfl, h1, h2, h3, h4, h5⟩ := h
    have h0 : G.H0 a = none := W.h0 h4
    obtain ⟨W', ss⟩ := s.wd.freeze_new h1 h3 h0 h5
    refine ⟨upd F1 a (.lst vs), ⟨W', s.ff.trans ss, s.kk, fun b q => ?_, s.oo, s.tr⟩, .lst upd_same (h2.mono ss), ss⟩
    by_cases hb : b = a
    · subst hb; exact .inr (.inl h4)
    · rw [upd_ne hb] at q; exact s.nf b q
/-- a settled value becomes a datum -/
theorem frz_ok {x : D} (W : Wd K G ρ σ H F) (h : VlS K σ F v r) (e : frz ρ r = some (x, ρ')) : ∃ F', Ste K G ρ σ H F ρ' H F' ∧ Rep K F' v x := by
  cases r with
  | fz y =>
    cases e
    exact ⟨F, Ste.refl W, h⟩
  | fr xs => exact h.elim
  | bw i =>
    have h : σ[i]? = some (some v) := h
    unfold frz at e
    cases q : ρ[i]? with
    | none => simp [q] at e
    | some s =>
      cases s with
      | no => simp [q] at e
      | xa b dx f => simp [q] at e
      | d y => simp [q] at e
      | io xs => simp [q] at e
      | ow xs =>
        simp [q] at e
        obtain ⟨rfl, rfl⟩ := e
        obtain ⟨a, vs, e, h1, h2, h3, h4⟩ := W.sl i _ q
        rw [h] at e; cases e
        have ss := same_upd (o := HO.lst vs) h3
        have hi : i < ρ.length := (List.getElem?_eq_some_iff.mp q).1
        have old : ∀ j b, Ow (ρ.set i (.d (.lst xs))) σ j b → j ≠ i ∧ Ow ρ σ j b := fun j b o => by
          obtain ⟨⟨ys, o1⟩, o2⟩ := o
          have ne : j ≠ i := fun z => by
            subst z
            rw [List.getElem?_set_self hi] at o1
            rcases o1 with o1 | o1 <;> cases o1
          rw [List.getElem?_set_ne (Ne.symm ne)] at o1
          exact ⟨ne, ⟨ys, o1⟩, o2⟩
        have own : Ow ρ σ i a := ⟨⟨xs, .inl q⟩, h⟩
        refine ⟨upd F a (.lst vs), ⟨⟨by rw [List.length_set]; exact W.len, W.gl, fun b x e => ?_, W.f0.trans ss, W.kp, fun b z => ?_, W.it, fun j s z => ?_, fun j k b o1 o2 => W.ap j k b (old j b o1).2 (old k b o2).2, fun j b z => ?_⟩, ss, fun _ _ z _ => z, fun b z => ?_, fun j b o => (old j b o).2, fun _ z => z⟩, .lst upd_same (h2.mono ss)⟩
        · by_cases hb : b = a
          · subst hb; rw [upd_same] at e; cases e; exact h1
          · rw [upd_ne hb] at e; exact W.sub _ _ e
        · by_cases hb : b = a
          · subst hb; exact .inr h4
          · rw [upd_ne hb] at z; exact W.nw b z
        · by_cases ne : j = i
          · subst ne
            rw [List.getElem?_set_self hi] at z
            cases z
            exact ⟨.ref a, h, .lst upd_same (h2.mono ss)⟩
          · rw [List.getElem?_set_ne (Ne.symm ne)] at z
            have q2 := W.sl j s z
            cases s with
            | no => trivial
            | xa b dx f => exact ⟨q2.1, q2.2.mono ss⟩
            | d x => obtain ⟨v, e, r⟩ := q2; exact ⟨v, e, r.mono ss⟩
            | ow ys =>
              obtain ⟨c, us, e, p1, p2, p3, p4⟩ := q2
              have nc : c ≠ a := fun zz => ne (W.ap j i a ⟨⟨ys, .inl z⟩, by rw [← zz]; exact e⟩ own)
              exact ⟨c, us, e, p1, p2.mono ss, by rw [upd_ne nc]; exact p3, p4⟩
            | io ys =>
              obtain ⟨c, us, e, p1, p2, p3, p4⟩ := q2
              have nc : c ≠ a := fun zz => ne (W.ap j i a ⟨⟨ys, .inr z⟩, by rw [← zz]; exact e⟩ own)
              exact ⟨c, us, e, p1, p2.mono ss, by rw [upd_ne nc]; exact p3, p4⟩
        · obtain ⟨⟨ys, z1⟩, z2⟩ := W.ai j b z
          have ne : j ≠ i := fun e => by rw [e, q] at z1; cases z1
          exact ⟨⟨ys, by rw [List.getElem?_set_ne (Ne.symm ne)]; exact z1⟩, z2⟩
        · by_cases hb : b = a
          · subst hb; exact .inr (.inr ⟨i, own⟩)
          · rw [upd_ne hb] at z; exact .inl z
end
end Sw
namespace Sw
open PySem PySem.Spec PyProof.Rows L2

abbrev M (α : Type) := Rho → Option (α × Rho)

def tM (K : PySem.W.Frag) (m : M Vl) : TE := fun σ H Q => ∃ G ρ F r ρ', Wd K G ρ σ H F ∧ m ρ = some (r, ρ') ∧ ∀ v H' F', Ste K G ρ σ H F ρ' H' F' → VlR K G H ρ' σ H' F' v r → Q v H'
def tMT (K : PySem.W.Frag) (m : M Bool) : TT := fun σ H Q => ∃ G ρ F r ρ', Wd K G ρ σ H F ∧ m ρ = some (r, ρ') ∧ ∀ H' F', Ste K G ρ σ H F ρ' H' F' → Q r H'
def VlSs (K : PySem.W.Frag) (σ : L2.St) (F : Hp) : List V → List Vl → Prop
  | [], [] => True
  | v :: vs, r :: rs => VlS K σ F v r ∧ VlSs K σ F vs rs
  | _, _ => False
def tMA (K : PySem.W.Frag) (m : M (List Vl)) : TA := fun σ H Q => ∃ G ρ F r ρ', Wd K G ρ σ H F ∧ m ρ = some (r, ρ') ∧ ∀ vs H' F', Ste K G ρ σ H F ρ' H' F' → VlSs K σ F' vs r → Q vs H'
abbrev SE (X : Cx) (e : Expr) (m : M Vl) : Prop := PE X e (tM X.K m)
abbrev ST (X : Cx) (e : Expr) (m : M Bool) : Prop := PT X e (tMT X.K m)
abbrev SA (X : Cx) (es : List Expr) (m : M (List Vl)) : Prop := PA X es (tMA X.K m)

theorem VlSs.ste {K : PySem.W.Frag} {G : Gd} {ρ1 ρ2 : Rho} {σ : L2.St} {H1 H2 F1 F2 : Hp} (s : Ste K G ρ1 σ H1 F1 ρ2 H2 F2) : ∀ {vs : List V} {rs : List Vl}, VlSs K σ F1 vs rs → VlSs K σ F2 vs rs
  | [], [], _ => trivial
  | _ :: _, _ :: _, h => ⟨h.1.ste s, VlSs.ste s h.2⟩
  | [], _ :: _, h => h.elim
  | _ :: _, [], h => h.elim

theorem pe_weak {X : Cx} {e : Expr} {t t' : TE} (h : PE X e t) (w : ∀ σ H Q, t' σ H Q → t σ H Q) : PE X e t' := ⟨fun pins s σ H Q I q => h.run pins s σ H Q I (w _ _ _ q)⟩
theorem pt_weak {X : Cx} {e : Expr} {t t' : TT} (h : PT X e t) (w : ∀ σ H Q, t' σ H Q → t σ H Q) : PT X e t' := ⟨fun pins s σ H Q I q => h.run pins s σ H Q I (w _ _ _ q)⟩
theorem pw_weak {X : Cx} {e : Expr} {t t' : TT} (h : PW X e t) (w : ∀ σ H Q, t' σ H Q → t σ H Q) : PW X e t' := ⟨fun wh pins s σ H Q I q => h.run wh pins s σ H Q I (w _ _ _ q)⟩
theorem pa_weak {X : Cx} {es : List Expr} {t t' : TA} (h : PA X es t) (w : ∀ σ H Q, t' σ H Q → t σ H Q) : PA X es t' := ⟨fun pos pins s σ H Q I q => h.run pos pins s σ H Q I (w _ _ _ q)⟩

section
variable {K : PySem.W.Frag} {G : Gd} {ρ ρ1 : Rho} {σ : L2.St} {H F : Hp} {r : Vl}
theorem tm_use {m : M Vl} {Q : VK} (W : Wd K G ρ σ H F) (h : m ρ = some (r, ρ1)) (q : ∀ v H1 F1, Ste K G ρ σ H F ρ1 H1 F1 → VlS K σ F1 v (stl r) → Q v H1) : tM K m σ H Q :=
  ⟨G, ρ, F, r, ρ1, W, h, fun v H1 F1 s R => let ⟨F2, s2, R2, _⟩ := settle W s R; q v H1 F2 s2 R2⟩
theorem tmt_use {m : M Bool} {b : Bool} {Q : Bool → Hp → Prop} (W : Wd K G ρ σ H F) (h : m ρ = some (b, ρ1)) (q : ∀ H1 F1, Ste K G ρ σ H F ρ1 H1 F1 → Q b H1) : tMT K m σ H Q :=
  ⟨G, ρ, F, b, ρ1, W, h, q⟩
end

/-! ### names, constants -/
def eVar (i : Nat) : M Vl := fun ρ => match ρ[i]? with
  | some (.d x) => some (.fz x, ρ)
  | some (.ow _) => some (.bw i, ρ)
  | some (.io _) => some (.bw i, ρ)
  | _ => none
def eC (x : D) : M Vl := fun ρ => some (.fz x, ρ)

section
variable {X : Cx}
theorem se_var {i : Nat} {e : Expr} (h : PE X e (tVar i)) : SE X e (eVar i) := by
  refine pe_weak h fun σ H Q ⟨G, ρ, F, r, ρ', W, hm, q⟩ => ?_
  unfold eVar at hm
  cases e : ρ[i]? with
  | none => simp [e] at hm
  | some s =>
    have sl := W.sl i s e
    cases s with
    | no => simp [e] at hm
    | xa b dx f => simp [e] at hm
    | d x =>
      simp [e] at hm
      obtain ⟨rfl, rfl⟩ := hm
      obtain ⟨v, h1, h2⟩ := sl
      exact ⟨v, h1, q v H F (Ste.refl W) h2⟩
    | ow xs =>
      simp [e] at hm
      obtain ⟨rfl, rfl⟩ := hm
      obtain ⟨a, vs, h1, _⟩ := sl
      exact ⟨.ref a, h1, q _ H F (Ste.refl W) h1⟩
    | io xs =>
      simp [e] at hm
      obtain ⟨rfl, rfl⟩ := hm
      obtain ⟨a, vs, h1, _⟩ := sl
      exact ⟨.ref a, h1, q _ H F (Ste.refl W) h1⟩
theorem se_con {e : Expr} {v : V} {x : D} (h : PE X e (tC v)) (r : ∀ F, Rep X.K F v x) : SE X e (eC x) := by
  refine pe_weak h fun σ H Q ⟨G, ρ, F, r', ρ', W, hm, q⟩ => ?_
  cases hm
  exact q v H F (Ste.refl W) (r F)
theorem se_int {i : Int} {j pos} : SE X (.Constant (.int i) j pos) (eC (.int i)) := se_con pe_int fun _ => .int i
theorem se_bl {b : Bool} {j pos} : SE X (.Constant (.bool b) j pos) (eC (.bl b)) := se_con pe_bl fun _ => .bl b
theorem se_non {j pos} : SE X (.Constant .none j pos) (eC .non) := se_con pe_non fun _ => .non
theorem str_cps (x : Str) : (⟨x.cps.toList.toArray⟩ : Str) = x := by cases x; simp
theorem rep_str {K : PySem.W.Frag} {F : Hp} (x : Str) : Rep K F (.str x) (.str x.cps.toList) := by
  have h := Rep.str (K := K) (F := F) x.cps.toList
  rw [str_cps] at h
  exact h
/-- a written text: cs its codes -/
theorem se_str {x : Str} {cs : List Nat} {j pos} (h : x.cps.toList = cs) : SE X (.Constant (.str x) j pos) (eC (.str cs)) := se_con pe_str fun _ => h ▸ rep_str x
theorem se_glob {x : Str} {v : V} {u : Value} {pos : Pos} {d : D} (hm : X.mg x = some u) (r : RelV v u) (hr : ∀ F, Rep X.K F v d) (hg : Gl X x) (hd : (x == ("__debug__" : Str)) = false := by decide) : SE X (.Name x pos) (eC d) := se_con (pe_glob hg hm r hd) hr
end

/-! ### two-place operations -/
def eBin (f : D → D → Option D) (a b : M Vl) : M Vl := fun ρ => (a ρ).bind fun p => (b p.2).bind fun q => (look q.2 (stl p.1)).bind fun x => (look q.2 (stl q.1)).bind fun y => (f x y).bind fun z => some (.fz z, q.2)
def OpS (K : PySem.W.Frag) (r : R2) (f : D → D → Option D) : Prop :=
  ∀ (H F : Hp) (v u : V) (x y z : D), Same F H → Vw K H F v x → Vw K H F u y → f x y = some z → ∀ Q : VK, (∀ w H' F', Alc F H F' H' → Rep K F' w z → Q w H') → r v u H Q
def orF (f g : D → D → Option D) : D → D → Option D := fun x y => match f x y with
  | some z => some z
  | none => g x y
theorem OpS.or {K : PySem.W.Frag} {r r' : R2} {f g : D → D → Option D} (h : OpS K r f) (h' : OpS K r' g) : OpS K (fun x y H Q => r x y H Q ∨ r' x y H Q) (orF f g) := by
  intro H F v u x y z s hx hy e Q q
  unfold orF at e
  cases e1 : f x y with
  | some w =>
    simp [e1] at e; subst e
    exact .inl (h H F v u x y w s hx hy e1 Q q)
  | none =>
    simp [e1] at e
    exact .inr (h' H F v u x y z s hx hy e Q q)
theorem top_of {K : PySem.W.Frag} {r : R2} {f : D → D → Option D} {a b : M Vl} (hf : OpS K r f) {σ : L2.St} {H : Hp} {Q : VK} (h : tM K (eBin f a b) σ H Q) : tOp r (tM K a) (tM K b) σ H Q := by
  obtain ⟨G, ρ, F, r0, ρ', W, hm, q⟩ := h
  unfold eBin at hm
  obtain ⟨⟨x, ρ1⟩, e1, hm⟩ := Option.bind_eq_some_iff.mp hm
  obtain ⟨⟨y, ρ2⟩, e2, hm⟩ := Option.bind_eq_some_iff.mp hm
  obtain ⟨dx, e3, hm⟩ := Option.bind_eq_some_iff.mp hm
  obtain ⟨dy, e4, hm⟩ := Option.bind_eq_some_iff.mp hm
  obtain ⟨dz, e5, hm⟩ := Option.bind_eq_some_iff.mp hm
  cases hm
  refine tm_use W e1 fun v H1 F1 s1 R1 => ?_
  refine tm_use s1.wd e2 fun u H2 F2 s2 R2 => ?_
  have V1 := vw_of s2.wd (R1.ste s2) e3
  have V2 := vw_of s2.wd R2 e4
  refine hf H2 F2 v u dx dy dz s2.wd.sub V1 V2 e5 Q fun w H' F' A R => ?_
  exact q w H' F' ((s1.trans s2).trans (s2.wd.alc A)) R

section
variable {X : Cx} {a b : Expr} {ma mb : M Vl} {pos : Pos}
theorem se_bin {op : Operator} {r : R2} {f : D → D → Option D} (ho : OpR X (binaryOp op) r) (hf : OpS X.K r f) (ha : SE X a ma) (hb : SE X b mb) : SE X (.BinOp a op b pos) (eBin f ma mb) :=
  pe_weak (pe_op ho ha hb) fun _ _ _ h => top_of hf h
theorem se_cmp {op : CmpOp} {r : R2} {f : D → D → Option D} (ho : OpR X (compareOp op) r) (hf : OpS X.K r f) (ha : SE X a ma) (hb : SE X b mb) (hm : behindInMarks op b = false) : SE X (.Compare a [op] [b] pos) (eBin f ma mb) :=
  pe_weak (pe_cmpR ho ha hb hm) fun _ _ _ h => top_of hf h
theorem se_ixr {r : R2} {f : D → D → Option D} (ho : IxR X r) (hf : OpS X.K r f) (ha : SE X a ma) (hb : SE X b mb) (hs : PlainIx b) : SE X (.Subscript a b pos) (eBin f ma mb) :=
  pe_weak (pe_ix ho ha hb hs) fun _ _ _ h => top_of hf h
end

/-! ### one-place operations -/
def eUn (f : D → Option D) (a : M Vl) : M Vl := fun ρ => (a ρ).bind fun p => (look p.2 (stl p.1)).bind fun x => (f x).bind fun z => some (.fz z, p.2)
def UnS (K : PySem.W.Frag) (r : V → Hp → VK → Prop) (f : D → Option D) : Prop :=
  ∀ (H F : Hp) (v : V) (x z : D), Same F H → Vw K H F v x → f x = some z → ∀ Q : VK, (∀ w H' F', Alc F H F' H' → Rep K F' w z → Q w H') → r v H Q
theorem tun_of {K : PySem.W.Frag} {r : V → Hp → VK → Prop} {f : D → Option D} {a : M Vl} (hf : UnS K r f) {σ : L2.St} {H : Hp} {Q : VK} (h : tM K (eUn f a) σ H Q) : tUn r (tM K a) σ H Q := by
  obtain ⟨G, ρ, F, r0, ρ', W, hm, q⟩ := h
  unfold eUn at hm
  obtain ⟨⟨x, ρ1⟩, e1, hm⟩ := Option.bind_eq_some_iff.mp hm
  obtain ⟨dx, e3, hm⟩ := Option.bind_eq_some_iff.mp hm
  obtain ⟨dz, e5, hm⟩ := Option.bind_eq_some_iff.mp hm
  cases hm
  refine tm_use W e1 fun v H1 F1 s1 R1 => ?_
  refine hf H1 F1 v dx dz s1.wd.sub (vw_of s1.wd R1 e3) e5 Q fun w H' F' A R => ?_
  exact q w H' F' (s1.trans (s1.wd.alc A)) R
theorem se_un {X : Cx} {a : Expr} {ma : M Vl} {pos : Pos} {op : UnaryOp} {r : V → Hp → VK → Prop} {f : D → Option D} (ho : UnR X (unaryOp op) r) (hf : UnS X.K r f) (ha : SE X a ma) : SE X (.UnaryOp op a pos) (eUn f ma) :=
  pe_weak (pe_un ho ha) fun _ _ _ h => tun_of hf h

/-! ### tests -/
/-- an expression that gives a bool -/
def tE (a : M Vl) : M Bool := fun ρ => (a ρ).bind fun p => match p.1 with
  | .fz (.bl b) => some (b, p.2)
  | _ => none
theorem tb_of {K : PySem.W.Frag} {a : M Vl} {σ : L2.St} {H : Hp} {Q : Bool → Hp → Prop} (h : tMT K (tE a) σ H Q) : tM K a σ H (fun x H1 => ∃ c, x = .bl c ∧ Q c H1) := by
  obtain ⟨G, ρ, F, b, ρ', W, hm, q⟩ := h
  unfold tE at hm
  obtain ⟨⟨x, ρ1⟩, e1, hm⟩ := Option.bind_eq_some_iff.mp hm
  refine tm_use W e1 fun v H1 F1 s1 R1 => ?_
  split at hm
  · rename_i c hc
    cases hm
    dsimp only at hc
    subst hc
    cases (show Rep K F1 v (.bl b) from R1)
    exact ⟨b, rfl, q H1 F1 s1⟩
  · cases hm
section
variable {X : Cx} {a b c : Expr} {ma mb : M Vl} {m1 m2 : M Bool} {pos : Pos} {rest : List Expr}
theorem st_val (ha : SE X a ma) (he : ∀ whole, isTrue a X.env whole = (do let v ← whole; standAt a.pos; holding [v] (truthy v))) : ST X a (tE ma) :=
  pt_weak (pt_val ha he) fun _ _ _ h => tb_of h
theorem st_cmp {op : CmpOp} {r : R2} {f : D → D → Option D} (ho : OpR X (compareOp op) r) (hf : OpS X.K r f) (ha : SE X a ma) (hb : SE X b mb) (hm : behindInMarks op b = false) : ST X (.Compare a [op] [b] pos) (tE (eBin f ma mb)) :=
  pt_weak (pt_cmpR ho ha hb hm) fun _ _ _ h => top_of hf (tb_of h)
def tAnd (a b : M Bool) : M Bool := fun ρ => (a ρ).bind fun p => if p.1 = true then b p.2 else some (false, p.2)
def tOr (a b : M Bool) : M Bool := fun ρ => (a ρ).bind fun p => if p.1 = true then some (true, p.2) else b p.2
def tNot (a : M Bool) : M Bool := fun ρ => (a ρ).bind fun p => some (!p.1, p.2)
abbrev SW (X : Cx) (e : Expr) (m : M Bool) : Prop := PW X e (tMT X.K m)
theorem sw_and1 (h : ST X a m1) : SW X (.BoolOp .And [a] pos) m1 := pw_and1 h
theorem sw_or1 (h : ST X a m1) : SW X (.BoolOp .Or [a] pos) m1 := pw_or1 h
theorem tand_of {K : PySem.W.Frag} {σ : L2.St} {H : Hp} {Q : Bool → Hp → Prop} (h : tMT K (tAnd m1 m2) σ H Q) : L2.tAnd (tMT K m1) (tMT K m2) σ H Q := by
  obtain ⟨G, ρ, F, b, ρ', W, hm, q⟩ := h
  unfold tAnd at hm
  obtain ⟨⟨x, ρ1⟩, e1, hm⟩ := Option.bind_eq_some_iff.mp hm
  refine tmt_use W e1 fun H1 F1 s1 => ?_
  cases x with
  | true =>
    simp only [if_true] at hm ⊢
    exact ⟨G, ρ1, F1, b, ρ', s1.wd, hm, fun H2 F2 s2 => q H2 F2 (s1.trans s2)⟩
  | false =>
    simp at hm ⊢
    obtain ⟨rfl, rfl⟩ := hm
    exact q H1 F1 s1
theorem tor_of {K : PySem.W.Frag} {σ : L2.St} {H : Hp} {Q : Bool → Hp → Prop} (h : tMT K (tOr m1 m2) σ H Q) : L2.tOr (tMT K m1) (tMT K m2) σ H Q := by
  obtain ⟨G, ρ, F, b, ρ', W, hm, q⟩ := h
  unfold tOr at hm
  obtain ⟨⟨x, ρ1⟩, e1, hm⟩ := Option.bind_eq_some_iff.mp hm
  refine tmt_use W e1 fun H1 F1 s1 => ?_
  cases x with
  | true =>
    simp at hm ⊢
    obtain ⟨rfl, rfl⟩ := hm
    exact q H1 F1 s1
  | false =>
    simp at hm ⊢
    exact ⟨G, ρ1, F1, b, ρ', s1.wd, hm, fun H2 F2 s2 => q H2 F2 (s1.trans s2)⟩
theorem sw_and (ha : ST X a m1) (hb : SW X (.BoolOp .And (b :: rest) pos) m2) : SW X (.BoolOp .And (a :: b :: rest) pos) (tAnd m1 m2) := pw_weak (pw_and ha hb) fun _ _ _ h => tand_of h
theorem sw_or (ha : ST X a m1) (hb : SW X (.BoolOp .Or (b :: rest) pos) m2) : SW X (.BoolOp .Or (a :: b :: rest) pos) (tOr m1 m2) := pw_weak (pw_or ha hb) fun _ _ _ h => tor_of h
theorem st_bool {e : Expr} (h : SW X e m1) : ST X e m1 := h.pt
theorem st_not (ha : ST X a m1) : ST X (.UnaryOp .Not a pos) (tNot m1) := pt_weak (pt_not ha) fun σ H Q ⟨G, ρ, F, b, ρ', W, hm, q⟩ => by
  unfold tNot at hm
  obtain ⟨⟨x, ρ1⟩, e1, hm⟩ := Option.bind_eq_some_iff.mp hm
  cases hm
  exact tmt_use W e1 fun H1 F1 s1 => q H1 F1 s1
/-- and, or, not of bools as values -/
def eAnd (a b : M Vl) : M Vl := fun ρ => (a ρ).bind fun p => match p.1 with
  | .fz (.bl true) => b p.2
  | .fz (.bl false) => some (.fz (.bl false), p.2)
  | _ => none
def eOr (a b : M Vl) : M Vl := fun ρ => (a ρ).bind fun p => match p.1 with
  | .fz (.bl false) => b p.2
  | .fz (.bl true) => some (.fz (.bl true), p.2)
  | _ => none
def eNot (a : M Vl) : M Vl := fun ρ => (a ρ).bind fun p => match p.1 with
  | .fz (.bl b) => some (.fz (.bl (!b)), p.2)
  | _ => none
def eIf (t : M Bool) (a b : M Vl) : M Vl := fun ρ => (t ρ).bind fun p => if p.1 = true then a p.2 else b p.2
theorem VlR.pre {K : PySem.W.Frag} {G : Gd} {P P' : Hp} {ρ : Rho} {σ : L2.St} {H F : Hp} {v : V} {r : Vl} (h : VlR K G P ρ σ H F v r) (e : ∀ a, P a = none → P' a = none) : VlR K G P' ρ σ H F v r := by
  cases r with
  | fz x => exact h
  | bw i => exact h
  | fr xs =>
    obtain ⟨a, vs, e1, h1, h2, h3, h4, h5⟩ := h
    exact ⟨a, vs, e1, h1, h2, h3, e a h4, h5⟩
theorem Ste.back {K : PySem.W.Frag} {G : Gd} {ρ ρ1 : Rho} {σ : L2.St} {H H1 F F1 : Hp} (s : Ste K G ρ σ H F ρ1 H1 F1) : ∀ a, H1 a = none → H a = none := fun a h => by
  cases e : H a with
  | none => rfl
  | some o => exact absurd h (s.tr a (by rw [e]; simp))
/-- the last part's own result -/
theorem tm_last {K : PySem.W.Frag} {G : Gd} {ρ ρ1 ρ2 : Rho} {σ : L2.St} {H H1 F F1 : Hp} {r : Vl} {m : M Vl} {Q : VK} (s : Ste K G ρ σ H F ρ1 H1 F1) (h : m ρ1 = some (r, ρ2)) (q : ∀ v H' F', Ste K G ρ σ H F ρ2 H' F' → VlR K G H ρ2 σ H' F' v r → Q v H') : tM K m σ H1 Q :=
  ⟨G, ρ1, F1, r, ρ2, s.wd, h, fun v H2 F2 s2 R => q v H2 F2 (s.trans s2) (R.pre s.back)⟩
theorem se_one {op} (h : SE X a ma) : SE X (.BoolOp op [a] pos) ma := pe_one h
theorem se_and (ha : SE X a ma) (hb : SE X (.BoolOp .And (b :: rest) pos) mb) : SE X (.BoolOp .And (a :: b :: rest) pos) (eAnd ma mb) := by
  refine pe_weak (pe_and ha hb) fun σ H Q ⟨G, ρ, F, r, ρ', W, hm, q⟩ => ?_
  unfold eAnd at hm
  obtain ⟨⟨x, ρ1⟩, e1, hm⟩ := Option.bind_eq_some_iff.mp hm
  refine tm_use W e1 fun v H1 F1 s1 R1 => ?_
  split at hm
  · rename_i hc; dsimp only at hc; subst hc
    cases (show Rep X.K F1 v (.bl true) from R1)
    exact ⟨true, rfl, tm_last s1 hm q⟩
  · rename_i hc; dsimp only at hc; subst hc
    cases (show Rep X.K F1 v (.bl false) from R1)
    cases hm
    exact ⟨false, rfl, q _ _ F1 s1 (.bl false)⟩
  · cases hm
theorem se_or (ha : SE X a ma) (hb : SE X (.BoolOp .Or (b :: rest) pos) mb) : SE X (.BoolOp .Or (a :: b :: rest) pos) (eOr ma mb) := by
  refine pe_weak (pe_or ha hb) fun σ H Q ⟨G, ρ, F, r, ρ', W, hm, q⟩ => ?_
  unfold eOr at hm
  obtain ⟨⟨x, ρ1⟩, e1, hm⟩ := Option.bind_eq_some_iff.mp hm
  refine tm_use W e1 fun v H1 F1 s1 R1 => ?_
  split at hm
  · rename_i hc; dsimp only at hc; subst hc
    cases (show Rep X.K F1 v (.bl false) from R1)
    exact ⟨false, rfl, tm_last s1 hm q⟩
  · rename_i hc; dsimp only at hc; subst hc
    cases (show Rep X.K F1 v (.bl true) from R1)
    cases hm
    exact ⟨true, rfl, q _ _ F1 s1 (.bl true)⟩
  · cases hm
theorem se_not (ha : SE X a ma) : SE X (.UnaryOp .Not a pos) (eNot ma) := by
  refine pe_weak (pe_not ha) fun σ H Q ⟨G, ρ, F, r, ρ', W, hm, q⟩ => ?_
  unfold eNot at hm
  obtain ⟨⟨x, ρ1⟩, e1, hm⟩ := Option.bind_eq_some_iff.mp hm
  refine tm_use W e1 fun v H1 F1 s1 R1 => ?_
  split at hm
  · rename_i c hc; dsimp only at hc; subst hc
    cases (show Rep X.K F1 v (.bl c) from R1)
    cases hm
    exact ⟨c, rfl, q _ _ F1 s1 (.bl _)⟩
  · cases hm
theorem se_if (hc : ST X c m1) (ha : SE X a ma) (hb : SE X b mb) : SE X (.IfExp c a b pos) (eIf m1 ma mb) := by
  refine pe_weak (pe_ifExp hc ha hb) fun σ H Q ⟨G, ρ, F, r, ρ', W, hm, q⟩ => ?_
  unfold eIf at hm
  obtain ⟨⟨x, ρ1⟩, e1, hm⟩ := Option.bind_eq_some_iff.mp hm
  refine tmt_use W e1 fun H1 F1 s1 => ?_
  cases x with
  | true => simp only [if_true] at hm ⊢; exact tm_last s1 hm q
  | false => simp at hm ⊢; exact tm_last s1 hm q
/-- a < b < c -/
def eChain (f g : D → D → Option D) (a b c : M Vl) : M Vl := fun ρ => (a ρ).bind fun p => (b p.2).bind fun q => (look q.2 (stl p.1)).bind fun x => (look q.2 (stl q.1)).bind fun y => (f x y).bind fun z => match z with
  | .bl true => (c q.2).bind fun p3 => (look p3.2 (stl q.1)).bind fun y2 => (look p3.2 (stl p3.1)).bind fun w => (g y2 w).bind fun z2 => some (.fz z2, p3.2)
  | .bl false => some (.fz (.bl false), q.2)
  | _ => none
end

/-! ### argument lists -/
def aNil : M (List Vl) := fun ρ => some ([], ρ)
def aCons (a : M Vl) (r : M (List Vl)) : M (List Vl) := fun ρ => (a ρ).bind fun p => (r p.2).bind fun q => some (stl p.1 :: q.1, q.2)
theorem sa_nil {X : Cx} : SA X [] aNil := pa_weak pa_nil fun σ H Q ⟨G, ρ, F, r, ρ', W, hm, q⟩ => by
  cases hm
  exact q [] H F (Ste.refl W) trivial
theorem sa_cons {X : Cx} {e : Expr} {es : List Expr} {me : M Vl} {mr : M (List Vl)} (he : SE X e me) (hr : SA X es mr) (hs : starEach (e :: es) X.env = (false, eval e X.env) :: starEach es X.env := by rfl) : SA X (e :: es) (aCons me mr) := by
  refine pa_weak (pa_cons he hr hs) fun σ H Q ⟨G, ρ, F, r, ρ', W, hm, q⟩ => ?_
  unfold aCons at hm
  obtain ⟨⟨x, ρ1⟩, e1, hm⟩ := Option.bind_eq_some_iff.mp hm
  obtain ⟨⟨y, ρ2⟩, e2, hm⟩ := Option.bind_eq_some_iff.mp hm
  cases hm
  refine tm_use W e1 fun v H1 F1 s1 R1 => ?_
  exact ⟨G, ρ1, F1, y, ρ2, s1.wd, e2, fun vs H2 F2 s2 R2 => q (v :: vs) H2 F2 (s1.trans s2) ⟨R1.ste s2, R2⟩⟩

/-- all become data -/
def frzs (ρ : Rho) : List Vl → Option (List D × Rho)
  | [] => some ([], ρ)
  | r :: rs => (frz ρ r).bind fun p => (frzs p.2 rs).bind fun q => some (p.1 :: q.1, q.2)
theorem frzs_ok {K : PySem.W.Frag} {G : Gd} {σ : L2.St} {H : Hp} : ∀ {rs : List Vl} {vs : List V} {xs : List D} {ρ ρ' : Rho} {F : Hp}, Wd K G ρ σ H F → VlSs K σ F vs rs → frzs ρ rs = some (xs, ρ') → ∃ F', Ste K G ρ σ H F ρ' H F' ∧ Reps K F' vs xs
  | [], [], xs, ρ, ρ', F, W, _, e => by
    cases e
    exact ⟨F, Ste.refl W, .nil⟩
  | [], _ :: _, _, _, _, _, _, h, _ => h.elim
  | _ :: _, [], _, _, _, _, _, h, _ => h.elim
  | r :: rs, v :: vs, xs, ρ, ρ', F, W, h, e => by
    unfold frzs at e
    obtain ⟨⟨x, ρ1⟩, e1, e⟩ := Option.bind_eq_some_iff.mp e
    obtain ⟨⟨ys, ρ2⟩, e2, e⟩ := Option.bind_eq_some_iff.mp e
    cases e
    obtain ⟨F1, s1, R1⟩ := frz_ok W h.1 e1
    obtain ⟨F2, s2, R2⟩ := frzs_ok s1.wd (h.2.ste s1) e2
    exact ⟨F2, s1.trans s2, .cons (R1.mono s2.ff) R2⟩

abbrev lim : Nat := 16777216
theorem lim_of {n : Nat} (h : n ≤ lim) : n ≤ sizeLine := by rw [sizeLine_eq]; exact h
theorem lim_lt {n : Nat} (h : n < lim) : n < sizeLine := by rw [sizeLine_eq]; exact h
/-- (a, b, ..) -/
def eTup (a : M (List Vl)) : M Vl := fun ρ => (a ρ).bind fun p => (frzs p.2 p.1).bind fun q => if q.1.length ≤ lim then some (.fz (.tup q.1), q.2) else none
def eLst (a : M (List Vl)) : M Vl := fun ρ => (a ρ).bind fun p => (frzs p.2 p.1).bind fun q => if q.1.length ≤ lim then some (.fr q.1, q.2) else none
section
variable {X : Cx} {es : List Expr} {ma : M (List Vl)} {pos : Pos}
theorem se_tup {x1} (h : SA X es ma) : SE X (.Tuple es x1 pos) (eTup ma) := by
  refine pe_weak (pe_tup h) fun σ H Q ⟨G, ρ, F, r, ρ', W, hm, q⟩ => ?_
  unfold eTup at hm
  obtain ⟨⟨x, ρ1⟩, e1, hm⟩ := Option.bind_eq_some_iff.mp hm
  obtain ⟨⟨ys, ρ2⟩, e2, hm⟩ := Option.bind_eq_some_iff.mp hm
  split at hm
  · rename_i hl
    cases hm
    refine ⟨G, ρ, F, x, ρ1, W, e1, fun vs H1 F1 s1 R1 => ?_⟩
    obtain ⟨F2, s2, R2⟩ := frzs_ok s1.wd R1 e2
    refine ⟨lim_of (by rw [R2.len]; exact hl), fun p hp => ?_⟩
    have A := Alc.new (o := HO.tup vs) s2.wd.sub hp
    exact q _ _ _ ((s1.trans s2).trans (s2.wd.alc A)) (Rep.tup (SqT.of upd_same) (R2.mono A.ff))
  · cases hm
theorem se_lst (h : SA X es ma) : SE X (.List es pos) (eLst ma) := by
  refine pe_weak (pe_lst h) fun σ H Q ⟨G, ρ, F, r, ρ', W, hm, q⟩ => ?_
  unfold eLst at hm
  obtain ⟨⟨x, ρ1⟩, e1, hm⟩ := Option.bind_eq_some_iff.mp hm
  obtain ⟨⟨ys, ρ2⟩, e2, hm⟩ := Option.bind_eq_some_iff.mp hm
  split at hm
  · rename_i hl
    cases hm
    refine ⟨G, ρ, F, x, ρ1, W, e1, fun vs H1 F1 s1 R1 => ?_⟩
    obtain ⟨F2, s2, R2⟩ := frzs_ok s1.wd R1 e2
    refine ⟨lim_of (by rw [R2.len]; exact hl), fun p hp => ?_⟩
    have s3 := s1.trans s2
    have A : Alc F2 H1 F2 (upd H1 p (.lst vs)) := ⟨Same.refl _, s2.wd.sub.trans (same_upd hp), same_upd hp, fun _ h => .inl h⟩
    refine q _ _ _ (s3.trans (s2.wd.alc A)) ⟨p, vs, rfl, upd_same, R2, s2.wd.sub.free hp, s3.back p hp, fun i o => ?_⟩
    obtain ⟨_, z, _⟩ := s3.wd.ow_there o
    rw [hp] at z; cases z
  · cases hm
end

/-! ### calls of built-ins -/
def looks (ρ : Rho) : List Vl → Option (List D)
  | [] => some []
  | r :: rs => (look ρ r).bind fun x => (looks ρ rs).bind fun xs => some (x :: xs)
def Vws (K : PySem.W.Frag) (H F : Hp) : List V → List D → Prop
  | [], [] => True
  | v :: vs, x :: xs => Vw K H F v x ∧ Vws K H F vs xs
  | _, _ => False
theorem vws_of {K : PySem.W.Frag} {G : Gd} {ρ : Rho} {σ : L2.St} {H F : Hp} (W : Wd K G ρ σ H F) : ∀ {vs : List V} {rs : List Vl} {xs : List D}, VlSs K σ F vs rs → looks ρ rs = some xs → Vws K H F vs xs
  | [], [], xs, _, e => by cases e; trivial
  | [], _ :: _, _, h, _ => h.elim
  | _ :: _, [], _, h, _ => h.elim
  | v :: vs, r :: rs, xs, h, e => by
    unfold looks at e
    obtain ⟨x, e1, e⟩ := Option.bind_eq_some_iff.mp e
    obtain ⟨ys, e2, e⟩ := Option.bind_eq_some_iff.mp e
    cases e
    exact ⟨vw_of W h.1 e1, vws_of W h.2 e2⟩
/-- f(a, ..) of a built-in f -/
def eBlt (f : List D → Option D) (a : M (List Vl)) : M Vl := fun ρ => (a ρ).bind fun p => (looks p.2 p.1).bind fun xs => (f xs).bind fun z => some (.fz z, p.2)
def CallS (K : PySem.W.Frag) (r : List V → Hp → VK → Prop) (f : List D → Option D) : Prop :=
  ∀ (H F : Hp) (vs : List V) (xs : List D) (z : D), Same F H → Vws K H F vs xs → f xs = some z → ∀ Q : VK, (∀ w H' F', Alc F H F' H' → Rep K F' w z → Q w H') → r vs H Q
theorem tcb_of {K : PySem.W.Frag} {r : List V → Hp → VK → Prop} {f : List D → Option D} {a : M (List Vl)} (hf : CallS K r f) {σ : L2.St} {H : Hp} {Q : VK} (h : tM K (eBlt f a) σ H Q) : tMA K a σ H fun vs H1 => r vs H1 Q := by
  obtain ⟨G, ρ, F, r0, ρ', W, hm, q⟩ := h
  unfold eBlt at hm
  obtain ⟨⟨x, ρ1⟩, e1, hm⟩ := Option.bind_eq_some_iff.mp hm
  obtain ⟨xs, e2, hm⟩ := Option.bind_eq_some_iff.mp hm
  obtain ⟨z, e3, hm⟩ := Option.bind_eq_some_iff.mp hm
  cases hm
  refine ⟨G, ρ, F, x, ρ1, W, e1, fun vs H1 F1 s1 R1 => ?_⟩
  refine hf H1 F1 vs xs z s1.wd.sub (vws_of s1.wd R1 e2) e3 Q fun w H' F' A R => ?_
  exact q w H' F' (s1.trans (s1.wd.alc A)) R
end Sw
namespace Sw
open PySem PySem.Spec PyProof.Rows L2

section
variable {X : Cx} {a b c e : Expr} {ma mb mc me : M Vl} {pos : Pos}
theorem tchain_of {K : PySem.W.Frag} {r r' : R2} {f g : D → D → Option D} (hf : OpS K r f) (hg : OpS K r' g) {σ : L2.St} {H : Hp} {Q : VK} (h : tM K (eChain f g ma mb mc) σ H Q) : tChain r r' (tM K ma) (tM K mb) (tM K mc) σ H Q := by
  obtain ⟨G, ρ, F, r0, ρ', W, hm, q⟩ := h
  unfold eChain at hm
  obtain ⟨⟨x, ρ1⟩, e1, hm⟩ := Option.bind_eq_some_iff.mp hm
  obtain ⟨⟨y, ρ2⟩, e2, hm⟩ := Option.bind_eq_some_iff.mp hm
  obtain ⟨dx, e3, hm⟩ := Option.bind_eq_some_iff.mp hm
  obtain ⟨dy, e4, hm⟩ := Option.bind_eq_some_iff.mp hm
  obtain ⟨dz, e5, hm⟩ := Option.bind_eq_some_iff.mp hm
  refine tm_use W e1 fun v H1 F1 s1 R1 => ?_
  refine tm_use s1.wd e2 fun u H2 F2 s2 R2 => ?_
  have s12 := s1.trans s2
  refine hf H2 F2 v u dx dy dz s2.wd.sub (vw_of s2.wd (R1.ste s2) e3) (vw_of s2.wd R2 e4) e5 _ fun w H3 F3 A R => ?_
  have s3 := s2.wd.alc A
  have s13 := s12.trans s3
  split at hm
  · cases R
    refine ⟨true, rfl, ?_⟩
    simp only [if_true]
    obtain ⟨⟨z, ρ3⟩, e6, hm⟩ := Option.bind_eq_some_iff.mp hm
    obtain ⟨dy2, e7, hm⟩ := Option.bind_eq_some_iff.mp hm
    obtain ⟨dw, e8, hm⟩ := Option.bind_eq_some_iff.mp hm
    obtain ⟨dz2, e9, hm⟩ := Option.bind_eq_some_iff.mp hm
    cases hm
    refine tm_use s3.wd e6 fun w' H4 F4 s4 R4 => ?_
    refine hg H4 F4 u w' dy2 dw dz2 s4.wd.sub (vw_of s4.wd ((R2.ste s3).ste s4) e7) (vw_of s4.wd R4 e8) e9 _ fun z' H5 F5 A5 R5 => ?_
    exact q z' H5 F5 ((s13.trans s4).trans (s4.wd.alc A5)) R5
  · cases R
    cases hm
    refine ⟨false, rfl, ?_⟩
    simp
    exact q _ _ F3 s13 (.bl false)
  · cases hm
theorem se_chain {op op' : CmpOp} {r r' : R2} {f g : D → D → Option D} (ho : OpR X (compareOp op) r) (ho' : OpR X (compareOp op') r') (hf : OpS X.K r f) (hg : OpS X.K r' g) (ha : SE X a ma) (hb : SE X b mb) (hc : SE X c mc)
    (hm : lastMarks [op, op'] [b, c] = false) : SE X (.Compare a [op, op'] [b, c] pos) (eChain f g ma mb mc) := pe_weak (pe_chain ho ho' ha hb hc hm) fun _ _ _ h => tchain_of hf hg h
theorem st_chain {op op' : CmpOp} {r r' : R2} {f g : D → D → Option D} (ho : OpR X (compareOp op) r) (ho' : OpR X (compareOp op') r') (hf : OpS X.K r f) (hg : OpS X.K r' g) (ha : SE X a ma) (hb : SE X b mb) (hc : SE X c mc)
    (hm : lastMarks [op, op'] [b, c] = false) : ST X (.Compare a [op, op'] [b, c] pos) (tE (eChain f g ma mb mc)) := pt_weak (pt_chain ho ho' ha hb hc hm) fun _ _ _ h => tchain_of hf hg (tb_of h)

/-! ### slices -/
def tMO (K : PySem.W.Frag) (m : M (Option Int)) : TO := fun σ H Q => ∃ G ρ F r ρ', Wd K G ρ σ H F ∧ m ρ = some (r, ρ') ∧ ∀ H' F', Ste K G ρ σ H F ρ' H' F' → Q r H'
abbrev SO (X : Cx) (e : Option Expr) (m : M (Option Int)) : Prop := PO X e (tMO X.K m)
theorem po_weak {o : Option Expr} {t t' : TO} (h : PO X o t) (w : ∀ σ H Q, t' σ H Q → t σ H Q) : PO X o t' := ⟨fun pins s σ H Q I q => h.run pins s σ H Q I (w _ _ _ q)⟩
def oNo : M (Option Int) := fun ρ => some (none, ρ)
def oSome (a : M Vl) : M (Option Int) := fun ρ => (a ρ).bind fun p => match p.1 with
  | .fz (.int i) => some (some i, p.2)
  | _ => none
theorem so_none : SO X none oNo := po_weak po_none fun σ H Q ⟨G, ρ, F, r, ρ', W, hm, q⟩ => by
  cases hm
  exact q H F (Ste.refl W)
theorem so_some (h : SE X e me) : SO X (some e) (oSome me) := po_weak (po_some h) fun σ H Q ⟨G, ρ, F, r, ρ', W, hm, q⟩ => by
  unfold oSome at hm
  obtain ⟨⟨x, ρ1⟩, e1, hm⟩ := Option.bind_eq_some_iff.mp hm
  refine tm_use W e1 fun v H1 F1 s1 R1 => ?_
  split at hm
  · rename_i i hc; dsimp only at hc; subst hc
    cases (show Rep X.K F1 v (.int i) from R1)
    cases hm
    exact ⟨i, rfl, q H1 F1 s1⟩
  · cases hm
def eSl (f : D → Option Int → Option Int → Option D) (a : M Vl) (l u : M (Option Int)) : M Vl := fun ρ => (a ρ).bind fun p => (l p.2).bind fun p1 => (u p1.2).bind fun p2 => (look p2.2 (stl p.1)).bind fun x => (f x p1.1 p2.1).bind fun z => some (.fz z, p2.2)
def SlS (K : PySem.W.Frag) (r : V → Option Int → Option Int → Hp → VK → Prop) (f : D → Option Int → Option Int → Option D) : Prop :=
  ∀ (H F : Hp) (v : V) (x z : D) (lo hi : Option Int), Same F H → Vw K H F v x → f x lo hi = some z → ∀ Q : VK, (∀ w H' F', Alc F H F' H' → Rep K F' w z → Q w H') → r v lo hi H Q
theorem se_sl {r : V → Option Int → Option Int → Hp → VK → Prop} {f : D → Option Int → Option Int → Option D} {lo hi : Option Expr} {ml mu : M (Option Int)} {p2 : Pos} (hr : L2.SlR X r) (hf : SlS X.K r f) (he : SE X e me) (hl : SO X lo ml) (hu : SO X hi mu) : SE X (.Subscript e (.Slice lo hi none p2) pos) (eSl f me ml mu) := by
  refine pe_weak (pe_slice hr he hl hu) fun σ H Q ⟨G, ρ, F, r0, ρ', W, hm, q⟩ => ?_
  unfold eSl at hm
  obtain ⟨⟨x, ρ1⟩, e1, hm⟩ := Option.bind_eq_some_iff.mp hm
  obtain ⟨⟨l, ρ2⟩, e2, hm⟩ := Option.bind_eq_some_iff.mp hm
  obtain ⟨⟨u, ρ3⟩, e3, hm⟩ := Option.bind_eq_some_iff.mp hm
  obtain ⟨dx, e4, hm⟩ := Option.bind_eq_some_iff.mp hm
  obtain ⟨dz, e5, hm⟩ := Option.bind_eq_some_iff.mp hm
  cases hm
  refine tm_use W e1 fun v H1 F1 s1 R1 => ?_
  refine ⟨G, ρ1, F1, l, ρ2, s1.wd, e2, fun H2 F2 s2 => ⟨G, ρ2, F2, u, ρ3, s2.wd, e3, fun H3 F3 s3 => ?_⟩⟩
  refine hf H3 F3 v dx dz l u s3.wd.sub (vw_of s3.wd ((R1.ste s2).ste s3) e4) e5 _ fun w H' F' A R => ?_
  exact q w H' F' (((s1.trans s2).trans s3).trans (s3.wd.alc A)) R

/-! ### built-ins and methods -/
variable {x : Str} {id T : String} {es : List Expr} {ms : M (List Vl)} {p : Pos} {r : List V → Hp → VK → Prop} {f : List D → Option D}
theorem se_blt (hc : CallR X (.builtin id) r) (hf : CallS X.K r f) (hg : Gl X x) (hm : X.mg x = none) (hv : bootBuiltins x = some (.builtin id)) (ha : SA X (e :: es) ms) (hn : x ≠ "__name__" := by decide) (hdb : (x == ("__debug__" : Str)) = false := by decide)
    (he : starEach (e :: es) X.env = (false, eval e X.env) :: starEach es X.env := by rfl) (hpl : (backTo pos (starEach es X.env)).any (·.1) = false := by rfl) : SE X (.Call (.Name x p) (e :: es) [] pos) (eBlt f ms) :=
  pe_weak (pe_callB hc hg hm hv ha hn hdb he hpl) fun _ _ _ h => tcb_of hf h
theorem se_ty (hc : CallR X (.type T) r) (hf : CallS X.K r f) (hg : Gl X x) (hm : X.mg x = none) (hv : bootBuiltins x = some (.type T)) (ha : SA X (e :: es) ms) (hn : x ≠ "__name__" := by decide) (hdb : (x == ("__debug__" : Str)) = false := by decide)
    (he : starEach (e :: es) X.env = (false, eval e X.env) :: starEach es X.env := by rfl) (hpl : (backTo pos (starEach es X.env)).any (·.1) = false := by rfl) : SE X (.Call (.Name x p) (e :: es) [] pos) (eBlt f ms) :=
  pe_weak (pe_callTy hc hg hm hv ha hn hdb he hpl) fun _ _ _ h => tcb_of hf h
/-- o.m(a, ..), m a method of a built-in type; the object a text -/
def eMet (f : D → List D → Option D) (o : M Vl) (a : M (List Vl)) : M Vl := fun ρ => (o ρ).bind fun p => (a p.2).bind fun q => (look q.2 (stl p.1)).bind fun x => (looks q.2 q.1).bind fun xs => (f x xs).bind fun z => some (.fz z, q.2)
def MetS (K : PySem.W.Frag) (r : V → List V → Hp → VK → Prop) (f : D → List D → Option D) : Prop :=
  ∀ (H F : Hp) (v : V) (vs : List V) (x : D) (xs : List D) (z : D), Same F H → Vw K H F v x → Vws K H F vs xs → f x xs = some z → ∀ Q : VK, (∀ w H' F', Alc F H F' H' → Rep K F' w z → Q w H') → r v vs H Q
theorem look_str {ρ : Rho} {r : Vl} {s : List Nat} (h : look ρ (stl r) = some (.str s)) : stl r = .fz (.str s) := by
  cases r with
  | fz x => cases h; rfl
  | fr xs => cases h
  | bw i =>
    simp only [stl, look] at h
    split at h <;> cases h
theorem tmet_of {K : PySem.W.Frag} {mo : M Vl} {r : V → List V → Hp → VK → Prop} {f : D → List D → Option D} (hT : ∀ x xs z, f x xs = some z → ∃ s, x = .str s) (hf : MetS K r f) {σ : L2.St} {H : Hp} {Q : VK} (h : tM K (eMet f mo ms) σ H Q) :
    tM K mo σ H fun x H1 => tyV K "str" x H1 ∧ tMA K ms σ H1 fun xs H2 => r x xs H2 Q := by
  obtain ⟨G, ρ, F, r0, ρ', W, hm, q⟩ := h
  unfold eMet at hm
  obtain ⟨⟨x, ρ1⟩, e1, hm⟩ := Option.bind_eq_some_iff.mp hm
  obtain ⟨⟨y, ρ2⟩, e2, hm⟩ := Option.bind_eq_some_iff.mp hm
  obtain ⟨dx, e3, hm⟩ := Option.bind_eq_some_iff.mp hm
  obtain ⟨dxs, e4, hm⟩ := Option.bind_eq_some_iff.mp hm
  obtain ⟨dz, e5, hm⟩ := Option.bind_eq_some_iff.mp hm
  cases hm
  refine tm_use W e1 fun v H1 F1 s1 R1 => ?_
  obtain ⟨s, rfl⟩ := hT _ _ _ e5
  have ex := look_str e3
  have Rv : Rep K F1 v (.str s) := by rw [ex] at R1; exact R1
  have ty : tyV K "str" v H1 := by
    cases Rv
    rfl
  refine ⟨ty, ⟨G, ρ1, F1, y, ρ2, s1.wd, e2, fun vs H2 F2 s2 R2 => ?_⟩⟩
  refine hf H2 F2 v vs (.str s) dxs dz s2.wd.sub (vw_rep s2.wd.sub (Rv.mono s2.ff)) (vws_of s2.wd R2 e4) e5 Q fun w H' F' A R => ?_
  exact q w H' F' ((s1.trans s2).trans (s2.wd.alc A)) R
theorem se_met {o : Expr} {mo : M Vl} {name : Str} {apos cpos : Pos} {r : V → List V → Hp → VK → Prop} {f : D → List D → Option D} (slot : Slot "str" name id) (hty : typeOf (.builtin id) = pure (.type "method_descriptor")) (hm : MtR X id r) (hT : ∀ x xs z, f x xs = some z → ∃ s, x = .str s) (hf : MetS X.K r f) (ho : SE X o mo) (ha : SA X (e :: es) ms)
    (hbase : attributeBase o name X.env (eval o X.env) = eval o X.env := by rfl)
    (hfew : ((backTo cpos (starEach (e :: es) X.env)).all (fun x => !x.1) && (backToKw cpos (keywordEach [] X.env)).all (fun x => x.1.isSome)
      && decide ((e :: es).length + ([] : List Keyword).length + (if ([] : List Keyword).isEmpty then 0 else 1) < 30)) = true := by rfl)
    (hline : (apos.endLine == cpos.line) = true := by rfl) (hs : starEach (e :: es) X.env = (false, eval e X.env) :: starEach es X.env := by rfl) (hplain : (backTo cpos (starEach es X.env)).any (·.1) = false := by rfl) :
    SE X (.Call (.Attribute o name apos) (e :: es) [] cpos) (eMet f mo ms) :=
  pe_weak (pe_bm PySem.F.plainAttrs_str slot hty hm ho ha hbase hfew hline hs hplain) fun _ _ _ h => tmet_of hT hf h
theorem se_met0 {o : Expr} {mo : M Vl} {name : Str} {apos cpos : Pos} {r : V → List V → Hp → VK → Prop} {f : D → List D → Option D} (slot : Slot "str" name id) (hty : typeOf (.builtin id) = pure (.type "method_descriptor")) (hm : MtR X id r) (hT : ∀ x xs z, f x xs = some z → ∃ s, x = .str s) (hf : MetS X.K r f) (ho : SE X o mo)
    (hbase : attributeBase o name X.env (eval o X.env) = eval o X.env := by rfl) (hline : (apos.endLine == cpos.line) = true := by rfl) : SE X (.Call (.Attribute o name apos) [] [] cpos) (eMet f mo aNil) := by
  refine pe_weak (pe_bm0 PySem.F.plainAttrs_str slot hty hm ho hbase hline) fun σ H Q h => ?_
  obtain ⟨G, ρ, F, r0, ρ', W, hm, q⟩ := tmet_of hT hf h
  refine ⟨G, ρ, F, r0, ρ', W, hm, fun v H' F' s R => ?_⟩
  obtain ⟨h1, G1, ρ1, F1, r1, ρ1', W1, hm1, q1⟩ := q v H' F' s R
  cases hm1
  exact ⟨h1, q1 [] H' F1 (Ste.refl W1) trivial⟩
end

/-! ### calls of defs -/
/-- an argument: a datum, or a list that the def may change -/
inductive Ag where
  | da (x : D) | li (xs : List D)
abbrev Fn := List Ag → Option (Vl × List (List D))
def liA : List V → List Ag → List Addr
  | .ref a :: vs, .li _ :: gs => a :: liA vs gs
  | _ :: vs, _ :: gs => liA vs gs
  | _, _ => []
def AgsR (K : PySem.W.Frag) (F H : Hp) : List V → List Ag → Prop
  | [], [] => True
  | v :: vs, .da x :: gs => Rep K F v x ∧ AgsR K F H vs gs
  | v :: vs, .li xs :: gs => (∃ a us, v = .ref a ∧ H a = some (.lst us) ∧ Reps K F us xs ∧ F a = none) ∧ AgsR K F H vs gs
  | _, _ => False
def OutsR (K : PySem.W.Frag) (F H : Hp) : List Addr → List (List D) → Prop
  | [], [] => True
  | a :: as, xs :: os => (∃ us, H a = some (.lst us) ∧ Reps K F us xs ∧ F a = none) ∧ OutsR K F H as os
  | _, _ => False
def ResR (K : PySem.W.Frag) (P F H : Hp) (v : V) : Vl → Prop
  | .fz x => Rep K F v x
  | .fr xs => ∃ a us, v = .ref a ∧ H a = some (.lst us) ∧ Reps K F us xs ∧ F a = none ∧ P a = none
  | .bw _ => False
def spF (K : PySem.W.Frag) (n : Nat) (f : Fn) : Sp := fun vs H Q _ => vs.length = n ∧ ∃ (F : Hp) (gs : List Ag) (r : Vl) (os : List (List D)), Same F H ∧ AgsR K F H vs gs ∧ (liA vs gs).Nodup ∧ f gs = some (r, os) ∧ ∀ v H' F',
  Same F F' → Same F' H' → (∀ b o, H b = some o → b ∉ liA vs gs → H' b = some o) → (∀ b, F' b ≠ none → F b ≠ none ∨ H b = none) → OutsR K F' H' (liA vs gs) os → ResR K H F' H' v r → Q v H'

/-- the arguments of a call: data, or the number of the slot whose list is handed in -/
def ag1 : List Bool → List Vl → Rho → Option (List (D ⊕ Nat) × Rho)
  | _, [], ρ => some ([], ρ)
  | fs, r :: rs, ρ => if fs.headD false = true then (match r with
    | .bw i => (ag1 fs.tail rs ρ).bind fun p => some (.inr i :: p.1, p.2)
    | _ => none) else (frz ρ r).bind fun p => (ag1 fs.tail rs p.2).bind fun q => some (.inl p.1 :: q.1, q.2)
def own? (ρ : Rho) (i : Nat) : Option (List D) := match ρ[i]? with
  | some (.ow xs) => some xs
  | some (.io xs) => some xs
  | _ => none
def ag2 (ρ : Rho) : List (D ⊕ Nat) → Option (List Ag)
  | [] => some []
  | .inl x :: r => (ag2 ρ r).bind fun gs => some (.da x :: gs)
  | .inr i :: r => (own? ρ i).bind fun xs => (ag2 ρ r).bind fun gs => some (.li xs :: gs)
def agI : List (D ⊕ Nat) → List Nat
  | [] => []
  | .inl _ :: r => agI r
  | .inr i :: r => i :: agI r
def put (ρ : Rho) (i : Nat) (xs : List D) : Rho := match ρ[i]? with
  | some (.ow _) => ρ.set i (.ow xs)
  | some (.io _) => ρ.set i (.io xs)
  | _ => ρ
def puts : Rho → List Nat → List (List D) → Rho
  | ρ, i :: is, xs :: os => puts (put ρ i xs) is os
  | ρ, _, _ => ρ
def eCall (f : Fn) (fs : List Bool) (a : M (List Vl)) : M Vl := fun ρ => (a ρ).bind fun p => (ag1 fs p.1 p.2).bind fun q => (ag2 q.2 q.1).bind fun gs => if (agI q.1).Nodup then (f gs).bind fun z => match z.1 with
  | .bw _ => none
  | w => some (w, puts q.2 (agI q.1) z.2) else none

def TsR (K : PySem.W.Frag) (σ : L2.St) (F : Hp) : List V → List (D ⊕ Nat) → Prop
  | [], [] => True
  | v :: vs, .inl x :: r => Rep K F v x ∧ TsR K σ F vs r
  | v :: vs, .inr i :: r => σ[i]? = some (some v) ∧ TsR K σ F vs r
  | _, _ => False
section
variable {K : PySem.W.Frag} {G : Gd} {σ : L2.St} {H : Hp}
theorem ag1_frz {fs : List Bool} {r : Vl} {rs : List Vl} {v : V} {vs : List V} {ts : List (D ⊕ Nat)} {ρ ρ' : Rho} {F : Hp}
    (ih : ∀ {vs : List V} {ts : List (D ⊕ Nat)} {ρ ρ' : Rho} {F : Hp}, Wd K G ρ σ H F → VlSs K σ F vs rs → ag1 fs rs ρ = some (ts, ρ') → ∃ F', Ste K G ρ σ H F ρ' H F' ∧ TsR K σ F' vs ts)
    (W : Wd K G ρ σ H F) (h : VlSs K σ F (v :: vs) (r :: rs)) (e : ((frz ρ r).bind fun p => (ag1 fs rs p.2).bind fun q => some (.inl p.1 :: q.1, q.2)) = some (ts, ρ')) : ∃ F', Ste K G ρ σ H F ρ' H F' ∧ TsR K σ F' (v :: vs) ts := by
  obtain ⟨⟨x, ρ1⟩, e1, e⟩ := Option.bind_eq_some_iff.mp e
  obtain ⟨⟨ys, ρ2⟩, e2, e⟩ := Option.bind_eq_some_iff.mp e
  cases e
  obtain ⟨F1, s1, R1⟩ := frz_ok W h.1 e1
  obtain ⟨F2, s2, R2⟩ := ih s1.wd (h.2.ste s1) e2
  exact ⟨F2, s1.trans s2, R1.mono s2.ff, R2⟩
theorem ag1_ok : ∀ {rs : List Vl} {fs : List Bool} {vs : List V} {ts : List (D ⊕ Nat)} {ρ ρ' : Rho} {F : Hp}, Wd K G ρ σ H F → VlSs K σ F vs rs → ag1 fs rs ρ = some (ts, ρ') → ∃ F', Ste K G ρ σ H F ρ' H F' ∧ TsR K σ F' vs ts
  | [], fs, [], ts, ρ, ρ', F, W, _, e => by
    unfold ag1 at e
    cases e
    exact ⟨F, Ste.refl W, trivial⟩
  | [], _, _ :: _, _, _, _, _, _, h, _ => h.elim
  | _ :: _, _, [], _, _, _, _, _, h, _ => h.elim
  | r :: rs, fs, v :: vs, ts, ρ, ρ', F, W, h, e => by
    unfold ag1 at e
    split at e
    · cases r with
      | bw i =>
        obtain ⟨⟨ys, ρ2⟩, e2, e⟩ := Option.bind_eq_some_iff.mp e
        cases e
        obtain ⟨F2, s2, R2⟩ := ag1_ok W h.2 e2
        exact ⟨F2, s2, h.1, R2⟩
      | fz x => cases e
      | fr x => exact h.1.elim
    · exact ag1_frz (fs := fs.tail) ag1_ok W h e

theorem own_sl {ρ : Rho} {i : Nat} {xs : List D} (h : own? ρ i = some xs) : ρ[i]? = some (.ow xs) ∨ ρ[i]? = some (.io xs) := by
  unfold own? at h
  split at h
  · cases h; rename_i e; exact .inl e
  · cases h; rename_i e; exact .inr e
  · cases h
theorem ag2_ok {ρ : Rho} {F : Hp} (W : Wd K G ρ σ H F) : ∀ {ts : List (D ⊕ Nat)} {vs : List V} {gs : List Ag}, TsR K σ F vs ts → ag2 ρ ts = some gs →
    AgsR K F H vs gs ∧ (liA vs gs).length = (agI ts).length ∧ ∀ (k i : Nat) (a : Addr), (agI ts)[k]? = some i → (liA vs gs)[k]? = some a → Ow ρ σ i a
  | [], [], gs, _, e => by
    cases e
    exact ⟨trivial, rfl, fun k i a h _ => by simp [agI] at h⟩
  | [], _ :: _, _, h, _ => h.elim
  | .inl _ :: _, [], _, h, _ => h.elim
  | .inr _ :: _, [], _, h, _ => h.elim
  | .inl x :: ts, v :: vs, gs, h, e => by
    unfold ag2 at e
    obtain ⟨g2, e2, e⟩ := Option.bind_eq_some_iff.mp e
    cases e
    obtain ⟨h1, h2, h3⟩ := ag2_ok W h.2 e2
    have q : liA (v :: vs) (.da x :: g2) = liA vs g2 := by cases v <;> rfl
    exact ⟨⟨h.1, h1⟩, by rw [q]; exact h2, by rw [q]; exact h3⟩
  | .inr i :: ts, v :: vs, gs, h, e => by
    unfold ag2 at e
    obtain ⟨xs, e1, e⟩ := Option.bind_eq_some_iff.mp e
    obtain ⟨g2, e2, e⟩ := Option.bind_eq_some_iff.mp e
    cases e
    obtain ⟨h1, h2, h3⟩ := ag2_ok W h.2 e2
    have hv := h.1
    have sl := own_sl e1
    have key : ∃ a us, v = .ref a ∧ H a = some (.lst us) ∧ Reps K F us xs ∧ F a = none := by
      rcases sl with q | q
      · obtain ⟨a, us, z, p1, p2, p3, _⟩ := W.sl i _ q
        rw [hv] at z; cases z
        exact ⟨a, us, rfl, p1, p2, p3⟩
      · obtain ⟨a, us, z, p1, p2, p3, _⟩ := W.sl i _ q
        rw [hv] at z; cases z
        exact ⟨a, us, rfl, p1, p2, p3⟩
    obtain ⟨a, us, rfl, p1, p2, p3⟩ := key
    refine ⟨⟨⟨a, us, rfl, p1, p2, p3⟩, h1⟩, ?_, fun k j b q1 q2 => ?_⟩
    · show (a :: liA vs g2).length = (i :: agI ts).length
      rw [List.length_cons, List.length_cons, h2]
    · cases k with
      | zero =>
        have q1 : some i = some j := q1
        have q2 : some a = some b := q2
        cases q1; cases q2
        exact ⟨⟨xs, sl⟩, hv⟩
      | succ k => exact h3 k j b q1 q2
theorem put_len (ρ : Rho) (i : Nat) (xs : List D) : (put ρ i xs).length = ρ.length := by
  unfold put
  split <;> simp
theorem puts_len : ∀ (is : List Nat) (os : List (List D)) (ρ : Rho), (puts ρ is os).length = ρ.length
  | [], _, ρ => by unfold puts; rfl
  | _ :: _, [], ρ => by unfold puts; rfl
  | i :: is, xs :: os, ρ => by
    show (puts (put ρ i xs) is os).length = ρ.length
    rw [puts_len is os, put_len]
theorem put_ne {ρ : Rho} {i j : Nat} {xs : List D} (h : j ≠ i) : (put ρ i xs)[j]? = ρ[j]? := by
  unfold put
  split
  · rw [List.getElem?_set_ne (Ne.symm h)]
  · rw [List.getElem?_set_ne (Ne.symm h)]
  · rfl
theorem put_self {ρ : Rho} {i : Nat} {xs ys : List D} : (ρ[i]? = some (.ow ys) → (put ρ i xs)[i]? = some (.ow xs)) ∧ (ρ[i]? = some (.io ys) → (put ρ i xs)[i]? = some (.io xs)) := by
  constructor
  · intro h
    have hi := (List.getElem?_eq_some_iff.mp h).1
    unfold put
    rw [h]
    exact List.getElem?_set_self hi
  · intro h
    have hi := (List.getElem?_eq_some_iff.mp h).1
    unfold put
    rw [h]
    exact List.getElem?_set_self hi
theorem puts_ne : ∀ {is : List Nat} {os : List (List D)} {ρ : Rho} {j : Nat}, j ∉ is → (puts ρ is os)[j]? = ρ[j]?
  | [], _, ρ, j, _ => by unfold puts; rfl
  | _ :: _, [], ρ, j, _ => by unfold puts; rfl
  | i :: is, xs :: os, ρ, j, h => by
    show (puts (put ρ i xs) is os)[j]? = ρ[j]?
    rw [puts_ne fun z => h (List.mem_cons_of_mem _ z), put_ne fun z => h (by rw [z]; exact List.mem_cons_self)]
theorem puts_at : ∀ {is : List Nat} {os : List (List D)} {ρ : Rho} {k j : Nat} {xs : List D}, is.Nodup → is[k]? = some j → os[k]? = some xs → ∀ ys, (ρ[j]? = some (.ow ys) → (puts ρ is os)[j]? = some (.ow xs)) ∧ (ρ[j]? = some (.io ys) → (puts ρ is os)[j]? = some (.io xs))
  | [], _, _, _, _, _, _, h, _, _ => by simp at h
  | _ :: _, [], _, _, _, _, _, _, h, _ => by simp at h
  | i :: is, zs :: os, ρ, 0, j, xs, nd, h1, h2, ys => by
    simp at h1 h2
    subst h1; subst h2
    have nj := (List.nodup_cons.mp nd).1
    show (_ → (puts (put ρ i zs) is os)[i]? = _) ∧ (_ → (puts (put ρ i zs) is os)[i]? = _)
    rw [puts_ne nj]
    exact put_self
  | i :: is, zs :: os, ρ, k + 1, j, xs, nd, h1, h2, ys => by
    have ni := (List.nodup_cons.mp nd).1
    have h1 : is[k]? = some j := by simpa using h1
    have h2 : os[k]? = some xs := by simpa using h2
    have ne : j ≠ i := fun z => ni (by rw [← z]; exact List.mem_of_getElem? h1)
    have q := puts_at (ρ := put ρ i zs) (List.nodup_cons.mp nd).2 h1 h2 ys
    rw [put_ne ne] at q
    exact q
theorem OutsR.get {F : Hp} : ∀ {as : List Addr} {os : List (List D)} {k : Nat} {a : Addr}, OutsR K F H as os → as[k]? = some a → ∃ xs, os[k]? = some xs ∧ ∃ us, H a = some (.lst us) ∧ Reps K F us xs ∧ F a = none
  | [], _, _, _, _, h => by simp at h
  | _ :: _, [], _, _, h, _ => h.elim
  | b :: as, xs :: os, 0, a, h, e => by
    simp at e; subst e
    exact ⟨xs, rfl, h.1⟩
  | b :: as, xs :: os, k + 1, a, h, e => by
    obtain ⟨ys, e1, e2⟩ := OutsR.get (k := k) h.2 (by simpa using e)
    exact ⟨ys, by simpa using e1, e2⟩
/-- behind a call -/
theorem after_call {ρ : Rho} {F F' H' : Hp} {is : List Nat} {as : List Addr} {os : List (List D)} (W : Wd K G ρ σ H F) (nd : is.Nodup) (hl : as.length = is.length) (ow : ∀ (k i : Nat) (a : Addr), is[k]? = some i → as[k]? = some a → Ow ρ σ i a)
    (ff : Same F F') (sub : Same F' H') (kp : ∀ b o, H b = some o → b ∉ as → H' b = some o) (nf : ∀ b, F' b ≠ none → F b ≠ none ∨ H b = none) (outs : OutsR K F' H' as os) : Ste K G ρ σ H F (puts ρ is os) H' F' := by
  have memO : ∀ b, b ∈ as → ∃ i, Ow ρ σ i b := fun b hb => by
    obtain ⟨k, hk, e⟩ := List.mem_iff_getElem.mp hb
    have hk2 : k < is.length := by omega
    exact ⟨is[k], ow k is[k] b (List.getElem?_eq_getElem hk2) (by rw [List.getElem?_eq_getElem hk, e])⟩
  have tr : ∀ b, H b ≠ none → H' b ≠ none := fun b h => by
    by_cases hb : b ∈ as
    · obtain ⟨k, hk, e⟩ := List.mem_iff_getElem.mp hb
      obtain ⟨xs, _, us, z, _⟩ := outs.get (k := k) (a := b) (by rw [List.getElem?_eq_getElem hk, e])
      rw [z]; simp
    · cases e : H b with
      | none => exact absurd e h
      | some o => rw [kp b o e hb]; simp
  have fn : ∀ {a : Addr} {vs : List V}, H a = some (.lst vs) → F a = none → F' a = none := fun {a vs} h1 h2 => by
    cases e : F' a with
    | none => rfl
    | some o =>
      rcases nf a (by rw [e]; simp) with q | q
      · exact absurd h2 q
      · rw [h1] at q; cases q
  -- a slot behind the call
  have slot : ∀ j s, (puts ρ is os)[j]? = some s → SlR K G σ H' F' j s ∧ ∀ a, Ow (puts ρ is os) σ j a → Ow ρ σ j a := fun j s hs => by
    by_cases hj : j ∈ is
    · obtain ⟨k, hk, e⟩ := List.mem_iff_getElem.mp hj
      have hk2 : k < as.length := by omega
      have ik : is[k]? = some j := by rw [List.getElem?_eq_getElem hk, e]
      have o := ow k j as[k] ik (List.getElem?_eq_getElem hk2)
      obtain ⟨xs, ox, us, u1, u2, u3⟩ := outs.get (List.getElem?_eq_getElem hk2)
      obtain ⟨⟨ys, q⟩, q2⟩ := id o
      have pa := puts_at (ρ := ρ) nd ik ox ys
      rcases q with q | q
      · have z := pa.1 q
        rw [hs] at z; cases z
        obtain ⟨a, vs, e1, e2, _, e4, e5⟩ := W.sl j _ q
        rw [q2] at e1
        cases e1
        exact ⟨⟨_, us, q2, u1, u2, u3, e5⟩, fun b ob => ⟨⟨ys, .inl q⟩, ob.2⟩⟩
      · have z := pa.2 q
        rw [hs] at z; cases z
        obtain ⟨a, vs, e1, e2, _, e4, e5⟩ := W.sl j _ q
        rw [q2] at e1
        cases e1
        exact ⟨⟨_, us, q2, u1, u2, u3, e5⟩, fun b ob => ⟨⟨ys, .inr q⟩, ob.2⟩⟩
    · have eq : (puts ρ is os)[j]? = ρ[j]? := puts_ne hj
      rw [eq] at hs
      refine ⟨?_, fun a ob => by
        obtain ⟨⟨ys, o1⟩, o2⟩ := ob
        rw [eq] at o1
        exact ⟨⟨ys, o1⟩, o2⟩⟩
      have q := W.sl j s hs
      have na : ∀ {a : Addr} {ys : List D}, (ρ[j]? = some (.ow ys) ∨ ρ[j]? = some (.io ys)) → σ[j]? = some (some (.ref a)) → a ∉ as := fun {a ys} h1 h2 hm => by
        obtain ⟨k, hk, e⟩ := List.mem_iff_getElem.mp hm
        have hk2 : k < is.length := by omega
        have o := ow k is[k] a (List.getElem?_eq_getElem hk2) (by rw [List.getElem?_eq_getElem hk, e])
        have z := W.ap j is[k] a ⟨⟨ys, h1⟩, h2⟩ o
        exact hj (by rw [z]; exact List.getElem_mem hk2)
      cases s with
      | no => trivial
      | xa b dx f => exact ⟨q.1, q.2.mono ff⟩
      | d x => obtain ⟨v, e, r⟩ := q; exact ⟨v, e, r.mono ff⟩
      | ow ys => obtain ⟨a, vs, e, p1, p2, p3, p4⟩ := q; exact ⟨a, vs, e, kp a _ p1 (na (.inl hs) e), p2.mono ff, fn p1 p3, p4⟩
      | io ys => obtain ⟨a, vs, e, p1, p2, p3, p4⟩ := q; exact ⟨a, vs, e, kp a _ p1 (na (.inr hs) e), p2.mono ff, fn p1 p3, p4⟩
  have oo : ∀ i a, Ow (puts ρ is os) σ i a → Ow ρ σ i a := fun i a o => by
    obtain ⟨⟨ys, o1⟩, o2⟩ := id o
    rcases o1 with o1 | o1
    · exact (slot i _ o1).2 a o
    · exact (slot i _ o1).2 a o
  refine ⟨⟨by rw [puts_len]; exact W.len, W.gl, sub, W.f0.trans ff, fun b o h q => ?_, fun b h => ?_, fun b h => tr b (W.it b h), fun j s h => (slot j s h).1, fun i j a o1 o2 => W.ap i j a (oo i a o1) (oo j a o2), fun i a z => ?_⟩, ff, fun b o h n => kp b o h fun hm => ?_, fun b h => (nf b h).elim .inl fun q => .inr (.inl q), oo, tr⟩
  · refine kp b o (W.kp b o h q) fun hm => ?_
    obtain ⟨i, ob⟩ := memO b hm
    obtain ⟨⟨ys, o1⟩, o2⟩ := ob
    rcases o1 with o1 | o1
    · obtain ⟨a, vs, e1, _, _, _, e5⟩ := W.sl i _ o1
      rw [o2] at e1; cases e1
      rw [h] at e5; cases e5
    · obtain ⟨a, vs, e1, _, _, _, e5⟩ := W.sl i _ o1
      rw [o2] at e1; cases e1
      exact q (List.mem_map_of_mem (f := (·.2)) e5)
  · rcases nf b h with q | q
    · exact W.nw b q
    · exact .inr (W.h0 q)
  · obtain ⟨⟨ys, z1⟩, z2⟩ := W.ai i a z
    refine ⟨?_, z2⟩
    by_cases hj : i ∈ is
    · obtain ⟨k, hk, e⟩ := List.mem_iff_getElem.mp hj
      have hk2 : k < as.length := by omega
      obtain ⟨xs, ox, _⟩ := outs.get (List.getElem?_eq_getElem hk2)
      exact ⟨xs, (puts_at nd (by rw [List.getElem?_eq_getElem hk, e]) ox ys).2 z1⟩
    · exact ⟨ys, by rw [puts_ne hj]; exact z1⟩
  · obtain ⟨i, ob⟩ := memO b hm
    exact n i ob
end

section
variable {X : Cx} {e : Expr} {es : List Expr} {ms : M (List Vl)} {f : Fn} {fs : List Bool} {x : Str} {p pos : Pos} {fa : Addr} {fd : FuncData} {ps : List Str} {k n : Nat}
theorem VlSs.len {K : PySem.W.Frag} {σ : L2.St} {F : Hp} : ∀ {vs : List V} {rs : List Vl}, VlSs K σ F vs rs → vs.length = rs.length
  | [], [], _ => rfl
  | [], _ :: _, h => h.elim
  | _ :: _, [], h => h.elim
  | _ :: _, _ :: _, h => by rw [List.length_cons, List.length_cons, VlSs.len h.2]
theorem AgsR.len {K : PySem.W.Frag} {F H : Hp} : ∀ {vs : List V} {gs : List Ag}, AgsR K F H vs gs → vs.length = gs.length
  | [], [], _ => rfl
  | [], .da _ :: _, h => h.elim
  | [], .li _ :: _, h => h.elim
  | _ :: _, [], h => h.elim
  | _ :: _, .da _ :: _, h => by rw [List.length_cons, List.length_cons, AgsR.len h.2]
  | _ :: _, .li _ :: _, h => by rw [List.length_cons, List.length_cons, AgsR.len h.2]
theorem tcall_core {K : PySem.W.Frag} {G : Gd} {ρ ρ' : Rho} {F : Hp} {r0 : Vl} {E : XK} (hn : ∀ gs z, f gs = some z → gs.length = n) {σ : L2.St} {H : Hp} {Q : VK} (W : Wd K G ρ σ H F) (hm : eCall f fs ms ρ = some (r0, ρ'))
    (q : ∀ v H' F', Ste K G ρ σ H F ρ' H' F' → VlR K G H ρ' σ H' F' v r0 → Q v H') : ∃ rs ρ1, ms ρ = some (rs, ρ1) ∧ ∀ vs H1 F1, Ste K G ρ σ H F ρ1 H1 F1 → VlSs K σ F1 vs rs → spF K n f vs H1 Q E := by
  unfold eCall at hm
  obtain ⟨⟨rs, ρ1⟩, e1, hm⟩ := Option.bind_eq_some_iff.mp hm
  obtain ⟨⟨ts, ρ2⟩, e2, hm⟩ := Option.bind_eq_some_iff.mp hm
  obtain ⟨gs, e3, hm⟩ := Option.bind_eq_some_iff.mp hm
  split at hm
  · rename_i nd
    obtain ⟨⟨z, os⟩, e4, hm⟩ := Option.bind_eq_some_iff.mp hm
    refine ⟨rs, ρ1, e1, fun vs H1 F1 s1 R1 => ?_⟩
    obtain ⟨F2, s2, R2⟩ := ag1_ok s1.wd R1 e2
    obtain ⟨A1, A2, A3⟩ := ag2_ok s2.wd R2 e3
    have s12 := s1.trans s2
    refine ⟨by rw [A1.len]; exact hn _ _ e4, F2, gs, z, os, s2.wd.sub, A1, ?_, e4, fun v H' F' ff sub kp nf outs res => ?_⟩
    · rw [List.nodup_iff_pairwise_ne, List.pairwise_iff_getElem]
      intro i j hi hj hij e
      have o1 := A3 i (agI ts)[i] (liA vs gs)[i] (List.getElem?_eq_getElem (by omega)) (List.getElem?_eq_getElem hi)
      have o2 := A3 j (agI ts)[j] (liA vs gs)[j] (List.getElem?_eq_getElem (by omega)) (List.getElem?_eq_getElem hj)
      rw [← e] at o2
      have eq := s2.wd.ap _ _ _ o1 o2
      have := (List.getElem_inj nd).mp eq
      omega
    · have s3 := after_call s2.wd nd A2 A3 ff sub kp nf outs
      have s13 := s12.trans s3
      cases z with
      | fz x => cases hm; exact q v H' F' s13 res
      | bw i => cases hm
      | fr xs =>
        cases hm
        obtain ⟨a, us, e5, u1, u2, u3, u4⟩ := res
        refine q v H' F' s13 ⟨a, us, e5, u1, u2, u3, s12.back a u4, fun i o => ?_⟩
        obtain ⟨_, z, _⟩ := s12.wd.ow_there (s3.oo i a o)
        rw [u4] at z; cases z
  · cases hm
theorem tcall_of {K : PySem.W.Frag} {dvs : List V} {E : XK} (hn : ∀ gs z, f gs = some z → gs.length = n) {σ : L2.St} {H : Hp} {Q : VK} (h : tM K (eCall f fs ms) σ H Q) : tCall (spF K n f) [] E (tMA K ms) σ H Q := by
  obtain ⟨G, ρ, F, r0, ρ', W, hm, q⟩ := h
  obtain ⟨rs, ρ1, e1, w⟩ := tcall_core (E := E) hn W hm q
  exact ⟨G, ρ, F, rs, ρ1, W, e1, fun vs H1 F1 s1 R1 => by show spF K n f (vs ++ []) H1 Q E; rw [List.append_nil]; exact w vs H1 F1 s1 R1⟩
theorem se_call (F : FnOk X.prog X.w X.K X.mg X.base CX0 k fa fd ps (spF X.K n f)) (hn : ∀ gs z, f gs = some z → gs.length = n) (hr : Room k X.A) (hm : X.mg x = some (.ref fa)) (hk : PySem.W.keepIn X.K (.ref fa) = true) (hb : Binds X.K fd ps []) (hg : Gl X x)
    (ha : SA X (e :: es) ms) (hdb : (x == ("__debug__" : Str)) = false := by decide) (he : starEach (e :: es) X.env = (false, eval e X.env) :: starEach es X.env := by rfl) (hpl : (backTo pos (starEach es X.env)).any (·.1) = false := by rfl) :
    SE X (.Call (.Name x p) (e :: es) [] pos) (eCall f fs ms) := pe_weak (pe_call F hr hg hm hk hb .nil pass0 ha hdb he hpl) fun _ _ _ h => tcall_of (dvs := []) hn h
theorem se_call0 (F : FnOk X.prog X.w X.K X.mg X.base CX0 k fa fd ps (spF X.K n f)) (hn : ∀ gs z, f gs = some z → gs.length = n) (hr : Room k X.A) (hm : X.mg x = some (.ref fa)) (hk : PySem.W.keepIn X.K (.ref fa) = true) (hb : Binds X.K fd ps []) (hg : Gl X x)
    (hdb : (x == ("__debug__" : Str)) = false := by decide) : SE X (.Call (.Name x p) [] [] pos) (eCall f fs aNil) := pe_weak (pe_call0 F hr hg hm hk hb .nil pass0 hdb) fun σ H Q h => by
  obtain ⟨G, ρ, F, r, ρ', W, hm, q⟩ := tcall_of (dvs := []) (E := E0) hn h
  cases hm
  exact q [] H F (Ste.refl W) trivial
end
end Sw
namespace Sw
open PySem PySem.Spec PyProof.Rows L2

/-- an exception of a class of the program: its class by name, its one field (none: without a dict of its own) -/
structure Exn where
  c : PySem.Str
  f : Option (PySem.Str × D)
def ExR (K : PySem.W.Frag) (F : Hp) (cls : Value) (d : Option Addr) (x : Exn) : Prop := ∃ C, ClsN K x.c C ∧ cls = .ref C ∧ (x.f = none → d = none) ∧ (x.f ≠ none → ∃ dx, d = some dx ∧ XaR K F dx x.f)
inductive Fl where
  | nx | rt (v : Vl) | bk | ct
  /-- an exception goes out -/
  | ex (x : Exn)
abbrev S := Rho → Option (Fl × Rho)
/-- what is wanted of an exception that goes out: nothing is promised -/
def WF : WX := fun _ _ _ _ => False
def EdR (K : PySem.W.Frag) (Wx : WX) (G : Gd) (D : Ends) (fl : Fl) (ρ' : Rho) (F : Hp) : Prop := ∀ (σ' : L2.St) (H' F' : Hp), Wd K G ρ' σ' H' F' → Same F F' → match fl with
  | .nx => D.nx σ' H'
  | .bk => D.bk σ' H'
  | .ct => D.ct σ' H'
  | .rt r => ∀ v, ResR K G.H0 F' H' v r → D.rt v H'
  | .ex x => ∀ cls d, ExR K F' cls d x → Wx cls d σ' H'
def tSW (K : PySem.W.Frag) (Wx : WX) (m : S) : TS := fun D σ H => ∃ G ρ F fl ρ', Wd K G ρ σ H F ∧ m ρ = some (fl, ρ') ∧ EdR K Wx G D fl ρ' F
abbrev SSW (X : Cx) (Wx : WX) (st : Stmt) (m : S) : Prop := PS X st (tSW X.K Wx m)
abbrev SBW (X : Cx) (Wx : WX) (st : List Stmt) (m : S) : Prop := PSs X st (tSW X.K Wx m)
abbrev SB (X : Cx) (st : List Stmt) (m : S) : Prop := SBW X WF st m
theorem ps_weak {X : Cx} {st : Stmt} {t t' : TS} (h : PS X st t) (w : ∀ D σ H, t' D σ H → t D σ H) : PS X st t' := ⟨fun pins s σ H D I q => h.run pins s σ H D I (w _ _ _ q)⟩
theorem pss_weak {X : Cx} {st : List Stmt} {t t' : TS} (h : PSs X st t) (w : ∀ D σ H, t' D σ H → t D σ H) : PSs X st t' := ⟨fun pins s σ H D I q => h.run pins s σ H D I (w _ _ _ q)⟩

def sNx : S := fun ρ => some (.nx, ρ)
def sBk : S := fun ρ => some (.bk, ρ)
def sCt : S := fun ρ => some (.ct, ρ)
def sSeq (a b : S) : S := fun ρ => (a ρ).bind fun p => match p.1 with
  | .nx => b p.2
  | fl => some (fl, p.2)
def sIf (t : M Bool) (a b : S) : S := fun ρ => (t ρ).bind fun p => if p.1 = true then a p.2 else b p.2
def sRet (m : M Vl) : S := fun ρ => (m ρ).bind fun p => match p.1 with
  | .bw i => match p.2[i]? with
    | some (.ow xs) => some (.rt (.fr xs), p.2)
    | _ => none
  | r => some (.rt r, p.2)
def sDrop (m : M Vl) : S := fun ρ => (m ρ).bind fun p => some (.nx, p.2)
/-- a name's slot takes a value -/
def asg (i : Nat) (r : Vl) (ρ : Rho) : Option Rho := match ρ[i]? with
  | some (.io _) => none
  | none => none
  | some _ => match r with
    | .fz x => some (ρ.set i (.d x))
    | .fr xs => some (ρ.set i (.ow xs))
    | .bw j => (frz ρ (.bw j)).bind fun p => some (p.2.set i (.d p.1))
def sAsg (i : Nat) (m : M Vl) : S := fun ρ => (m ρ).bind fun p => (asg i p.1 p.2).bind fun ρ2 => some (.nx, ρ2)

section
variable {K : PySem.W.Frag} {G : Gd} {ρ : Rho} {σ : L2.St} {H F : Hp} {v : V}
theorem Wd.set {i : Nat} {s s0 : Sl} (W : Wd K G ρ σ H F) (h0 : ρ[i]? = some s0) (nio : ∀ xs, s0 ≠ .io xs) (nio2 : ∀ xs, s ≠ .io xs) (hs : SlR K G (σ.set i (some v)) H F i s) (ap : ∀ xs a, s = .ow xs → v = .ref a → ∀ j, ¬ Ow ρ σ j a) : Wd K G (ρ.set i s) (σ.set i (some v)) H F := by
  have hi : i < ρ.length := (List.getElem?_eq_some_iff.mp h0).1
  have hiσ : i < σ.length := by rw [← W.len]; exact hi
  have old : ∀ {j : Nat} {a : Addr}, j ≠ i → Ow (ρ.set i s) (σ.set i (some v)) j a → Ow ρ σ j a := fun {j a} ne o => by
    obtain ⟨⟨ys, o1⟩, o2⟩ := o
    rw [List.getElem?_set_ne (Ne.symm ne)] at o1 o2
    exact ⟨⟨ys, o1⟩, o2⟩
  have new : ∀ {a : Addr}, Ow (ρ.set i s) (σ.set i (some v)) i a → ∀ j, ¬ Ow ρ σ j a := fun {a} o => by
    obtain ⟨⟨ys, o1⟩, o2⟩ := o
    rw [List.getElem?_set_self hi] at o1
    rw [List.getElem?_set_self hiσ] at o2
    cases o2
    rcases o1 with o1 | o1
    · cases o1; exact ap ys a rfl rfl
    · cases o1; exact absurd rfl (nio2 ys)
  refine ⟨by rw [List.length_set, List.length_set]; exact W.len, by rw [List.length_set]; exact W.gl, W.sub, W.f0, W.kp, W.nw, W.it, fun j s' h => ?_, fun j k a o1 o2 => ?_, fun j a z => ?_⟩
  · by_cases ne : j = i
    · subst ne
      rw [List.getElem?_set_self hi] at h
      cases h
      exact hs
    · rw [List.getElem?_set_ne (Ne.symm ne)] at h
      have q := W.sl j s' h
      have eσ : (σ.set i (some v))[j]? = σ[j]? := List.getElem?_set_ne (Ne.symm ne)
      cases s' with
      | no => trivial
      | xa b dx f => exact ⟨eσ.trans q.1, q.2⟩
      | d x => obtain ⟨u, e, r⟩ := q; exact ⟨u, eσ.trans e, r⟩
      | ow ys => obtain ⟨a, us, e, p⟩ := q; exact ⟨a, us, eσ.trans e, p⟩
      | io ys => obtain ⟨a, us, e, p⟩ := q; exact ⟨a, us, eσ.trans e, p⟩
  · by_cases nj : j = i
    · by_cases nk : k = i
      · rw [nj, nk]
      · rw [nj] at o1
        exact absurd (old nk o2) (new o1 k)
    · by_cases nk : k = i
      · rw [nk] at o2
        exact absurd (old nj o1) (new o2 j)
      · exact W.ap j k a (old nj o1) (old nk o2)
  · obtain ⟨⟨ys, z1⟩, z2⟩ := W.ai j a z
    have ne : j ≠ i := fun e => by
      rw [e, h0] at z1
      cases z1
      exact nio ys rfl
    exact ⟨⟨ys, by rw [List.getElem?_set_ne (Ne.symm ne)]; exact z1⟩, by rw [List.getElem?_set_ne (Ne.symm ne)]; exact z2⟩
theorem asg_ok {i : Nat} {r : Vl} {ρ' : Rho} {P : Hp} (W : Wd K G ρ σ H F) (hP : ∀ a, P a = none → G.H0 a = none) (R : VlR K G P ρ σ H F v r) (e : asg i r ρ = some ρ') : ∃ F', Wd K G ρ' (σ.set i (some v)) H F' ∧ Same F F' := by
  unfold asg at e
  split at e
  · cases e
  · cases e
  · rename_i s0 nio h0
    have hi : i < ρ.length := (List.getElem?_eq_some_iff.mp h0).1
    have hiσ : i < σ.length := by rw [← W.len]; exact hi
    have self : (σ.set i (some v))[i]? = some (some v) := List.getElem?_set_self hiσ
    have nio : ∀ xs, s0 ≠ .io xs := fun xs z => nio xs z
    cases r with
    | fz x =>
      cases e
      exact ⟨F, W.set h0 nio (fun _ z => nomatch z) ⟨v, self, R⟩ (fun _ _ z => nomatch z), Same.refl _⟩
    | fr xs =>
      cases e
      obtain ⟨a, vs, rfl, h1, h2, h3, h4, h5⟩ := R
      exact ⟨F, W.set h0 nio (fun _ z => nomatch z) ⟨a, vs, self, h1, h2, h3, hP a h4⟩ (fun ys b _ z => by cases z; exact h5), Same.refl _⟩
    | bw j =>
      obtain ⟨⟨x, ρ1⟩, e1, e⟩ := Option.bind_eq_some_iff.mp e
      cases e
      obtain ⟨F1, s1, R1⟩ := frz_ok W (v := v) (r := .bw j) R e1
      have h0' : ∃ s1, ρ1[i]? = some s1 ∧ ∀ xs, s1 ≠ .io xs := by
        simp only [frz] at e1
        split at e1
        · simp at e1
          obtain ⟨rfl, rfl⟩ := e1
          by_cases q : i = j
          · subst q
            exact ⟨_, List.getElem?_set_self hi, fun _ z => nomatch z⟩
          · exact ⟨s0, by rw [List.getElem?_set_ne (Ne.symm q)]; exact h0, nio⟩
        · cases e1
      obtain ⟨s', hs', nio'⟩ := h0'
      exact ⟨F1, s1.wd.set hs' nio' (fun _ z => nomatch z) ⟨v, self, R1⟩ (fun _ _ z => nomatch z), s1.ff⟩
theorem asg_fz {i : Nat} {x : D} {ρ' : Rho} (W : Wd K G ρ σ H F) (R : Rep K F v x) (e : asg i (.fz x) ρ = some ρ') : Wd K G ρ' (σ.set i (some v)) H F := by
  unfold asg at e
  split at e
  · cases e
  · cases e
  · rename_i s0 nio h0
    have hi : i < ρ.length := (List.getElem?_eq_some_iff.mp h0).1
    have hiσ : i < σ.length := by rw [← W.len]; exact hi
    cases e
    exact W.set h0 (fun xs z => nio xs z) (fun _ z => nomatch z) ⟨v, List.getElem?_set_self hiσ, R⟩ (fun _ _ z => nomatch z)
theorem Ste.pre0 {ρ1 : Rho} {H1 F1 : Hp} (W : Wd K G ρ σ H F) : ∀ a, H a = none → G.H0 a = none := fun _ h => W.h0 h
end

/-! ### plain statements -/
section
variable {X : Cx} {Wx : WX} {st : Stmt} {rest : List Stmt} {m m1 m2 : S} {e c : Expr} {me : M Vl} {mt : M Bool} {pos : Pos}
theorem sb_nil : SBW X Wx [] sNx := pss_weak pss_nil fun D σ H ⟨G, ρ, F, fl, ρ', W, hm, q⟩ => by
  cases hm
  exact q σ H F W (Same.refl _)
theorem sb_one (h : SSW X Wx st m) : SBW X Wx [st] m := pss_one h
theorem sb_cons (h1 : SSW X Wx st m1) (h2 : SBW X Wx rest m2) : SBW X Wx (st :: rest) (sSeq m1 m2) := by
  refine pss_weak (pss_cons h1 h2) fun D σ H ⟨G, ρ, F, fl, ρ', W, hm, q⟩ => ?_
  unfold sSeq at hm
  obtain ⟨⟨f1, ρ1⟩, e1, hm⟩ := Option.bind_eq_some_iff.mp hm
  refine ⟨G, ρ, F, f1, ρ1, W, e1, fun σ' H' F' W' ff => ?_⟩
  cases f1 with
  | nx => exact ⟨G, ρ1, F', fl, ρ', W', hm, fun σ2 H2 F2 W2 f2 => q σ2 H2 F2 W2 (ff.trans f2)⟩
  | bk => cases hm; exact q σ' H' F' W' ff
  | ct => cases hm; exact q σ' H' F' W' ff
  | rt r => cases hm; exact q σ' H' F' W' ff
  | ex x => cases hm; exact q σ' H' F' W' ff
theorem ss_pass : SSW X Wx (.Pass pos) sNx := ps_weak ps_pass fun D σ H ⟨G, ρ, F, fl, ρ', W, hm, q⟩ => by
  cases hm
  exact q σ H F W (Same.refl _)
theorem ss_break : SSW X Wx (.Break pos) sBk := ps_weak ps_break fun D σ H ⟨G, ρ, F, fl, ρ', W, hm, q⟩ => by
  cases hm
  exact q σ H F W (Same.refl _)
theorem ss_continue : SSW X Wx (.Continue pos) sCt := ps_weak ps_continue fun D σ H ⟨G, ρ, F, fl, ρ', W, hm, q⟩ => by
  cases hm
  exact q σ H F W (Same.refl _)
theorem ss_if {a b : List Stmt} (hc : ST X c mt) (ha : SBW X Wx a m1) (hb : SBW X Wx b m2) : SSW X Wx (.If c a b pos) (sIf mt m1 m2) := by
  refine ps_weak (ps_if hc ha hb) fun D σ H ⟨G, ρ, F, fl, ρ', W, hm, q⟩ => ?_
  unfold sIf at hm
  obtain ⟨⟨x, ρ1⟩, e1, hm⟩ := Option.bind_eq_some_iff.mp hm
  refine tmt_use W e1 fun H1 F1 s1 => ?_
  cases x with
  | true => simp only [if_true] at hm ⊢; exact ⟨G, ρ1, F1, fl, ρ', s1.wd, hm, fun σ2 H2 F2 W2 f2 => q σ2 H2 F2 W2 (s1.ff.trans f2)⟩
  | false => simp at hm ⊢; exact ⟨G, ρ1, F1, fl, ρ', s1.wd, hm, fun σ2 H2 F2 W2 f2 => q σ2 H2 F2 W2 (s1.ff.trans f2)⟩
theorem ss_ret (h : SE X e me) : SSW X Wx (.Return (some e) pos) (sRet me) := by
  refine ps_weak (ps_ret h) fun D σ H ⟨G, ρ, F, fl, ρ', W, hm, q⟩ => ?_
  unfold sRet at hm
  obtain ⟨⟨r, ρ1⟩, e1, hm⟩ := Option.bind_eq_some_iff.mp hm
  refine ⟨G, ρ, F, r, ρ1, W, e1, fun v H1 F1 s1 R => ?_⟩
  cases r with
  | fz x => cases hm; exact q σ H1 F1 s1.wd s1.ff v R
  | fr xs =>
    cases hm
    obtain ⟨a, vs, e, h1, h2, h3, h4, _⟩ := R
    exact q σ H1 F1 s1.wd s1.ff v ⟨a, vs, e, h1, h2, h3, W.h0 h4⟩
  | bw i =>
    have R : σ[i]? = some (some v) := R
    dsimp only at hm
    split at hm
    · rename_i xs hx
      cases hm
      obtain ⟨a, vs, e2, h1, h2, h3, h4⟩ := s1.wd.sl i _ hx
      rw [R] at e2; cases e2
      exact q σ H1 F1 s1.wd s1.ff _ ⟨a, vs, rfl, h1, h2, h3, h4⟩
    · cases hm
def sRetN : S := fun ρ => some (.rt (.fz .non), ρ)
theorem ss_retN : SSW X Wx (.Return none pos) sRetN := ps_weak ps_retN fun D σ H ⟨G, ρ, F, fl, ρ', W, hm, q⟩ => by
  cases hm
  exact q σ H F W (Same.refl _) _ .non
theorem ss_doc {x j pos pos'} : SSW X Wx (.Expr (.Constant (.str x) j pos) pos') sNx := ps_weak ps_doc fun D σ H ⟨G, ρ, F, fl, ρ', W, hm, q⟩ => by
  cases hm
  exact q σ H F W (Same.refl _)
theorem ss_expr (h : SE X e me) (hs : swapsWith e none pos.line X.env = pure false := by rfl) : SSW X Wx (.Expr e pos) (sDrop me) := by
  refine ps_weak (ps_expr h hs) fun D σ H ⟨G, ρ, F, fl, ρ', W, hm, q⟩ => ?_
  unfold sDrop at hm
  obtain ⟨⟨r, ρ1⟩, e1, hm⟩ := Option.bind_eq_some_iff.mp hm
  cases hm
  exact ⟨G, ρ, F, r, ρ1, W, e1, fun v H1 F1 s1 R => q σ H1 F1 s1.wd s1.ff⟩
/-- what stores into a slot, as it was made -/
theorem sasg_of {K : PySem.W.Frag} {i : Nat} {D : Ends} {σ : L2.St} {H : Hp} (h : tSW K Wx (sAsg i me) D σ H) : tAsg (tM K me) (gName i) D σ H := by
  obtain ⟨G, ρ, F, fl, ρ', W, hm, q⟩ := h
  unfold sAsg at hm
  obtain ⟨⟨r, ρ1⟩, e1, hm⟩ := Option.bind_eq_some_iff.mp hm
  obtain ⟨ρ2, e2, hm⟩ := Option.bind_eq_some_iff.mp hm
  cases hm
  refine ⟨G, ρ, F, r, ρ1, W, e1, fun v H1 F1 s1 R => ?_⟩
  obtain ⟨F2, W2, f2⟩ := asg_ok s1.wd (fun a h => W.h0 h) R e2
  exact q (σ.set i (some v)) H1 F2 W2 (s1.ff.trans f2)
theorem ss_set {i : Nat} {x : Str} {pos' : Pos} (hN : X.N.Nodup) (hi : X.N[i]? = some x) (hx : Loc X.env.scope x) (he : SE X e me) (hs : swapsWith e (some (.Name x pos')) pos.line X.env = pure false := by rfl) (hf : X.fn x = true ∨ X.env.scope.names.lookup x = some .local := by first | exact .inl rfl | exact .inr rfl | assumption) :
    SSW X Wx (.Assign [.Name x pos'] e pos) (sAsg i me) := ps_weak (ps_set hN hi hx he hs hf) fun _ _ _ h => sasg_of h

/-! ### x.append(e), x[i] = e, x op= e -/
def sApp (i : Nat) (m : M Vl) : S := fun ρ => (own? ρ i).bind fun _ => (m ρ).bind fun p => (frz p.2 (stl p.1)).bind fun q => (own? q.2 i).bind fun xs => if xs.length < lim then some (.nx, put q.2 i (xs ++ [q.1])) else none
theorem Wd.own_at' {K : PySem.W.Frag} {G : Gd} {ρ : Rho} {σ : L2.St} {H F : Hp} {i : Nat} {xs : List D} (W : Wd K G ρ σ H F) (h : own? ρ i = some xs) : ∃ a, σ[i]? = some (some (.ref a)) ∧ ∃ vs, H a = some (.lst vs) ∧ Reps K F vs xs := by
  rcases own_sl h with q | q
  · obtain ⟨b, vs, e, p1, p2, _⟩ := W.sl i _ q
    exact ⟨b, e, vs, p1, p2⟩
  · obtain ⟨b, vs, e, p1, p2, _⟩ := W.sl i _ q
    exact ⟨b, e, vs, p1, p2⟩
theorem Wd.own_at {K : PySem.W.Frag} {G : Gd} {ρ : Rho} {σ : L2.St} {H F : Hp} {i : Nat} {xs : List D} (W : Wd K G ρ σ H F) (h : own? ρ i = some xs) : ∃ a, σ[i]? = some (some (.ref a)) ∧ ∃ vs, H a = some (.lst vs) :=
  let ⟨a, h1, vs, h2, _⟩ := W.own_at' h
  ⟨a, h1, vs, h2⟩
theorem Wd.put {K : PySem.W.Frag} {G : Gd} {ρ : Rho} {σ : L2.St} {H F : Hp} {i : Nat} {a : Addr} {us : List V} {xs ys : List D} (W : Wd K G ρ σ H F) (h : own? ρ i = some xs) (ha : σ[i]? = some (some (.ref a))) (r : Reps K F us ys) : Wd K G (put ρ i ys) σ (upd H a (.lst us)) F ∧ ∃ vs, H a = some (.lst vs) ∧ Reps K F vs xs := by
  have sl := own_sl h
  have o : Ow ρ σ i a := ⟨⟨xs, sl⟩, ha⟩
  obtain ⟨vs0, h1, h2⟩ := W.ow_there o
  have hv : ∃ vs, H a = some (.lst vs) ∧ Reps K F vs xs := by
    rcases sl with q | q
    · obtain ⟨b, vs, e, p1, p2, _⟩ := W.sl i _ q
      rw [ha] at e; cases e
      exact ⟨vs, p1, p2⟩
    · obtain ⟨b, vs, e, p1, p2, _⟩ := W.sl i _ q
      rw [ha] at e; cases e
      exact ⟨vs, p1, p2⟩
  have s := after_call (K := K) (G := G) (σ := σ) (H := H) (ρ := ρ) (F := F) (F' := F) (H' := upd H a (.lst us)) (is := [i]) (as := [a]) (os := [ys]) W (by simp) rfl (fun k j b e1 e2 => by
    cases k with
    | zero => simp at e1 e2; subst e1; subst e2; exact o
    | succ k => simp at e1) (Same.refl _) (fun b x e => by
      have nb : b ≠ a := fun z => by rw [z, h2] at e; cases e
      rw [upd_ne nb]; exact W.sub _ _ e) (fun b x e n => by
      have nb : b ≠ a := fun z => n (by rw [z]; exact List.mem_cons_self)
      rw [upd_ne nb]; exact e) (fun _ h => .inl h) ⟨⟨us, upd_same, r, h2⟩, trivial⟩
  exact ⟨s.wd, hv⟩
theorem ss_app {i : Nat} {o : Expr} {apos cpos : Pos} (ho : PE X o (tVar i)) (he : SE X e me)
    (hbase : attributeBase o "append" X.env (eval o X.env) = eval o X.env := by rfl)
    (hfew : ((backTo cpos (starEach [e] X.env)).all (fun x => !x.1) && (backToKw cpos (keywordEach [] X.env)).all (fun x => x.1.isSome)
      && decide ([e].length + ([] : List Keyword).length + (if ([] : List Keyword).isEmpty then 0 else 1) < 30)) = true := by rfl)
    (hline : (apos.endLine == cpos.line) = true := by rfl) (hst : starEach [e] X.env = (false, eval e X.env) :: starEach [] X.env := by rfl) (hplain : (backTo cpos (starEach [] X.env)).any (·.1) = false := by rfl)
    (hs : swapsWith (.Call (.Attribute o "append" apos) [e] [] cpos) none pos.line X.env = pure false := by rfl) :
    SSW X Wx (.Expr (.Call (.Attribute o "append" apos) [e] [] cpos) pos) (sApp i me) := by
  refine ps_weak (ps_expr (pe_bm PySem.F.plainAttrs_list PySem.F.slot_list_append PySem.F.type_list_append mt_append ho (pa_cons he pa_nil hst) hbase hfew hline hst hplain) hs) fun D σ H ⟨G, ρ, F, fl, ρ', W, hm, q⟩ => ?_
  unfold sApp at hm
  obtain ⟨xs0, e0, hm⟩ := Option.bind_eq_some_iff.mp hm
  obtain ⟨⟨r, ρ1⟩, e1, hm⟩ := Option.bind_eq_some_iff.mp hm
  obtain ⟨⟨x, ρ2⟩, e2, hm⟩ := Option.bind_eq_some_iff.mp hm
  obtain ⟨xs, e3, hm⟩ := Option.bind_eq_some_iff.mp hm
  obtain ⟨a, ha, vs0, hv0⟩ := W.own_at e0
  split at hm
  · rename_i hl
    cases hm
    refine ⟨.ref a, ha, .inl ⟨rfl, _, SqL.of hv0⟩, ?_⟩
    refine tm_use W e1 fun v H1 F1 s1 R1 => ?_
    obtain ⟨F2, s2, R2⟩ := frz_ok s1.wd R1 e2
    obtain ⟨b, hb, us, hu, ru⟩ := s2.wd.own_at' e3
    rw [ha] at hb; cases hb
    obtain ⟨W3, _⟩ := s2.wd.put (a := a) e3 ha (ru.append (.cons R2 .nil))
    exact ⟨a, us, v, rfl, rfl, hu, lim_lt (by rw [ru.len]; exact hl), q σ _ F2 W3 (s1.ff.trans s2.ff)⟩
  · cases hm
/-- x[i] = v, x a list of one's own -/
def ixD (n : Nat) (i : Int) : Option Nat := ixN n i
def sSetI (i : Nat) (mi mv : M Vl) : S := fun ρ => (mv ρ).bind fun p => (frz p.2 (stl p.1)).bind fun p1 => (own? p1.2 i).bind fun _ => (mi p1.2).bind fun p2 => match p2.1 with
  | .fz (.int k) => (own? p2.2 i).bind fun xs => (ixN xs.length k).bind fun j => some (.nx, put p2.2 i (xs.set j p1.1))
  | _ => none
theorem ss_seti {i : Nat} {o ei : Expr} {mi mv : M Vl} {spos : Pos} (ho : PE X o (tVar i)) (hi : SE X ei mi) (hv : SE X e mv)
    (ha : ∀ v, assign (.Subscript o ei spos) X.env v = (do
      let ov ← holding [v] (eval o X.env)
      let iv ← holding [v, ov] (eval ei X.env)
      standAt spos
      holding [v, ov, iv] (setItem ov iv v)
      release [v, ov, iv] []) := by intro _; rfl)
    (hs : swapsWithSole [.Subscript o ei spos] e pos.line X.env = pure false := by rfl) (hw : swappedStores [.Subscript o ei spos] e X.env = pure none := by rfl)
    (h1 : (assignEach [.Subscript o ei spos] X.env).map (·.2) = [assign (.Subscript o ei spos) X.env] := by rfl) :
    SSW X Wx (.Assign [.Subscript o ei spos] e pos) (sSetI i mi mv) := by
  refine ps_weak (ps_asg hv (pg_sub ho hi set_list ha) hs hw h1) fun D σ H ⟨G, ρ, F, fl, ρ', W, hm, q⟩ => ?_
  unfold sSetI at hm
  obtain ⟨⟨r, ρ1⟩, e1, hm⟩ := Option.bind_eq_some_iff.mp hm
  obtain ⟨⟨x, ρ2⟩, e2, hm⟩ := Option.bind_eq_some_iff.mp hm
  obtain ⟨xs0, e0, hm⟩ := Option.bind_eq_some_iff.mp hm
  obtain ⟨⟨y, ρ3⟩, e3, hm⟩ := Option.bind_eq_some_iff.mp hm
  refine tm_use W e1 fun v H1 F1 s1 R1 => ?_
  obtain ⟨F2, s2, R2⟩ := frz_ok s1.wd R1 e2
  obtain ⟨a, ha, _⟩ := s2.wd.own_at e0
  refine ⟨.ref a, ha, ?_⟩
  refine tm_use s2.wd e3 fun u H3 F3 s3 R3 => ?_
  split at hm
  · rename_i k hk
    dsimp only at hk
    subst hk
    obtain ⟨xs, e4, hm⟩ := Option.bind_eq_some_iff.mp hm
    obtain ⟨j, e5, hm⟩ := Option.bind_eq_some_iff.mp hm
    cases hm
    cases (show Rep X.K F3 u (.int k) from R3)
    obtain ⟨b, hb, us, hu, ru⟩ := s3.wd.own_at' e4
    rw [ha] at hb; cases hb
    obtain ⟨W4, _⟩ := s3.wd.put (a := a) e4 ha (Reps.set (R2.mono s3.ff) j ru)
    exact ⟨a, us, k, j, rfl, rfl, hu, by rw [ru.len]; exact e5, q σ _ F3 W4 ((s1.ff.trans s2.ff).trans s3.ff)⟩
  · cases hm
end
/-- a statement that is never reached -/
def sNo : S := fun _ => none
theorem ss_never {X : Cx} {st : Stmt} : SSW X Wx st sNo := ps_weak ps_never fun D σ H ⟨G, ρ, F, fl, ρ', W, hm, q⟩ => by cases hm
end Sw
namespace Sw
open PySem PySem.Spec PyProof.Rows L2

/-! ### targets -/
def Mod' (is : List Nat) (σ σ' : L2.St) : Prop := σ'.length = σ.length ∧ ∀ j : Nat, j ∉ is → σ'[j]? = σ[j]?
def tG (K : PySem.W.Frag) (is : List Nat) (g : D → Rho → Option Rho) : TG := fun v σ H Q => ∃ G ρ F x ρ', Wd K G ρ σ H F ∧ Rep K F v x ∧ g x ρ = some ρ' ∧ ∀ σ', Wd K G ρ' σ' H F → Mod' is σ σ' → Q σ' H
def tGs (K : PySem.W.Frag) (is : List Nat) (g : List D → Rho → Option Rho) : TGs := fun vs σ H Q => ∃ G ρ F xs ρ', Wd K G ρ σ H F ∧ Reps K F vs xs ∧ g xs ρ = some ρ' ∧ ∀ σ', Wd K G ρ' σ' H F → Mod' is σ σ' → Q σ' H
abbrev SG (X : Cx) (tg : Expr) (is : List Nat) (g : D → Rho → Option Rho) : Prop := PG X tg (tG X.K is g)
abbrev SGs (X : Cx) (tg : List Expr) (is : List Nat) (g : List D → Rho → Option Rho) : Prop := PGs X tg (tGs X.K is g)
theorem pg_weak {X : Cx} {e : Expr} {t t' : TG} (h : PG X e t) (w : ∀ v σ H Q, t' v σ H Q → t v σ H Q) : PG X e t' := ⟨fun pins s σ H v u Q I r q => h.run pins s σ H v u Q I r (w _ _ _ _ q)⟩
theorem pgs_weak {X : Cx} {e : List Expr} {t t' : TGs} (h : PGs X e t) (w : ∀ v σ H Q, t' v σ H Q → t v σ H Q) : PGs X e t' := ⟨fun pins s σ H v u Q I r q => h.run pins s σ H v u Q I r (w _ _ _ _ q)⟩
def gN (i : Nat) : D → Rho → Option Rho := fun x ρ => asg i (.fz x) ρ
def gsN : List D → Rho → Option Rho := fun xs ρ => match xs with
  | [] => some ρ
  | _ => none
def gsC (g : D → Rho → Option Rho) (r : List D → Rho → Option Rho) : List D → Rho → Option Rho := fun xs ρ => match xs with
  | x :: ys => (g x ρ).bind fun ρ1 => r ys ρ1
  | [] => none
def gT (n : Nat) (r : List D → Rho → Option Rho) : D → Rho → Option Rho := fun x ρ => match x with
  | .tup xs => if xs.length = n then r xs ρ else none
  | _ => none
theorem Mod'.set {σ : L2.St} (i : Nat) (v : Option V) : Mod' [i] σ (σ.set i v) := ⟨by rw [List.length_set], fun j h => List.getElem?_set_ne (fun z => h (by rw [z]; exact List.mem_cons_self))⟩
theorem Mod'.trans {is js : List Nat} {σ σ1 σ2 : L2.St} (a : Mod' is σ σ1) (b : Mod' js σ1 σ2) : Mod' (is ++ js) σ σ2 := ⟨b.1.trans a.1, fun j h => (b.2 j fun z => h (List.mem_append_right _ z)).trans (a.2 j fun z => h (List.mem_append_left _ z))⟩
section
variable {X : Cx} {pos : Pos}
theorem sg_name {i : Nat} {x : Str} (hN : X.N.Nodup) (hi : X.N[i]? = some x) (hx : Loc X.env.scope x) (hf : X.fn x = true ∨ X.env.scope.names.lookup x = some .local := by first | exact .inl rfl | exact .inr rfl | assumption) : SG X (.Name x pos) [i] (gN i) := by
  refine pg_weak (pg_name hN hi hx hf) fun v σ H Q ⟨G, ρ, F, y, ρ', W, R, e, q⟩ => ?_
  exact q _ (asg_fz W R e) (Mod'.set i _)
theorem sgs_nil : SGs X [] [] gsN := pgs_weak pgs_nil fun vs σ H Q ⟨G, ρ, F, xs, ρ', W, R, e, q⟩ => by
  cases R with
  | nil => cases e; exact ⟨rfl, q σ W ⟨rfl, fun _ _ => rfl⟩⟩
  | cons _ _ => cases e
theorem sgs_cons {e : Expr} {es : List Expr} {is js : List Nat} {g : D → Rho → Option Rho} {r : List D → Rho → Option Rho} (h1 : SG X e is g) (h2 : SGs X es js r)
    (hs : (assignEach (e :: es) X.env).map (·.2) = assign e X.env :: (assignEach es X.env).map (·.2) := by rfl) : SGs X (e :: es) (is ++ js) (gsC g r) := by
  refine pgs_weak (pgs_cons h1 h2 hs) fun vs σ H Q ⟨G, ρ, F, xs, ρ', W, R, e, q⟩ => ?_
  cases R with
  | nil => cases e
  | cons r1 r2 =>
    unfold gsC at e
    obtain ⟨ρ1, e1, e⟩ := Option.bind_eq_some_iff.mp e
    refine ⟨_, _, rfl, G, ρ, F, _, ρ1, W, r1, e1, fun σ1 W1 m1 => ?_⟩
    exact ⟨G, ρ1, F, _, ρ', W1, r2, e, fun σ2 W2 m2 => q σ2 W2 (m1.trans m2)⟩
theorem sg_tup {es : List Expr} {k n : Nat} {is : List Nat} {r : List D → Rho → Option Rho} (hc : X.calm = true) (h : SGs X es is r) (hn : (assignEach es X.env).length = n := by rfl) (hst : (assignEach es X.env).findIdx? (·.1) = none := by rfl) : SG X (.Tuple es k pos) is (gT n r) := by
  refine pg_weak (pg_tup hc h hn hst) fun v σ H Q ⟨G, ρ, F, x, ρ', W, R, e, q⟩ => ?_
  unfold gT at e
  split at e
  · split at e
    · rename_i hl
      cases R with
      | tup sq rs => exact ⟨_, _, rfl, same_t W.sub sq, by rw [rs.len]; exact hl, G, ρ, F, _, ρ', W, rs, e, q⟩
    · cases e
  · cases e
/-- a, b = e -/
def sAsgT (m : M Vl) (g : D → Rho → Option Rho) : S := fun ρ => (m ρ).bind fun p => match p.1 with
  | .fz x => (g x p.2).bind fun ρ2 => some (.nx, ρ2)
  | _ => none
theorem ss_asgT {tg e : Expr} {me : M Vl} {is : List Nat} {g : D → Rho → Option Rho} (he : SE X e me) (hg : SG X tg is g) (hs : swapsWithSole [tg] e pos.line X.env = pure false := by rfl) (hw : swappedStores [tg] e X.env = pure none := by rfl)
    (h1 : (assignEach [tg] X.env).map (·.2) = [assign tg X.env] := by rfl) : SSW X Wx (.Assign [tg] e pos) (sAsgT me g) := by
  refine ps_weak (ps_asg he hg hs hw h1) fun D σ H ⟨G, ρ, F, fl, ρ', W, hm, q⟩ => ?_
  unfold sAsgT at hm
  obtain ⟨⟨r, ρ1⟩, e1, hm⟩ := Option.bind_eq_some_iff.mp hm
  refine ⟨G, ρ, F, r, ρ1, W, e1, fun v H1 F1 s1 R => ?_⟩
  split at hm
  · rename_i x hx
    dsimp only at hx
    subst hx
    obtain ⟨ρ2, e2, hm⟩ := Option.bind_eq_some_iff.mp hm
    cases hm
    exact ⟨G, ρ1, F1, x, _, s1.wd, R, e2, fun σ2 W2 _ => q σ2 H1 F1 W2 s1.ff⟩
  · cases hm
end

/-! ### what is walked -/
structure JR (K : PySem.W.Frag) (J : It) (F : Hp) (xs : List D) : Prop where
  go : ∀ i H, Same F H → i < xs.length → J.go i H
  yl : ∀ i H F1 x H', i < xs.length → Same F F1 → Same F1 H → J.yld i H x H' → ∃ F2 d, Alc F1 H F2 H' ∧ xs[i]? = some d ∧ Rep K F2 x d
  st : ∀ i H, Same F H → xs.length ≤ i → J.stop i H
def tI (K : PySem.W.Frag) (m : M (List D)) : TI := fun σ H R => ∃ G ρ F xs ρ', Wd K G ρ σ H F ∧ m ρ = some (xs, ρ') ∧ ∀ J H' F', Ste K G ρ σ H F ρ' H' F' → JR K J F' xs → R J H'
abbrev SI (X : Cx) (tg iter : Expr) (m : M (List D)) : Prop := PI X tg iter (tI X.K m)
theorem pi_weak {X : Cx} {tg e : Expr} {t t' : TI} (h : PI X tg e t) (w : ∀ σ H R, t' σ H R → t σ H R) : PI X tg e t' := ⟨fun pins s σ H R I q => h.run pins s σ H R I (w _ _ _ q)⟩
theorem pi_or {X : Cx} {tg e : Expr} {t t' : TI} (h : PI X tg e t) (h' : PI X tg e t') : PI X tg e (fun σ H R => t σ H R ∨ t' σ H R) := ⟨fun pins s σ H R I q => q.elim (h.run pins s σ H R I) (h'.run pins s σ H R I)⟩
def itemsOf : D → Option (List D)
  | .lst xs => some xs
  | .tup xs => some xs
  | .str s => some (s.map fun c => .str [c])
  | .scr ns => some (ns.map .int)
  | _ => none
def iSq (m : M Vl) : M (List D) := fun ρ => (m ρ).bind fun p => (frz p.2 (stl p.1)).bind fun q => (itemsOf q.1).bind fun xs => some (xs, q.2)
theorem Reps.ints {K : PySem.W.Frag} {F : Hp} : ∀ ns : List Int, Reps K F (ns.map V.int) (ns.map D.int)
  | [] => .nil
  | n :: ns => .cons (.int n) (Reps.ints ns)
theorem jr_list {K : PySem.W.Frag} {F : Hp} {a : Addr} {vs : List V} {xs : List D} (h : SqL K F a vs) (r : Reps K F vs xs) : JR K (Itl K a) F xs where
  go := fun i H s hi => ⟨vs, vs[i]'(by rw [r.len]; exact hi), s.seq h, List.getElem?_eq_getElem _⟩
  yl := fun i H F1 x H' hi s1 s2 y => by
    obtain ⟨rfl, y⟩ := y
    have e := y vs (s2.seq (s1.seq h))
    obtain ⟨d, h1, h2⟩ := r.get e
    exact ⟨F1, d, Alc.refl s2, h1, h2.mono s1⟩
  st := fun i H s hi => ⟨vs, s.seq h, by rw [r.len]; exact hi⟩
theorem jr_tup {K : PySem.W.Frag} {F : Hp} {a : Addr} {vs : List V} {xs : List D} (h : SqT K F a vs) (r : Reps K F vs xs) : JR K (Itt K a) F xs where
  go := fun i H s hi => ⟨vs, vs[i]'(by rw [r.len]; exact hi), same_t s h, List.getElem?_eq_getElem _⟩
  yl := fun i H F1 x H' hi s1 s2 y => by
    obtain ⟨rfl, y⟩ := y
    have e := y vs (same_t s2 (same_t s1 h))
    obtain ⟨d, h1, h2⟩ := r.get e
    exact ⟨F1, d, Alc.refl s2, h1, h2.mono s1⟩
  st := fun i H s hi => ⟨vs, same_t s h, by rw [r.len]; exact hi⟩
theorem jr_str {K : PySem.W.Frag} {F : Hp} (s : List Nat) : JR K (Its ⟨s.toArray⟩) F (s.map fun c => .str [c]) where
  go := fun i H _ hi => by
    show i < (⟨s.toArray⟩ : Str).cps.size
    simpa using hi
  yl := fun i H F1 x H' hi s1 s2 y => by
    obtain ⟨rfl, c, e, rfl⟩ := y
    refine ⟨F1, .str [c], Alc.refl s2, ?_, .str [c]⟩
    have e : s[i]? = some c := by simpa using e
    rw [List.getElem?_map, e]
    rfl
  st := fun i H _ hi => by
    show (⟨s.toArray⟩ : Str).cps.size ≤ i
    simpa using hi
theorem jr_rng {K : PySem.W.Frag} {F : Hp} (lo : Int) (n : Nat) : JR K (Itr lo n) F ((List.range n).map fun (i : Nat) => .int (lo + (i : Int))) where
  go := fun i H _ hi => by
    show i < n
    simpa using hi
  yl := fun i H F1 x H' hi s1 s2 y => by
    obtain ⟨rfl, rfl⟩ := y
    have hi : i < n := by simpa using hi
    exact ⟨F1, .int (lo + (i : Int)), Alc.refl s2, by rw [List.getElem?_map, List.getElem?_range hi]; rfl, .int _⟩
  st := fun i H _ hi => by
    show n ≤ i
    simpa using hi
section
variable {X : Cx} {tg e : Expr} {me : M Vl} {pos p : Pos}
theorem si_seq (h : SE X e me) : SI X tg e (iSq me) := by
  refine pi_weak (pi_or (pi_list h) (pi_or (pi_tup h) (pi_str h))) fun σ H R ⟨G, ρ, F, xs, ρ', W, hm, q⟩ => ?_
  unfold iSq at hm
  obtain ⟨⟨r, ρ1⟩, e1, hm⟩ := Option.bind_eq_some_iff.mp hm
  obtain ⟨⟨x, ρ2⟩, e2, hm⟩ := Option.bind_eq_some_iff.mp hm
  obtain ⟨ys, e3, hm⟩ := Option.bind_eq_some_iff.mp hm
  cases hm
  cases x with
  | lst zs =>
    cases e3
    refine .inl (tm_use W e1 fun v H1 F1 s1 R1 => ?_)
    obtain ⟨F2, s2, R2⟩ := frz_ok s1.wd R1 e2
    cases R2 with
    | lst h1 h2 => exact ⟨_, rfl, ⟨_, SqL.of (s2.wd.sub _ _ h1)⟩, q _ _ F2 (s1.trans s2) (jr_list (SqL.of h1) h2)⟩
  | scr zs =>
    cases e3
    refine .inl (tm_use W e1 fun v H1 F1 s1 R1 => ?_)
    obtain ⟨F2, s2, R2⟩ := frz_ok s1.wd R1 e2
    cases R2 with
    | scr h1 => exact ⟨_, rfl, ⟨_, s2.wd.sub.seq h1⟩, q _ _ F2 (s1.trans s2) (jr_list h1 (Reps.ints _))⟩
  | tup zs =>
    cases e3
    refine .inr (.inl (tm_use W e1 fun v H1 F1 s1 R1 => ?_))
    obtain ⟨F2, s2, R2⟩ := frz_ok s1.wd R1 e2
    cases R2 with
    | tup h1 h2 => exact ⟨_, rfl, ⟨_, same_t s2.wd.sub h1⟩, q _ _ F2 (s1.trans s2) (jr_tup h1 h2)⟩
  | str zs =>
    cases e3
    refine .inr (.inr (tm_use W e1 fun v H1 F1 s1 R1 => ?_))
    obtain ⟨F2, s2, R2⟩ := frz_ok s1.wd R1 e2
    cases R2
    exact ⟨_, rfl, q _ _ F2 (s1.trans s2) (jr_str _)⟩
  | non => cases e3
  | bl b => cases e3
  | int i => cases e3
  | obj c ks xs => cases e3
/-- range(n), range(a, b) -/
def rngL (lo : Int) (n : Nat) : List D := (List.range n).map fun (i : Nat) => .int (lo + (i : Int))
def iR1 (a : M (List Vl)) : M (List D) := fun ρ => (a ρ).bind fun p => match p.1 with
  | [.fz (.int j)] => if -(2 ^ 62) ≤ j ∧ j < 2 ^ 62 then some (rngL 0 j.toNat, p.2) else none
  | _ => none
def iR2 (a : M (List Vl)) : M (List D) := fun ρ => (a ρ).bind fun p => match p.1 with
  | [.fz (.int i), .fz (.int j)] => if -(2 ^ 62) ≤ i ∧ i < 2 ^ 62 ∧ -(2 ^ 62) ≤ j ∧ j < 2 ^ 62 then some (rngL i (j - i).toNat, p.2) else none
  | _ => none
theorem vls1 {K : PySem.W.Frag} {σ : L2.St} {F : Hp} {vs : List V} {x : D} (h : VlSs K σ F vs [.fz x]) : ∃ v, vs = [v] ∧ Rep K F v x := by
  match vs, h with
  | [v], h => exact ⟨v, rfl, h.1⟩
theorem vls2 {K : PySem.W.Frag} {σ : L2.St} {F : Hp} {vs : List V} {x y : D} (h : VlSs K σ F vs [.fz x, .fz y]) : ∃ v u, vs = [v, u] ∧ Rep K F v x ∧ Rep K F u y := by
  match vs, h with
  | [v, u], h => exact ⟨v, u, rfl, h.1, h.2.1⟩
theorem si_range1 {a : Expr} {ma : M (List Vl)} (hm : X.mg "range" = none) (hg : Gl X "range") (ha : SA X [a] ma) (hs : starEach [a] X.env = [(false, eval a X.env)] := by rfl) : SI X tg (.Call (.Name "range" p) [a] [] pos) (iR1 ma) := by
  refine pi_weak (pi_range1 hg hm ha hs) fun σ H R ⟨G, ρ, F, xs, ρ', W, hm, q⟩ => ?_
  unfold iR1 at hm
  obtain ⟨⟨r, ρ1⟩, e1, hm⟩ := Option.bind_eq_some_iff.mp hm
  refine ⟨G, ρ, F, r, ρ1, W, e1, fun vs H1 F1 s1 R1 => ?_⟩
  split at hm
  · rename_i j hj
    dsimp only at hj
    subst hj
    split at hm
    · rename_i hb
      cases hm
      obtain ⟨v, rfl, Rv⟩ := vls1 R1
      cases Rv
      exact ⟨j, rfl, hb.1, hb.2, q _ _ F1 s1 (jr_rng 0 j.toNat)⟩
    · cases hm
  · cases hm
theorem si_range2 {a b : Expr} {ma : M (List Vl)} (hm : X.mg "range" = none) (hg : Gl X "range") (ha : SA X [a, b] ma) (hs : starEach [a, b] X.env = [(false, eval a X.env), (false, eval b X.env)] := by rfl) (hs2 : starEach [b] X.env = [(false, eval b X.env)] := by rfl) : SI X tg (.Call (.Name "range" p) [a, b] [] pos) (iR2 ma) := by
  refine pi_weak (pi_range2 hg hm ha hs hs2) fun σ H R ⟨G, ρ, F, xs, ρ', W, hm, q⟩ => ?_
  unfold iR2 at hm
  obtain ⟨⟨r, ρ1⟩, e1, hm⟩ := Option.bind_eq_some_iff.mp hm
  refine ⟨G, ρ, F, r, ρ1, W, e1, fun vs H1 F1 s1 R1 => ?_⟩
  split at hm
  · rename_i i j hj
    dsimp only at hj
    subst hj
    split at hm
    · rename_i hb
      cases hm
      obtain ⟨v, u, rfl, Rv, Ru⟩ := vls2 R1
      cases Rv
      cases Ru
      exact ⟨i, j, rfl, hb, q _ _ F1 s1 (jr_rng i (j - i).toNat)⟩
    · cases hm
  · cases hm
end

/-! ### for, while -/
def forM (g : D → Rho → Option Rho) (b : S) : List D → S
  | [], ρ => some (.nx, ρ)
  | x :: xs, ρ => (g x ρ).bind fun ρ1 => (b ρ1).bind fun p => match p.1 with
    | .nx => forM g b xs p.2
    | .ct => forM g b xs p.2
    | .bk => some (.nx, p.2)
    | .rt v => some (.rt v, p.2)
    | .ex x => some (.ex x, p.2)
def sFor (src : M (List D)) (g : D → Rho → Option Rho) (b : S) : S := fun ρ => (src ρ).bind fun p => forM g b p.1 p.2
section
variable {X : Cx} {tg iter c : Expr} {src : M (List D)} {is : List Nat} {g : D → Rho → Option Rho} {body : List Stmt} {b : S} {pos : Pos} {mt : M Bool}
theorem ss_for (hp : PassesOwn (model X.prog X.w) X.A X.env X.xe) (hc : X.calm = true) (hi : SI X tg iter src) (hg : SG X tg is g) (hb : SBW X Wx body b)
    (hs : ∀ x, foldedSetIterable iter X.env x = pure x := by intro _; rfl) : SSW X Wx (.For tg iter body [] pos) (sFor src g b) := by
  refine ps_weak (ps_for hp hc hi hg hb hs) fun D σ H ⟨G, ρ, F, fl, ρ', W, hm, q⟩ => ?_
  unfold sFor at hm
  obtain ⟨⟨xs, ρ1⟩, e1, hm⟩ := Option.bind_eq_some_iff.mp hm
  refine ⟨G, ρ, F, xs, ρ1, W, e1, fun J H1 F1 s1 jr => ?_⟩
  refine ⟨fun i m σ H => m = xs.length - i ∧ i ≤ xs.length ∧ ∃ ρi Fi, Wd X.K G ρi σ H Fi ∧ Same F1 Fi ∧ forM g b (xs.drop i) ρi = some (fl, ρ'), ⟨xs.length, by simp, Nat.zero_le _, ρ1, F1, s1.wd, Same.refl _, hm⟩, ?_⟩
  rintro i m σ2 H2 ⟨rfl, hi, ρi, Fi, Wi, ff, hf⟩
  by_cases hlt : i < xs.length
  · refine .inr ⟨jr.go i H2 (ff.trans Wi.sub) hlt, fun σ' H' => ∃ ρi Fi, Wd X.K G ρi σ' H' Fi ∧ Same F1 Fi ∧ forM g b (xs.drop (i + 1)) ρi = some (fl, ρ'), fun σ' H' ⟨ρj, Fj, a, b, c⟩ => ⟨xs.length - (i + 1), by omega, rfl, hlt, ρj, Fj, a, b, c⟩, fun x H' y => ?_⟩
    obtain ⟨F2, d, A, hd, Rd⟩ := jr.yl i H2 Fi x H' hlt ff Wi.sub y
    have s2 := Wi.alc A
    have ed : xs[i] = d := by
      rw [List.getElem?_eq_getElem hlt] at hd
      exact Option.some.inj hd
    rw [List.drop_eq_getElem_cons hlt, ed] at hf
    unfold forM at hf
    obtain ⟨ρ3, e3, hf⟩ := Option.bind_eq_some_iff.mp hf
    obtain ⟨⟨f4, ρ4⟩, e4, hf⟩ := Option.bind_eq_some_iff.mp hf
    refine ⟨G, ρi, F2, d, ρ3, s2.wd, Rd, e3, fun σ3 W3 _ => ?_⟩
    refine ⟨G, ρ3, F2, f4, ρ4, W3, e4, fun σ4 H4 F4 W4 f34 => ?_⟩
    have fall : Same F1 F4 := (ff.trans A.ff).trans f34
    cases f4 with
    | nx => exact ⟨ρ4, F4, W4, fall, hf⟩
    | ct => exact ⟨ρ4, F4, W4, fall, hf⟩
    | bk => cases hf; exact q σ4 H4 F4 W4 (s1.ff.trans fall)
    | rt v => cases hf; exact q σ4 H4 F4 W4 (s1.ff.trans fall)
    | ex x => cases hf; exact q σ4 H4 F4 W4 (s1.ff.trans fall)
  · have e : i = xs.length := by omega
    subst e
    rw [List.drop_length] at hf
    cases hf
    exact .inl ⟨jr.st _ H2 (ff.trans Wi.sub) (Nat.le_refl _), q σ2 H2 Fi Wi (s1.ff.trans ff)⟩
/-- while: as many turns as there are -/
def wh (t : M Bool) (b : S) : Nat → S
  | 0, _ => none
  | n + 1, ρ => (t ρ).bind fun p => if p.1 = true then (b p.2).bind fun q => (match q.1 with
    | .nx => wh t b n q.2
    | .ct => wh t b n q.2
    | .bk => some (.nx, q.2)
    | .rt v => some (.rt v, q.2)
    | .ex x => some (.ex x, q.2)) else some (.nx, p.2)
open Classical in
noncomputable def sWhile (t : M Bool) (b : S) : S := fun ρ => if h : ∃ n, (wh t b n ρ).isSome = true then wh t b h.choose ρ else none
theorem wh_mono {t : M Bool} {b : S} : ∀ {n : Nat} {ρ : Rho} {z : Fl × Rho}, wh t b n ρ = some z → wh t b (n + 1) ρ = some z
  | 0, _, _, h => by cases h
  | n + 1, ρ, z, h => by
    unfold wh at h ⊢
    obtain ⟨⟨c, ρ1⟩, e1, h⟩ := Option.bind_eq_some_iff.mp h
    rw [e1]
    simp only [Option.bind_some] at h ⊢
    split at h
    · rename_i hc
      rw [if_pos hc]
      obtain ⟨⟨fl, ρ2⟩, e2, h⟩ := Option.bind_eq_some_iff.mp h
      rw [e2]
      simp only [Option.bind_some] at h ⊢
      cases fl with
      | nx => exact wh_mono h
      | ct => exact wh_mono h
      | bk => exact h
      | rt v => exact h
      | ex x => exact h
    · rename_i hc
      rw [if_neg hc]
      exact h
theorem wh_le {t : M Bool} {b : S} {n m : Nat} {ρ : Rho} {z : Fl × Rho} (h : wh t b n ρ = some z) (hl : n ≤ m) : wh t b m ρ = some z := by
  induction hl with
  | refl => exact h
  | step _ ih => exact wh_mono ih
theorem sWhile_of {t : M Bool} {b : S} {n : Nat} {ρ : Rho} {z : Fl × Rho} (h : wh t b n ρ = some z) : sWhile t b ρ = some z := by
  have ex : ∃ n, (wh t b n ρ).isSome = true := ⟨n, by rw [h]; rfl⟩
  unfold sWhile
  rw [dif_pos ex]
  obtain ⟨y, hy⟩ := Option.isSome_iff_exists.mp ex.choose_spec
  rw [hy]
  rcases Nat.le_total n ex.choose with q | q
  · rw [wh_le h q] at hy
    exact hy.symm
  · rw [wh_le hy q] at h
    exact h
theorem of_sWhile {t : M Bool} {b : S} {ρ : Rho} {z : Fl × Rho} (h : sWhile t b ρ = some z) : ∃ n, wh t b n ρ = some z := by
  unfold sWhile at h
  split at h
  · exact ⟨_, h⟩
  · cases h
theorem ss_while (hp : PassesOwn (model X.prog X.w) X.A X.env X.xe) (hc : ST X c mt) (hb : SBW X Wx body b) : SSW X Wx (.While c body [] pos) (sWhile mt b) := by
  refine ps_weak (ps_while hp hc hb) fun D σ H ⟨G, ρ, F, fl, ρ', W, hm, q⟩ => ?_
  obtain ⟨n, hm⟩ := of_sWhile hm
  refine ⟨fun m σ H => ∃ ρi Fi, Wd X.K G ρi σ H Fi ∧ Same F Fi ∧ wh mt b m ρi = some (fl, ρ'), ⟨n, ρ, F, W, Same.refl _, hm⟩, ?_⟩
  rintro m σ2 H2 ⟨ρi, Fi, Wi, ff, hf⟩
  cases m with
  | zero => cases hf
  | succ m =>
    unfold wh at hf
    obtain ⟨⟨c1, ρ1⟩, e1, hf⟩ := Option.bind_eq_some_iff.mp hf
    refine tmt_use Wi e1 fun H3 F3 s3 => ?_
    cases c1 with
    | true =>
      simp only [if_true] at hf ⊢
      obtain ⟨⟨f4, ρ4⟩, e4, hf⟩ := Option.bind_eq_some_iff.mp hf
      refine ⟨fun σ' H' => ∃ ρi Fi, Wd X.K G ρi σ' H' Fi ∧ Same F Fi ∧ wh mt b m ρi = some (fl, ρ'), fun σ' H' z => ⟨m, Nat.lt_succ_self _, z⟩, G, ρ1, F3, f4, ρ4, s3.wd, e4, fun σ4 H4 F4 W4 f34 => ?_⟩
      have fall : Same F F4 := (ff.trans s3.ff).trans f34
      cases f4 with
      | nx => exact ⟨ρ4, F4, W4, fall, hf⟩
      | ct => exact ⟨ρ4, F4, W4, fall, hf⟩
      | bk => cases hf; exact q σ4 H4 F4 W4 fall
      | rt v => cases hf; exact q σ4 H4 F4 W4 fall
      | ex x => cases hf; exact q σ4 H4 F4 W4 fall
    | false =>
      simp at hf ⊢
      obtain ⟨rfl, rfl⟩ := hf
      exact q σ2 H3 F3 s3.wd (ff.trans s3.ff)
end

/-! ### a def -/
def slOf : Ag → Sl
  | .da x => .d x
  | .li xs => .io xs
def outsOf : List Ag → Rho → List (List D)
  | .li _ :: gs, .io xs :: ρ => xs :: outsOf gs ρ
  | _ :: gs, _ :: ρ => outsOf gs ρ
  | _, _ => []
def fnS (n nl : Nat) (b : S) : Fn := fun gs => if gs.length = n then (b (gs.map slOf ++ List.replicate (nl - n) .no)).bind fun p => (match p.1 with
  | .nx => some (.fz .non, outsOf gs p.2)
  | .rt (.fz x) => some (.fz x, outsOf gs p.2)
  | .rt (.fr x) => some (.fr x, outsOf gs p.2)
  | _ => none) else none
theorem fnS_len {n nl : Nat} {b : S} : ∀ gs z, fnS n nl b gs = some z → gs.length = n := fun gs z h => by
  unfold fnS at h
  split at h
  · assumption
  · cases h
/-- the slots whose lists are handed in -/
def iaOf : Nat → List V → List Ag → List (Nat × Addr)
  | i, .ref a :: vs, .li _ :: gs => (i, a) :: iaOf (i + 1) vs gs
  | i, _ :: vs, _ :: gs => iaOf (i + 1) vs gs
  | _, _, _ => []
section
variable {K : PySem.W.Frag} {F H : Hp}
theorem AgsR.at : ∀ {vs : List V} {gs : List Ag} {i : Nat} {g : Ag}, AgsR K F H vs gs → gs[i]? = some g → ∃ v, vs[i]? = some v ∧ (match g with
    | .da x => Rep K F v x
    | .li xs => ∃ a us, v = .ref a ∧ H a = some (.lst us) ∧ Reps K F us xs ∧ F a = none)
  | [], [], _, _, _, h => by simp at h
  | [], .da _ :: _, _, _, h, _ => h.elim
  | [], .li _ :: _, _, _, h, _ => h.elim
  | _ :: _, [], _, _, _, h => by simp at h
  | v :: vs, .da x :: gs, 0, g, h, e => by simp at e; subst e; exact ⟨v, rfl, h.1⟩
  | v :: vs, .li x :: gs, 0, g, h, e => by simp at e; subst e; exact ⟨v, rfl, h.1⟩
  | v :: vs, .da x :: gs, i + 1, g, h, e => AgsR.at (i := i) h.2 (by simpa using e)
  | v :: vs, .li x :: gs, i + 1, g, h, e => AgsR.at (i := i) h.2 (by simpa using e)
theorem iaOf_snd : ∀ {vs : List V} {gs : List Ag} (k : Nat), AgsR K F H vs gs → (iaOf k vs gs).map (·.2) = liA vs gs
  | [], [], _, _ => rfl
  | [], .da _ :: _, _, h => h.elim
  | [], .li _ :: _, _, h => h.elim
  | _ :: _, [], _, h => h.elim
  | v :: vs, .da x :: gs, k, h => by
    have e1 : iaOf k (v :: vs) (.da x :: gs) = iaOf (k + 1) vs gs := by cases v <;> rfl
    have e2 : liA (v :: vs) (.da x :: gs) = liA vs gs := by cases v <;> rfl
    rw [e1, e2]
    exact iaOf_snd (k + 1) h.2
  | v :: vs, .li x :: gs, k, h => by
    obtain ⟨⟨a, us, rfl, _⟩, h2⟩ := h
    show a :: (iaOf (k + 1) vs gs).map (·.2) = a :: liA vs gs
    rw [iaOf_snd (k + 1) h2]
theorem iaOf_mem : ∀ {vs : List V} {gs : List Ag} {k j : Nat} {a : Addr}, AgsR K F H vs gs → (j, a) ∈ iaOf k vs gs → ∃ i xs, j = k + i ∧ gs[i]? = some (.li xs) ∧ vs[i]? = some (.ref a)
  | [], [], _, _, _, _, h => by simp [iaOf] at h
  | [], .da _ :: _, _, _, _, h, _ => h.elim
  | [], .li _ :: _, _, _, _, h, _ => h.elim
  | _ :: _, [], _, _, _, h, _ => h.elim
  | v :: vs, .da x :: gs, k, j, a, h, e => by
    have e1 : iaOf k (v :: vs) (.da x :: gs) = iaOf (k + 1) vs gs := by cases v <;> rfl
    rw [e1] at e
    obtain ⟨i, xs, h1, h2, h3⟩ := iaOf_mem h.2 e
    exact ⟨i + 1, xs, by omega, by simpa using h2, by simpa using h3⟩
  | v :: vs, .li x :: gs, k, j, a, h, e => by
    obtain ⟨⟨b, us, rfl, _⟩, h2⟩ := h
    rcases List.mem_cons.mp (show (j, a) ∈ (k, b) :: iaOf (k + 1) vs gs from e) with q | q
    · cases q
      exact ⟨0, x, rfl, rfl, rfl⟩
    · obtain ⟨i, xs, h1, h3, h4⟩ := iaOf_mem h2 q
      exact ⟨i + 1, xs, by omega, by simpa using h3, by simpa using h4⟩
theorem mem_iaOf : ∀ {vs : List V} {gs : List Ag} {i : Nat} {a : Addr} {xs : List D} (k : Nat), AgsR K F H vs gs → gs[i]? = some (.li xs) → vs[i]? = some (.ref a) → (k + i, a) ∈ iaOf k vs gs
  | [], _, _, _, _, _, _, _, h => by simp at h
  | _ :: _, [], _, _, _, _, h, _, _ => h.elim
  | v :: vs, .da x :: gs, 0, a, xs, k, h, e, _ => by simp at e
  | v :: vs, .li x :: gs, 0, a, xs, k, h, e, e2 => by
    simp at e2; subst e2
    show (k + 0, a) ∈ (k, a) :: iaOf (k + 1) vs gs
    exact List.mem_cons_self
  | v :: vs, .da x :: gs, i + 1, a, xs, k, h, e, e2 => by
    have e1 : iaOf k (v :: vs) (.da x :: gs) = iaOf (k + 1) vs gs := by cases v <;> rfl
    rw [e1]
    have := mem_iaOf (k + 1) h.2 (i := i) (a := a) (xs := xs) (by simpa using e) (by simpa using e2)
    rw [show k + (i + 1) = k + 1 + i by omega]
    exact this
  | v :: vs, .li x :: gs, i + 1, a, xs, k, h, e, e2 => by
    obtain ⟨⟨b, us, rfl, _⟩, h2⟩ := h
    have := mem_iaOf (k + 1) h2 (i := i) (a := a) (xs := xs) (by simpa using e) (by simpa using e2)
    rw [show k + (i + 1) = k + 1 + i by omega]
    exact List.mem_cons_of_mem _ this
/-- the world at a def's entry -/
theorem wd_start {vs : List V} {gs : List Ag} {N : List Str} {n nl : Nat} (A : AgsR K F H vs gs) (nd : (liA vs gs).Nodup) (sub : Same F H) (hn : gs.length = n) (hl : N.length = nl) (hle : n ≤ nl) : Wd K ⟨H, F, iaOf 0 vs gs, nl⟩ (gs.map slOf ++ List.replicate (nl - n) .no) (start N vs) H F := by
  have lv : vs.length = n := A.len.trans hn
  have get : ∀ (i : Nat) (s : Sl), (gs.map slOf ++ List.replicate (nl - n) .no)[i]? = some s → (∃ g, gs[i]? = some g ∧ s = slOf g) ∨ s = .no := fun i s h => by
    by_cases hi : i < n
    · rw [List.getElem?_append_left (by rw [List.length_map, hn]; exact hi), List.getElem?_map] at h
      cases e : gs[i]? with
      | none => rw [e] at h; cases h
      | some g => rw [e] at h; cases h; exact .inl ⟨g, rfl, rfl⟩
    · rw [List.getElem?_append_right (by rw [List.length_map, hn]; omega), List.getElem?_replicate] at h
      split at h
      · cases h; exact .inr rfl
      · cases h
  have getv : ∀ (i : Nat) (v : V), vs[i]? = some v → (start N vs)[i]? = some (some v) := fun i v h => by
    have hi := (List.getElem?_eq_some_iff.mp h).1
    unfold L2.start
    rw [List.getElem?_append_left (by rw [List.length_map]; exact hi), List.getElem?_map, h]
    rfl
  have ow : ∀ i a, Ow (gs.map slOf ++ List.replicate (nl - n) .no) (start N vs) i a → (i, a) ∈ iaOf 0 vs gs ∧ i < vs.length := fun i a o => by
    obtain ⟨⟨xs, o1⟩, o2⟩ := o
    rcases o1 with o1 | o1
    · rcases get i _ o1 with ⟨g, _, e⟩ | e
      · cases g <;> cases e
      · cases e
    · rcases get i _ o1 with ⟨g, e1, e⟩ | e
      · cases g with
        | da x => cases e
        | li ys =>
          cases e
          obtain ⟨v, e2, b, us, rfl, _⟩ := A.at e1
          rw [getv i _ e2] at o2
          cases o2
          have := mem_iaOf 0 A e1 e2
          rw [Nat.zero_add] at this
          exact ⟨this, (List.getElem?_eq_some_iff.mp e2).1⟩
      · cases e
  have snd := iaOf_snd 0 A
  have lst : (start N vs).length = nl := by
    unfold L2.start
    rw [List.length_append, List.length_map, List.length_replicate, lv, hl]
    omega
  refine ⟨?_, lst, sub, Same.refl _, fun b o h _ => h, fun b h => .inl h, fun b h => ?_, fun i s h => ?_, fun i j a o1 o2 => ?_, fun i a h => ?_⟩
  · unfold L2.start
    rw [List.length_append, List.length_map, List.length_replicate, List.length_append, List.length_map, List.length_replicate, hn, lv, hl]
  · obtain ⟨⟨j, c⟩, h1, rfl⟩ := List.mem_map.mp h
    obtain ⟨i, xs, _, h2, h3⟩ := iaOf_mem A h1
    obtain ⟨v, e, b, us, rfl, hb, _⟩ := A.at h2
    rw [h3] at e; cases e
    show H c ≠ none
    rw [hb]; simp
  · rcases get i s h with ⟨g, e, rfl⟩ | rfl
    · obtain ⟨v, e2, q⟩ := A.at e
      cases g with
      | da x => exact ⟨v, getv i v e2, q⟩
      | li xs =>
        obtain ⟨a, us, rfl, h1, h2, h3⟩ := q
        have := mem_iaOf 0 A e e2
        rw [Nat.zero_add] at this
        exact ⟨a, us, getv i _ e2, h1, h2, h3, this⟩
    · trivial
  · have h1 := (ow i a o1).1
    have h2 := (ow j a o2).1
    have ndp : ((iaOf 0 vs gs).map (·.2)).Nodup := by rw [snd]; exact nd
    obtain ⟨p, hp, e1⟩ := List.mem_iff_getElem.mp h1
    obtain ⟨q, hq, e2⟩ := List.mem_iff_getElem.mp h2
    have e3 : ((iaOf 0 vs gs).map (·.2))[p]'(by rw [List.length_map]; exact hp) = ((iaOf 0 vs gs).map (·.2))[q]'(by rw [List.length_map]; exact hq) := by
      rw [List.getElem_map, List.getElem_map, e1, e2]
    have e4 := (List.getElem_inj ndp).mp e3
    subst e4
    rw [e1] at e2
    cases e2
    rfl
  · obtain ⟨j, xs, e, h2, h3⟩ := iaOf_mem A h
    rw [Nat.zero_add] at e
    subst e
    refine ⟨⟨xs, ?_⟩, getv i _ h3⟩
    have hi := (List.getElem?_eq_some_iff.mp h2).1
    rw [List.getElem?_append_left (by rw [List.length_map]; exact hi), List.getElem?_map, h2]
    rfl
theorem outs_ok {G : Gd} {σ : L2.St} {H' F' : Hp} : ∀ {vs : List V} {gs : List Ag} {ρ : Rho} (k : Nat), AgsR K F H vs gs → (∀ i s, ρ[i]? = some s → SlR K G σ H' F' (k + i) s) → (∀ i a xs, gs[i]? = some (.li xs) → vs[i]? = some (.ref a) → (∃ ys, ρ[i]? = some (.io ys)) ∧ σ[k + i]? = some (some (.ref a))) → gs.length ≤ ρ.length → OutsR K F' H' (liA vs gs) (outsOf gs ρ)
  | [], [], ρ, k, _, _, _, _ => by cases ρ <;> trivial
  | [], .da _ :: _, _, _, h, _, _, _ => h.elim
  | [], .li _ :: _, _, _, h, _, _, _ => h.elim
  | _ :: _, [], _, _, h, _, _, _ => h.elim
  | v :: vs, g :: gs, [], k, _, _, _, hl => by simp at hl
  | v :: vs, .da x :: gs, s :: ρ, k, h, h1, h2, hl => by
    have e2 : liA (v :: vs) (.da x :: gs) = liA vs gs := by cases v <;> rfl
    have e3 : outsOf (.da x :: gs) (s :: ρ) = outsOf gs ρ := by cases s <;> rfl
    rw [e2, e3]
    refine outs_ok (G := G) (σ := σ) (k + 1) h.2 (fun i s' e => ?_) (fun i a xs e e' => ?_) (by simpa using hl)
    · have := h1 (i + 1) s' (by simpa using e)
      rw [show k + 1 + i = k + (i + 1) by omega]
      exact this
    · have := h2 (i + 1) a xs (by simpa using e) (by simpa using e')
      rw [show k + 1 + i = k + (i + 1) by omega]
      simpa using this
  | v :: vs, .li x :: gs, s :: ρ, k, h, h1, h2, hl => by
    obtain ⟨⟨b, us, rfl, _⟩, hr⟩ := h
    obtain ⟨⟨ys, e0⟩, e1⟩ := h2 0 b x rfl rfl
    have e0 : s = .io ys := by simpa using e0
    subst e0
    obtain ⟨c, ws, f1, f2, f3, f4, _⟩ := h1 0 (.io ys) rfl
    rw [Nat.add_zero] at e1 f1
    rw [e1] at f1
    cases f1
    refine ⟨⟨ws, f2, f3, f4⟩, outs_ok (G := G) (σ := σ) (k + 1) hr (fun i s' e => ?_) (fun i a xs e e' => ?_) (by simpa using hl)⟩
    · have := h1 (i + 1) s' (by simpa using e)
      rw [show k + 1 + i = k + (i + 1) by omega]
      exact this
    · have := h2 (i + 1) a xs (by simpa using e) (by simpa using e')
      rw [show k + 1 + i = k + (i + 1) by omega]
      simpa using this
end
theorem fn_ok {P : Program} {w : World} {K : PySem.W.Frag} {mg : Str → Option Value} {base : Heap} {x qual : Str} {st : Stmt} {f : Addr} {fd : FuncData} {N ps : List Str} {k n nl : Nat} {m : S} (Fu : FunG K x qual st f fd) (Sc : FnScope N ps (defScope st)) (hn : ps.length = n) (hl : N.length = nl) (hle : n ≤ nl)
    (hb : ∀ (cdv : Value) (A : Around) (outer : List Env) (s : Shared) (H : Hp) (E : XK), Room k (A.deeper (envOfC qual (defScope st) s.heap.objs.size f cdv)) → SB (cxOf CX0 P w K mg base N qual (defScope st) f cdv A outer s H E).nox (defBody st) m) :
    FnOk P w K mg base CX0 (k + 1) f fd ps (spF K n (fnS n nl m)) := by
  refine Fu.ok Sc (fun vs H Q E h => by rw [h.1, hn]) (fun cdv A outer s H vs Q E hr h => ?_)
  obtain ⟨hv, F, gs, r, os, sub, AR, nd, hf, q⟩ := h
  refine ⟨_, hb cdv A outer s H E hr, ?_⟩
  unfold fnS at hf
  split at hf
  · rename_i hgs
    obtain ⟨⟨fl, ρ'⟩, e1, hf⟩ := Option.bind_eq_some_iff.mp hf
    have W := wd_start AR nd sub hgs hl hle
    have snd := iaOf_snd 0 AR
    have le : gs.length ≤ (gs.map slOf ++ List.replicate (nl - n) Sl.no).length := by rw [List.length_append, List.length_map]; omega
    have outs : ∀ {σ' : L2.St} {H' F' : Hp}, Wd K ⟨H, F, iaOf 0 vs gs, nl⟩ ρ' σ' H' F' → σ'.length = nl → OutsR K F' H' (liA vs gs) (outsOf gs ρ') := fun {σ' H' F'} W' hσ => by
      refine outs_ok (G := ⟨H, F, iaOf 0 vs gs, nl⟩) (σ := σ') 0 AR (fun i s' e => by rw [Nat.zero_add]; exact W'.sl i s' e) (fun i a xs h1 h2 => ?_) ?_
      · have := mem_iaOf 0 AR h1 h2
        have z := W'.ai _ _ this
        rw [Nat.zero_add] at z
        exact ⟨z.1, by rw [Nat.zero_add]; exact z.2⟩
      · have := W'.len
        omega
    refine ⟨⟨H, F, iaOf 0 vs gs, nl⟩, _, F, fl, ρ', W, e1, fun σ' H' F' W' ff => ?_⟩
    have kp : ∀ b o, H b = some o → b ∉ liA vs gs → H' b = some o := fun b o h h2 => W'.kp b o h (by rw [snd]; exact h2)
    have hσ : σ'.length = nl := W'.gl
    cases fl with
    | nx => cases hf; exact q _ H' F' ff W'.sub kp W'.nw (outs W' hσ) .non
    | bk => cases hf
    | ct => cases hf
    | ex x => cases hf
    | rt z =>
      cases z with
      | fz y => cases hf; exact fun v R => q v H' F' ff W'.sub kp W'.nw (outs W' hσ) R
      | fr y => cases hf; exact fun v R => q v H' F' ff W'.sub kp W'.nw (outs W' hσ) R
      | bw y => cases hf
  · cases hf
/-- no fuel: nothing is promised -/
theorem fn_ok0 {P : Program} {w : World} {K : PySem.W.Frag} {mg : Str → Option Value} {base : Heap} {x qual : Str} {st : Stmt} {f : Addr} {fd : FuncData} {N ps : List Str} {k n : Nat} (Fu : FunG K x qual st f fd) (Sc : FnScope N ps (defScope st)) (hn : ps.length = n) :
    FnOk P w K mg base CX0 (k + 1) f fd ps (spF K n fun _ => none) := by
  refine Fu.ok Sc (fun vs H Q E h => by rw [h.1, hn]) (fun cdv A outer s H vs Q E hr h => ?_)
  obtain ⟨hv, F, gs, r, os, sub, AR, nd, hf, q⟩ := h
  cases hf
end Sw
namespace Sw
open PySem PySem.Spec PyProof.Rows L2

/-! ### list comprehensions -/
def wipeR (ρ : Rho) : List Nat → Rho
  | [] => ρ
  | v :: vs => (wipeR ρ vs).set v .no
def backR (ρ0 ρ : Rho) : List Nat → Rho
  | [] => ρ
  | v :: vs => (backR ρ0 ρ vs).set v ((ρ0[v]?).getD .no)
def plainSl : Option Sl → Bool
  | some .no => true
  | some (.d _) => true
  | _ => false
def lcM (vs : List Nat) (g : D → Rho → Option Rho) (t : M Bool) (e : M Vl) : List D → List D → M (List D)
  | [], acc, ρ => some (acc, ρ)
  | x :: xs, acc, ρ => (g x ρ).bind fun ρ1 => (t ρ1).bind fun p => if p.1 = true then (e p.2).bind fun q => (frz q.2 (stl q.1)).bind fun z => if acc.length < lim then lcM vs g t e xs (acc ++ [z.1]) (wipeR z.2 vs) else none else lcM vs g t e xs acc (wipeR p.2 vs)
def eLc (vs : List Nat) (src : M (List D)) (g : D → Rho → Option Rho) (t : M Bool) (e : M Vl) : M Vl := fun ρ => (src ρ).bind fun p => if (vs.all fun v => plainSl p.2[v]?) = true then (lcM vs g t e p.1 [] (wipeR p.2 vs)).bind fun q => some (.fr q.1, backR p.2 q.2 vs) else none

theorem wipeR_len (ρ : Rho) : ∀ vs : List Nat, (wipeR ρ vs).length = ρ.length
  | [] => rfl
  | v :: vs => by unfold wipeR; rw [List.length_set, wipeR_len ρ vs]
theorem backR_len (ρ0 ρ : Rho) : ∀ vs : List Nat, (backR ρ0 ρ vs).length = ρ.length
  | [] => rfl
  | v :: vs => by unfold backR; rw [List.length_set, backR_len ρ0 ρ vs]
theorem wipeR_ne {ρ : Rho} {j : Nat} : ∀ {vs : List Nat}, j ∉ vs → (wipeR ρ vs)[j]? = ρ[j]?
  | [], _ => rfl
  | v :: vs, h => by
    unfold wipeR
    rw [List.getElem?_set_ne (fun z => h (by rw [z]; exact List.mem_cons_self)), wipeR_ne fun z => h (List.mem_cons_of_mem _ z)]
theorem wipeR_mem {ρ : Rho} {j : Nat} {s : Sl} : ∀ {vs : List Nat}, j ∈ vs → (wipeR ρ vs)[j]? = some s → s = .no
  | [], h, _ => nomatch h
  | v :: vs, h, e => by
    unfold wipeR at e
    by_cases q : v = j
    · subst q
      by_cases hl : v < (wipeR ρ vs).length
      · rw [List.getElem?_set_self hl] at e
        exact (Option.some.inj e).symm
      · rw [List.getElem?_eq_none (by rw [List.length_set]; omega)] at e
        cases e
    · rw [List.getElem?_set_ne q] at e
      rcases List.mem_cons.mp h with z | z
      · exact absurd z.symm q
      · exact wipeR_mem z e
theorem wipe_ne {σ : L2.St} {j : Nat} : ∀ {vs : List Nat}, j ∉ vs → (wipe σ vs)[j]? = σ[j]?
  | [], _ => rfl
  | v :: vs, h => by
    unfold wipe
    rw [List.getElem?_set_ne (fun z => h (by rw [z]; exact List.mem_cons_self)), wipe_ne fun z => h (List.mem_cons_of_mem _ z)]
theorem backR_ne {ρ0 ρ : Rho} {j : Nat} : ∀ {vs : List Nat}, j ∉ vs → (backR ρ0 ρ vs)[j]? = ρ[j]?
  | [], _ => rfl
  | v :: vs, h => by
    unfold backR
    rw [List.getElem?_set_ne (fun z => h (by rw [z]; exact List.mem_cons_self)), backR_ne fun z => h (List.mem_cons_of_mem _ z)]
theorem backR_mem {ρ0 ρ : Rho} {j : Nat} {s : Sl} : ∀ {vs : List Nat}, j ∈ vs → (backR ρ0 ρ vs)[j]? = some s → s = (ρ0[j]?).getD .no
  | [], h, _ => nomatch h
  | v :: vs, h, e => by
    unfold backR at e
    by_cases q : v = j
    · subst q
      by_cases hl : v < (backR ρ0 ρ vs).length
      · rw [List.getElem?_set_self hl] at e
        exact (Option.some.inj e).symm
      · rw [List.getElem?_eq_none (by rw [List.length_set]; omega)] at e
        cases e
    · rw [List.getElem?_set_ne q] at e
      rcases List.mem_cons.mp h with z | z
      · exact absurd z.symm q
      · exact backR_mem z e
section
variable {K : PySem.W.Frag} {G : Gd} {ρ ρ1 ρ2 : Rho} {σ : L2.St} {H H1 H2 F F1 F2 : Hp} {vs : List Nat}
/-- own slots forgotten (they hold no list of one's own) -/
theorem wd_wipe {σ' : L2.St} (W : Wd K G ρ σ H F) (hσ : ∀ j, j ∉ vs → σ'[j]? = σ[j]?) (hl : σ'.length = σ.length) (pl : ∀ v ∈ vs, ∀ s, ρ[v]? = some s → ∀ xs, s ≠ .io xs) : Wd K G (wipeR ρ vs) σ' H F := by
  have get : ∀ (j : Nat) (s : Sl), (wipeR ρ vs)[j]? = some s → s = .no ∨ (j ∉ vs ∧ ρ[j]? = some s) := fun j s h => by
    by_cases hj : j ∈ vs
    · exact .inl (wipeR_mem hj h)
    · rw [wipeR_ne hj] at h
      exact .inr ⟨hj, h⟩
  have ow : ∀ {j : Nat} {a : Addr}, Ow (wipeR ρ vs) σ' j a → Ow ρ σ j a := fun {j a} o => by
    obtain ⟨⟨ys, o1⟩, o2⟩ := o
    have nj : j ∉ vs := fun z => by
      rcases o1 with o1 | o1
      · cases wipeR_mem z o1
      · cases wipeR_mem z o1
    rw [wipeR_ne nj] at o1
    exact ⟨⟨ys, o1⟩, by rw [← hσ j nj]; exact o2⟩
  refine ⟨by rw [wipeR_len, hl]; exact W.len, by rw [hl]; exact W.gl, W.sub, W.f0, W.kp, W.nw, W.it, fun j s h => ?_, fun i j a o1 o2 => W.ap i j a (ow o1) (ow o2), fun j a h => ?_⟩
  · rcases get j s h with rfl | ⟨nj, h⟩
    · trivial
    · have q := W.sl j s h
      cases s with
      | no => trivial
      | xa b dx f => exact ⟨(hσ j nj).trans q.1, q.2⟩
      | d x => obtain ⟨u, e, r⟩ := q; exact ⟨u, (hσ j nj).trans e, r⟩
      | ow ys => obtain ⟨a, us, e, p⟩ := q; exact ⟨a, us, (hσ j nj).trans e, p⟩
      | io ys => obtain ⟨a, us, e, p⟩ := q; exact ⟨a, us, (hσ j nj).trans e, p⟩
  · obtain ⟨⟨ys, z1⟩, z2⟩ := W.ai j a h
    have nj : j ∉ vs := fun z => pl j z _ z1 ys rfl
    exact ⟨⟨ys, by rw [wipeR_ne nj]; exact z1⟩, by rw [hσ j nj]; exact z2⟩
theorem plain_of {v : Nat} (h : plainSl ρ[v]? = true) : ∀ s, ρ[v]? = some s → (∀ xs, s ≠ .io xs) ∧ ∀ xs, s ≠ .ow xs := fun s e => by
  rw [e] at h
  cases s with
  | no => exact ⟨fun _ z => (nomatch z), fun _ z => (nomatch z)⟩
  | xa b dx f => cases h
  | d x => exact ⟨fun _ z => (nomatch z), fun _ z => (nomatch z)⟩
  | ow xs => cases h
  | io xs => cases h
/-- back to the def's own slots -/
theorem unwipe (W : Wd K G ρ σ H F) (pl : ∀ v ∈ vs, plainSl ρ[v]? = true) (s : Ste K G (wipeR ρ vs) (wipe σ vs) H F ρ2 H2 F2) : Ste K G ρ σ H F (backR ρ ρ2 vs) H2 F2 := by
  have ow1 : ∀ {j : Nat} {a : Addr}, Ow ρ σ j a → Ow (wipeR ρ vs) (wipe σ vs) j a := fun {j a} o => by
    obtain ⟨⟨ys, o1⟩, o2⟩ := o
    have nj : j ∉ vs := fun z => by
      rcases o1 with o1 | o1
      · exact (plain_of (pl j z) _ o1).2 ys rfl
      · exact (plain_of (pl j z) _ o1).1 ys rfl
    exact ⟨⟨ys, by rw [wipeR_ne nj]; exact o1⟩, by rw [wipe_ne nj]; exact o2⟩
  have ow1' : ∀ {j : Nat} {a : Addr}, Ow (wipeR ρ vs) (wipe σ vs) j a → Ow ρ σ j a := fun {j a} o => by
    obtain ⟨⟨ys, o1⟩, o2⟩ := o
    have nj : j ∉ vs := fun z => by
      rcases o1 with o1 | o1
      · cases wipeR_mem z o1
      · cases wipeR_mem z o1
    rw [wipeR_ne nj] at o1
    rw [wipe_ne nj] at o2
    exact ⟨⟨ys, o1⟩, o2⟩
  have ow2 : ∀ {j : Nat} {a : Addr}, Ow (backR ρ ρ2 vs) σ j a → Ow ρ2 (wipe σ vs) j a := fun {j a} o => by
    obtain ⟨⟨ys, o1⟩, o2⟩ := o
    have nj : j ∉ vs := fun z => by
      have pp := pl j z
      rcases o1 with o1 | o1
      · have e := backR_mem z o1
        cases q : ρ[j]? with
        | none => rw [q] at e; cases e
        | some s => rw [q] at e; exact (plain_of pp s q).2 ys e.symm
      · have e := backR_mem z o1
        cases q : ρ[j]? with
        | none => rw [q] at e; cases e
        | some s => rw [q] at e; exact (plain_of pp s q).1 ys e.symm
    rw [backR_ne nj] at o1
    exact ⟨⟨ys, o1⟩, by rw [wipe_ne nj]; exact o2⟩
  have W2 := s.wd
  refine ⟨⟨by rw [backR_len, W2.len, wipe_length], W.gl, W2.sub, W2.f0, W2.kp, W2.nw, W2.it, fun j s' h => ?_, fun i j a o1 o2 => W2.ap i j a (ow2 o1) (ow2 o2), fun j a h => ?_⟩, s.ff, fun b o h n => s.kk b o h fun i z => n i (ow1' z), fun b h => ?_, fun i a o => ow1' (s.oo i a (ow2 o)), s.tr⟩
  · by_cases hj : j ∈ vs
    · have e := backR_mem hj h
      have pp := pl j hj
      cases q : ρ[j]? with
      | none => rw [q] at e; rw [e]; trivial
      | some s0 =>
        rw [q] at e
        have e : s' = s0 := e
        subst e
        have old := W.sl j s' q
        cases s' with
        | no => trivial
        | xa b dx f => exact ⟨old.1, old.2.mono s.ff⟩
        | d x => obtain ⟨u, e, r⟩ := old; exact ⟨u, e, r.mono s.ff⟩
        | ow xs => exact absurd rfl ((plain_of pp _ q).2 xs)
        | io xs => exact absurd rfl ((plain_of pp _ q).1 xs)
    · rw [backR_ne hj] at h
      have q := W2.sl j s' h
      have eσ : (wipe σ vs)[j]? = σ[j]? := wipe_ne hj
      cases s' with
      | no => trivial
      | xa b dx f => exact ⟨eσ.symm.trans q.1, q.2⟩
      | d x => obtain ⟨u, e, r⟩ := q; exact ⟨u, eσ.symm.trans e, r⟩
      | ow ys => obtain ⟨a, us, e, p⟩ := q; exact ⟨a, us, eσ.symm.trans e, p⟩
      | io ys => obtain ⟨a, us, e, p⟩ := q; exact ⟨a, us, eσ.symm.trans e, p⟩
  · obtain ⟨⟨ys, z1⟩, z2⟩ := W.ai j a h
    have nj : j ∉ vs := fun z => (plain_of (pl j z) _ z1).1 ys rfl
    obtain ⟨⟨ws, y1⟩, _⟩ := W2.ai j a h
    exact ⟨⟨ws, by rw [backR_ne nj]; exact y1⟩, z2⟩
  · rcases s.nf b h with q | q | ⟨i, q⟩
    · exact .inl q
    · exact .inr (.inl q)
    · exact .inr (.inr ⟨i, ow1' q⟩)
/-- a new thing that no slot owns is changed -/
theorem ste_upd {a : Addr} {o : HO} (W : Wd K G ρ σ H F) (s : Ste K G ρ σ H F ρ2 H2 F2) (h1 : H a = none) (h2 : F2 a = none) (h3 : ∀ i, ¬ Ow ρ2 σ i a) : Ste K G ρ σ H F ρ2 (upd H2 a o) F2 := by
  have W2 := s.wd
  have nm : a ∉ G.ia.map (·.2) := fun z => W.it a z h1
  refine ⟨⟨W2.len, W2.gl, fun b x e => ?_, W2.f0, fun b x e q => ?_, W2.nw, fun b z => ?_, fun j s' h => ?_, W2.ap, W2.ai⟩, s.ff, fun b x e n => ?_, s.nf, s.oo, fun b z => ?_⟩
  · have nb : b ≠ a := fun z => by rw [z, h2] at e; cases e
    rw [upd_ne nb]; exact W2.sub _ _ e
  · have nb : b ≠ a := fun z => by
      have := W.h0 h1
      rw [← z, e] at this; cases this
    rw [upd_ne nb]; exact W2.kp b x e q
  · have nb : b ≠ a := fun y => nm (by rw [← y]; exact z)
    rw [upd_ne nb]; exact W2.it b z
  · have q := W2.sl j s' h
    cases s' with
    | no => trivial
    | xa b dx f => exact q
    | d x => exact q
    | ow ys =>
      obtain ⟨c, us, e, p1, p2⟩ := q
      have nc : c ≠ a := fun z => h3 j ⟨⟨ys, .inl h⟩, by rw [← z]; exact e⟩
      exact ⟨c, us, e, by rw [upd_ne nc]; exact p1, p2⟩
    | io ys =>
      obtain ⟨c, us, e, p1, p2⟩ := q
      have nc : c ≠ a := fun z => h3 j ⟨⟨ys, .inr h⟩, by rw [← z]; exact e⟩
      exact ⟨c, us, e, by rw [upd_ne nc]; exact p1, p2⟩
  · have nb : b ≠ a := fun z => by rw [z, h1] at e; cases e
    rw [upd_ne nb]; exact s.kk b x e n
  · by_cases nb : b = a
    · rw [nb, upd_same]; simp
    · rw [upd_ne nb]; exact s.tr b z
end
abbrev STs (X : Cx) (es : List Expr) (m : M Bool) : Prop := PTs X es (tMT X.K m)
def tYesM : M Bool := fun ρ => some (true, ρ)
theorem sts_nil {X : Cx} : STs X [] tYesM := ⟨fun pins s σ H Q I h => (pts_nil (X := X)).run pins s σ H Q I (by
  obtain ⟨G, ρ, F, b, ρ', W, hm, q⟩ := h
  cases hm
  exact q H F (Ste.refl W))⟩
theorem sts_one {X : Cx} {c : Expr} {m : M Bool} (h : ST X c m) : STs X [c] m := pts_one h
/-- a target changes its own slots alone, and lays data there -/
def GOk (is : List Nat) (g : D → Rho → Option Rho) : Prop := ∀ x ρ ρ', g x ρ = some ρ' → (∀ j : Nat, j ∉ is → ρ'[j]? = ρ[j]?) ∧ ∀ (j : Nat) s, ρ'[j]? = some s → ρ[j]? = some s ∨ ∃ d, s = .d d
def GsOk (is : List Nat) (g : List D → Rho → Option Rho) : Prop := ∀ x ρ ρ', g x ρ = some ρ' → (∀ j : Nat, j ∉ is → ρ'[j]? = ρ[j]?) ∧ ∀ (j : Nat) s, ρ'[j]? = some s → ρ[j]? = some s ∨ ∃ d, s = .d d
theorem gok_name (i : Nat) : GOk [i] (gN i) := fun x ρ ρ' h => by
  unfold gN asg at h
  split at h
  · cases h
  · cases h
  · rename_i s0 nio h0
    have hi : i < ρ.length := (List.getElem?_eq_some_iff.mp h0).1
    cases h
    refine ⟨fun j hj => List.getElem?_set_ne (fun z => hj (by rw [z]; exact List.mem_cons_self)), fun j s e => ?_⟩
    by_cases q : i = j
    · subst q
      rw [List.getElem?_set_self hi] at e
      cases e
      exact .inr ⟨x, rfl⟩
    · rw [List.getElem?_set_ne q] at e
      exact .inl e
theorem gsok_nil : GsOk [] gsN := fun xs ρ ρ' h => by
  unfold gsN at h
  split at h
  · cases h; exact ⟨fun _ _ => rfl, fun _ _ e => .inl e⟩
  · cases h
theorem gsok_cons {is js : List Nat} {g : D → Rho → Option Rho} {r : List D → Rho → Option Rho} (h1 : GOk is g) (h2 : GsOk js r) : GsOk (is ++ js) (gsC g r) := fun xs ρ ρ' h => by
  unfold gsC at h
  split at h
  · obtain ⟨ρ1, e1, h⟩ := Option.bind_eq_some_iff.mp h
    obtain ⟨a1, a2⟩ := h1 _ _ _ e1
    obtain ⟨b1, b2⟩ := h2 _ _ _ h
    refine ⟨fun j hj => (b1 j fun z => hj (List.mem_append_right _ z)).trans (a1 j fun z => hj (List.mem_append_left _ z)), fun j s e => ?_⟩
    rcases b2 j s e with q | q
    · exact a2 j s q
    · exact .inr q
  · cases h
theorem gok_tup {n : Nat} {is : List Nat} {r : List D → Rho → Option Rho} (h1 : GsOk is r) : GOk is (gT n r) := fun x ρ ρ' h => by
  unfold gT at h
  split at h
  · split at h
    · exact h1 _ _ _ h
    · cases h
  · cases h
section
variable {K : PySem.W.Frag} {src : M (List D)} {is vs : List Nat} {g : D → Rho → Option Rho} {t : M Bool} {e : M Vl}
theorem wipe_of_mod {σ σ2 : L2.St} (sub : ∀ i ∈ is, i ∈ vs) (m : Mod' is (wipe σ vs) σ2) : wipe σ2 vs = wipe σ vs := by
  apply List.ext_getElem?
  intro j
  by_cases hj : j ∈ vs
  · have f : ∀ (τ : L2.St), j < τ.length → (wipe τ vs)[j]? = some none := fun τ hl => by
      have hl2 : j < (wipe τ vs).length := by rw [wipe_length]; exact hl
      rw [List.getElem?_eq_getElem hl2]
      congr 1
      cases q : (wipe τ vs)[j] with
      | none => rfl
      | some v =>
        have z : (wipe τ vs)[j]? = some (some v) := by rw [List.getElem?_eq_getElem hl2, q]
        exact absurd hj (wipe_some z).2
    have hlen : σ2.length = σ.length := by rw [m.1, wipe_length]
    by_cases hl : j < σ.length
    · rw [f σ hl, f σ2 (by rw [hlen]; exact hl)]
    · rw [List.getElem?_eq_none (by rw [wipe_length, hlen]; omega), List.getElem?_eq_none (by rw [wipe_length]; omega)]
  · rw [wipe_ne hj, m.2 j fun z => hj (sub j z)]
theorem tlc_of (sub : ∀ i ∈ is, i ∈ vs) (gok : GOk is g) {σ : L2.St} {H : Hp} {Q : VK} (h : tM K (eLc vs src g t e) σ H Q) : tLc (tI K src) (tG K is g) (tMT K t) (tM K e) vs σ H Q := by
  obtain ⟨G, ρ, F, r, ρ', W, hm, q⟩ := h
  unfold eLc at hm
  obtain ⟨⟨xs, ρ1⟩, e1, hm⟩ := Option.bind_eq_some_iff.mp hm
  split at hm
  · rename_i hpl
    have pl : ∀ v ∈ vs, plainSl ρ1[v]? = true := fun v hv => List.all_eq_true.mp hpl v hv
    obtain ⟨⟨accE, ρE⟩, e2, hm⟩ := Option.bind_eq_some_iff.mp hm
    cases hm
    refine ⟨G, ρ, F, xs, ρ1, W, e1, fun J H1 F1 s1 jr D hD => ?_⟩
    have W1 := s1.wd
    have Ww : Wd K G (wipeR ρ1 vs) (wipe σ vs) H1 F1 := wd_wipe W1 (fun j hj => wipe_ne hj) (wipe_length σ vs) fun v hv s es => (plain_of (pl v hv) s es).1
    have fD : F1 D = none := W1.sub.free hD
    have A : Alc F1 H1 F1 (upd H1 D (.lst [])) := ⟨Same.refl _, W1.sub.trans (same_upd hD), same_upd hD, fun _ h => .inl h⟩
    have s0 := Ww.alc A
    have now0 : ∀ i, ¬ Ow (wipeR ρ1 vs) (wipe σ vs) i D := fun i o => by
      obtain ⟨_, z, _⟩ := Ww.ow_there o
      rw [hD] at z; cases z
    refine ⟨fun i m H2 => m = xs.length - i ∧ i ≤ xs.length ∧ ∃ ρi Fi acc us, Ste K G (wipeR ρ1 vs) (wipe σ vs) H1 F1 ρi H2 Fi ∧ H2 D = some (.lst us) ∧ Reps K Fi us acc ∧ Fi D = none ∧ (∀ i, ¬ Ow ρi (wipe σ vs) i D) ∧ (∀ v ∈ vs, ∀ s, ρi[v]? = some s → s = .no) ∧ lcM vs g t e (xs.drop i) acc ρi = some (accE, ρE),
      ⟨xs.length, by simp, Nat.zero_le _, wipeR ρ1 vs, F1, [], [], s0, upd_same, .nil, fD, now0, fun v hv s es => wipeR_mem hv es, e2⟩, ?_⟩
    rintro i m H2 ⟨rfl, hi, ρi, Fi, acc, us, si, hDi, ri, fi, oi, pi, hf⟩
    have Wi := si.wd
    by_cases hlt : i < xs.length
    · refine .inr ⟨jr.go i H2 (si.ff.trans Wi.sub) hlt, fun H' => ∃ ρi Fi acc us, Ste K G (wipeR ρ1 vs) (wipe σ vs) H1 F1 ρi H' Fi ∧ H' D = some (.lst us) ∧ Reps K Fi us acc ∧ Fi D = none ∧ (∀ i, ¬ Ow ρi (wipe σ vs) i D) ∧ (∀ v ∈ vs, ∀ s, ρi[v]? = some s → s = .no) ∧ lcM vs g t e (xs.drop (i + 1)) acc ρi = some (accE, ρE),
        fun H' ⟨ρj, Fj, acj, uj, a1, a2, a3, a4, a5, a6, a7⟩ => ⟨xs.length - (i + 1), by omega, rfl, hlt, ρj, Fj, acj, uj, a1, a2, a3, a4, a5, a6, a7⟩, fun x H' y => ?_⟩
      obtain ⟨F3, d, A3, hd, Rd⟩ := jr.yl i H2 Fi x H' hlt si.ff Wi.sub y
      have s3 := Wi.alc A3
      have ed : xs[i] = d := by
        rw [List.getElem?_eq_getElem hlt] at hd
        exact Option.some.inj hd
      rw [List.drop_eq_getElem_cons hlt, ed] at hf
      unfold lcM at hf
      obtain ⟨ρ4, e4, hf⟩ := Option.bind_eq_some_iff.mp hf
      obtain ⟨⟨b5, ρ5⟩, e5, hf⟩ := Option.bind_eq_some_iff.mp hf
      have h3D : H' D = some (.lst us) := s3.kk D _ hDi oi
      have f3D : F3 D = none := by
        cases z : F3 D with
        | none => rfl
        | some o =>
          rcases s3.nf D (by rw [z]; simp) with q | q | ⟨k, q⟩
          · exact absurd fi q
          · rw [hDi] at q; cases q
          · exact absurd q (oi k)
      refine ⟨G, ρi, F3, d, ρ4, s3.wd, Rd, e4, fun σ4 W4 m4 => ⟨wipe_of_mod sub m4, ?_⟩⟩
      obtain ⟨g1, g2⟩ := gok _ _ _ e4
      -- slots of one's own before and behind the target
      have ow4 : ∀ {j : Nat} {a : Addr}, Ow ρ4 σ4 j a → Ow ρi (wipe σ vs) j a := fun {j a} o => by
        obtain ⟨⟨ys, o1⟩, o2⟩ := o
        have nj : j ∉ vs := fun z => by
          rcases o1 with o1 | o1
          · rcases g2 j _ o1 with q | ⟨_, q⟩
            · cases pi j z _ q
            · cases q
          · rcases g2 j _ o1 with q | ⟨_, q⟩
            · cases pi j z _ q
            · cases q
        rw [g1 j fun z => nj (sub j z)] at o1
        exact ⟨⟨ys, o1⟩, by rw [← m4.2 j fun z => nj (sub j z)]; exact o2⟩
      have turn : ∀ {ρ6 : Rho} {H6 F6 : Hp}, Ste K G ρ4 σ4 H' F3 ρ6 H6 F6 → Ste K G (wipeR ρ1 vs) (wipe σ vs) H1 F1 (wipeR ρ6 vs) H6 F6 ∧ H6 D = some (.lst us) ∧ F6 D = none ∧ (∀ i, ¬ Ow (wipeR ρ6 vs) (wipe σ vs) i D) := fun {ρ6 H6 F6} s6 => by
        have ow6 : ∀ {j : Nat} {a : Addr}, Ow (wipeR ρ6 vs) (wipe σ vs) j a → Ow ρi (wipe σ vs) j a := fun {j a} o => by
          obtain ⟨⟨ys, o1⟩, o2⟩ := o
          have nj : j ∉ vs := fun z => by
            rcases o1 with o1 | o1
            · cases wipeR_mem z o1
            · cases wipeR_mem z o1
          rw [wipeR_ne nj] at o1
          exact ow4 (s6.oo j a ⟨⟨ys, o1⟩, by rw [m4.2 j fun z => nj (sub j z)]; exact o2⟩)
        have W6 : Wd K G (wipeR ρ6 vs) (wipe σ vs) H6 F6 := wd_wipe s6.wd (fun j hj => (m4.2 j fun z => hj (sub j z)).symm) m4.1.symm fun v hv s es xs z => by
          subst z
          obtain ⟨a, _, _, _, _, _, e5⟩ := s6.wd.sl v _ es
          obtain ⟨⟨ys, y1⟩, _⟩ := Wi.ai v a e5
          cases pi v hv _ y1
        have d4 : ∀ i, ¬ Ow ρ4 σ4 i D := fun k o => oi k (ow4 o)
        refine ⟨⟨W6, (si.ff.trans A3.ff).trans s6.ff, fun b o hb n => ?_, fun b hb => ?_, fun k a o => si.oo k a (ow6 o), fun b hb => s6.tr b (s3.tr b (si.tr b hb))⟩, s6.kk D _ h3D d4, ?_, fun k o => oi k (ow6 o)⟩
        · exact s6.kk b o (s3.kk b o (si.kk b o hb n) fun k z => n k (si.oo k b z)) fun k z => n k (si.oo k b (ow4 z))
        · have fromF3 : F3 b ≠ none → F1 b ≠ none ∨ H1 b = none ∨ ∃ i, Ow (wipeR ρ1 vs) (wipe σ vs) i b := fun z => by
            rcases s3.nf b z with q | q | ⟨k, q⟩
            · exact si.nf b q
            · exact .inr (.inl (si.back b q))
            · exact .inr (.inr ⟨k, si.oo k b q⟩)
          rcases s6.nf b hb with q | q | ⟨k, q⟩
          · exact fromF3 q
          · exact .inr (.inl (si.back b (s3.back b q)))
          · exact .inr (.inr ⟨k, si.oo k b (ow4 q)⟩)
        · cases z : F6 D with
          | none => rfl
          | some o =>
            rcases s6.nf D (by rw [z]; simp) with q | q | ⟨k, q⟩
            · exact absurd f3D q
            · rw [h3D] at q; cases q
            · exact absurd q (d4 k)
      refine ⟨G, ρ4, F3, b5, ρ5, W4, e5, fun H5 F5 s5 => ?_⟩
      cases b5 with
      | false =>
        simp only [Bool.false_eq_true, if_false] at hf ⊢
        obtain ⟨t1, t2, t3, t4⟩ := turn s5
        exact ⟨wipeR ρ5 vs, F5, acc, us, t1, t2, ri.mono (A3.ff.trans s5.ff), t3, t4, fun v hv s es => wipeR_mem hv es, hf⟩
      | true =>
        simp only [if_true] at hf ⊢
        obtain ⟨⟨r6, ρ6⟩, e6, hf⟩ := Option.bind_eq_some_iff.mp hf
        obtain ⟨⟨x7, ρ7⟩, e7, hf⟩ := Option.bind_eq_some_iff.mp hf
        split at hf
        · rename_i hlen
          refine tm_use s5.wd e6 fun v6 H6 F6 s6 R6 => ?_
          obtain ⟨F7, s7, R7⟩ := frz_ok s6.wd R6 e7
          have s57 := (s5.trans s6).trans s7
          obtain ⟨t1, t2, t3, t4⟩ := turn s57
          have ra : Reps K F7 us acc := ri.mono (A3.ff.trans s57.ff)
          refine ⟨us, t2, lim_lt (by rw [ra.len]; exact hlen), wipeR ρ7 vs, F7, acc ++ [x7], us ++ [v6], ste_upd Ww t1 hD t3 t4, upd_same, ra.append (.cons R7 .nil), t3, t4, fun v hv s es => wipeR_mem hv es, hf⟩
        · cases hf
    · have e : i = xs.length := by omega
      subst e
      rw [List.drop_length] at hf
      cases hf
      refine .inl ⟨jr.st _ H2 (si.ff.trans Wi.sub) (Nat.le_refl _), ?_⟩
      have sU := unwipe W1 pl si
      exact q _ H2 Fi (s1.trans sU) ⟨D, us, rfl, hDi, ri, fi, s1.back D hD, fun k o => by
        obtain ⟨_, z, _⟩ := W1.ow_there (sU.oo k D o)
        rw [hD] at z; cases z⟩
  · cases hm
end
section
variable {X : Cx} {elt tg iter : Expr} {ifs : List Expr} {scope : Scope} {own : List (Str × Nat)} {pos : Pos} {src : M (List D)} {is : List Nat} {g : D → Rho → Option Rho} {t : M Bool} {e : M Vl}
theorem se_lc (hc : X.calm = true) (hN : X.N.Nodup) (hi : SI X tg iter src) (ok : BlkOk X.N X.env.scope scope own) (sub : ∀ i ∈ is, i ∈ own.map (·.2)) (gok : GOk is g)
    (hg : ∀ (s : Shared) (H : Hp) (C : Addr) (cl : List (Str × Addr)) (fp : List Addr), SG (X.blk s H scope (compEnvC scope cl C X.env) fp) tg is g) (ht : ∀ (s : Shared) (H : Hp) (C : Addr) (cl : List (Str × Addr)) (fp : List Addr), STs (X.blk s H scope (compEnvC scope cl C X.env) fp) ifs t)
    (he : ∀ (s : Shared) (H : Hp) (C : Addr) (cl : List (Str × Addr)) (fp : List Addr), SE (X.blk s H scope (compEnvC scope cl C X.env) fp) elt e) (hs : ∀ x, foldedSetIterable iter X.env x = pure x := by intro _; rfl) :
    SE X (.ListComp elt [⟨tg, iter, ifs, 0⟩] scope pos) (eLc (own.map (·.2)) src g t e) :=
  pe_weak (pe_lc hc hN hi ok hg ht he hs) fun _ _ _ h => tlc_of sub gok h
theorem ss_setlc {i : Nat} {y : Str} {py : Pos} {spos : Pos} (hc : X.calm = true) (hN : X.N.Nodup) (hy : X.N[i]? = some y) (hyl : X.env.scope.names.lookup y = some .local)
    (hsw : swapsWith (.ListComp elt [⟨tg, iter, ifs, 0⟩] scope pos) (some (.Name y py)) spos.line X.env = pure true) (hi : SI X tg iter src) (ok : BlkOk X.N X.env.scope scope own) (sub : ∀ i ∈ is, i ∈ own.map (·.2)) (gok : GOk is g)
    (hg : ∀ (s : Shared) (H : Hp) (C : Addr) (cl : List (Str × Addr)) (fp : List Addr), SG (X.blk s H scope (compEnvC scope cl C X.env) fp) tg is g) (ht : ∀ (s : Shared) (H : Hp) (C : Addr) (cl : List (Str × Addr)) (fp : List Addr), STs (X.blk s H scope (compEnvC scope cl C X.env) fp) ifs t)
    (he : ∀ (s : Shared) (H : Hp) (C : Addr) (cl : List (Str × Addr)) (fp : List Addr), SE (X.blk s H scope (compEnvC scope cl C X.env) fp) elt e) (hs : ∀ x, foldedSetIterable iter X.env x = pure x := by intro _; rfl) :
    SSW X Wx (.Assign [.Name y py] (.ListComp elt [⟨tg, iter, ifs, 0⟩] scope pos) spos) (sAsg i (eLc (own.map (·.2)) src g t e)) :=
  ps_weak (ps_setLc hc hN hy hyl hsw hi ok hg ht he hs) fun D σ H h => by
    obtain ⟨G, ρ, F, r, ρ', W, hm, q⟩ := sasg_of h
    exact tlc_of sub gok ⟨G, ρ, F, r, ρ', W, hm, q⟩
end
end Sw
namespace Sw
open PySem PySem.Spec PyProof.Rows L2

theorem vw_int {K : PySem.W.Frag} {H F : Hp} {v : V} {i : Int} (h : Vw K H F v (.int i)) : v = .int i := by
  cases (show Rep K F v (.int i) from h); rfl
theorem vw_bl {K : PySem.W.Frag} {H F : Hp} {v : V} {i : Bool} (h : Vw K H F v (.bl i)) : v = .bl i := by
  cases (show Rep K F v (.bl i) from h); rfl
theorem vw_str {K : PySem.W.Frag} {H F : Hp} {v : V} {s : List Nat} (h : Vw K H F v (.str s)) : v = .str ⟨s.toArray⟩ := by
  cases (show Rep K F v (.str s) from h); rfl
theorem vw_non {K : PySem.W.Frag} {H F : Hp} {v : V} (h : Vw K H F v .non) : v = .non := by
  cases (show Rep K F v .non from h); rfl

section
variable {K : PySem.W.Frag}
/-! ### ints -/
def fInt (g : Int → Int → D) : D → D → Option D
  | .int i, .int j => some (g i j)
  | _, _ => none
def fIntC (C : Int → Int → Bool) (g : Int → Int → D) : D → D → Option D
  | .int i, .int j => if C i j = true then some (g i j) else none
  | _, _ => none
theorem os_int {g : Int → Int → D} {h : Int → Int → V} (r : ∀ i j F, Rep K F (h i j) (g i j)) : OpS K (rI0 h) (fInt g) := by
  intro H F v u x y z s hx hy e Q q
  unfold fInt at e
  split at e
  · cases e
    rw [vw_int hx, vw_int hy]
    exact ⟨_, _, rfl, rfl, q _ H F (Alc.refl s) (r _ _ F)⟩
  · cases e
theorem os_intC {C : Int → Int → Prop} {c : Int → Int → Bool} {g : Int → Int → D} {h : Int → Int → V} (hc : ∀ i j, c i j = true → C i j) (r : ∀ i j F, Rep K F (h i j) (g i j)) : OpS K (rI C h) (fIntC c g) := by
  intro H F v u x y z s hx hy e Q q
  unfold fIntC at e
  split at e
  · split at e
    · rename_i hC
      cases e
      rw [vw_int hx, vw_int hy]
      exact ⟨_, _, rfl, rfl, hc _ _ hC, q _ H F (Alc.refl s) (r _ _ F)⟩
    · cases e
  · cases e
/-! ### texts -/
def fCatS : D → D → Option D
  | .str a, .str b => if a.length + b.length ≤ lim then some (.str (a ++ b)) else none
  | _, _ => none
theorem os_catS : OpS K (fun x y H Q => ∃ i j : Str, x = .str i ∧ y = .str j ∧ i.length + j.length ≤ sizeLine ∧ Q (.str (i ++ j)) H) fCatS := by
  intro H F v u x y z s hx hy e Q q
  unfold fCatS at e
  split at e
  · split at e
    · rename_i hl
      cases e
      rw [vw_str hx, vw_str hy]
      refine ⟨_, _, rfl, rfl, lim_of (by simpa [Str.length] using hl), q _ H F (Alc.refl s) ?_⟩
      have e : ∀ a b : List Nat, ((⟨a.toArray⟩ : Str) ++ ⟨b.toArray⟩) = ⟨(a ++ b).toArray⟩ := fun a b => by
        show (⟨a.toArray ++ b.toArray⟩ : Str) = _
        simp
      rw [e]
      exact .str _
    · cases e
  · cases e
/-! ### lists, tuples joined -/
def fCatL : D → D → Option D
  | .lst a, .lst b => if a.length + b.length ≤ lim then some (.lst (a ++ b)) else none
  | _, _ => none
theorem os_catL : OpS K rCat fCatL := by
  intro H F v u x y z s hx hy e Q q
  unfold fCatL at e
  split at e
  · split at e
    · rename_i hl
      cases e
      obtain ⟨a, vs, rfl, h1, h2⟩ := hx
      obtain ⟨b, us, rfl, h3, h4⟩ := hy
      refine ⟨a, b, vs, us, rfl, rfl, h1, h3, lim_of (by rw [h2.len, h4.len]; exact hl), fun p hp => ?_⟩
      have A := Alc.new (o := HO.lst (vs ++ us)) s hp
      exact q _ _ _ A (.lst upd_same ((h2.append h4).mono A.ff))
    · cases e
  · cases e
def fCatT : D → D → Option D
  | .tup a, .tup b => if a.length + b.length ≤ lim then some (.tup (a ++ b)) else none
  | _, _ => none
theorem os_catT : OpS K (rCatA K) fCatT := by
  intro H F v u x y z s hx hy e Q q
  unfold fCatT at e
  split at e
  · split at e
    · rename_i hl
      cases e
      cases (show Rep K F v (.tup _) from hx) with
      | @tup a vs _ h1 h2 =>
        cases (show Rep K F u (.tup _) from hy) with
        | @tup b us _ h3 h4 =>
          refine ⟨a, b, vs, us, rfl, rfl, same_t s h1, same_t s h3, lim_of (by rw [h2.len, h4.len]; exact hl), fun z => ?_, fun _ z => ?_, fun _ _ p hp => ?_⟩
          · subst z
            cases h2
            exact q _ H F (Alc.refl s) (.tup h3 h4)
          · subst z
            cases h4
            rw [List.append_nil] at q
            exact q _ H F (Alc.refl s) (.tup h1 h2)
          · have A := Alc.new (o := HO.tup (vs ++ us)) s hp
            exact q _ _ _ A (.tup (SqT.of upd_same) ((h2.append h4).mono A.ff))
    · cases e
  · cases e
/-! ### == of scalars -/
def eqS : D → D → Option Bool
  | .int i, .int j => some (decide (i = j))
  | .str i, .str j => some (decide (i = j))
  | .bl i, .bl j => some (decide (i = j))
  | .non, .non => some true
  | .non, .int _ => some false
  | .non, .str _ => some false
  | .non, .bl _ => some false
  | .int _, .non => some false
  | .str _, .non => some false
  | .bl _, .non => some false
  | .int _, .str _ => some false
  | .str _, .int _ => some false
  | .bl _, .str _ => some false
  | .str _, .bl _ => some false
  | _, _ => none
def fEqS : D → D → Option D := fun x y => (eqS x y).bind fun b => some (.bl b)
def fNeS : D → D → Option D := fun x y => (eqS x y).bind fun b => some (.bl (!b))
theorem eqS_ok {H F : Hp} {v u : V} {x y : D} {b : Bool} (hx : Vw K H F v x) (hy : Vw K H F u y) (e : eqS x y = some b) : scal v u = true ∧ decide (v = u) = b := by
  unfold eqS at e
  split at e <;> (first | cases e | skip)
  · rw [vw_int hx, vw_int hy]; exact ⟨rfl, by simp⟩
  · rw [vw_str hx, vw_str hy]; exact ⟨rfl, by simp⟩
  · rw [vw_bl hx, vw_bl hy]; exact ⟨rfl, by simp⟩
  · rw [vw_non hx, vw_non hy]; exact ⟨rfl, by simp⟩
  · rw [vw_non hx, vw_int hy]; exact ⟨rfl, by simp⟩
  · rw [vw_non hx, vw_str hy]; exact ⟨rfl, by simp⟩
  · rw [vw_non hx, vw_bl hy]; exact ⟨rfl, by simp⟩
  · rw [vw_int hx, vw_non hy]; exact ⟨rfl, by simp⟩
  · rw [vw_str hx, vw_non hy]; exact ⟨rfl, by simp⟩
  · rw [vw_bl hx, vw_non hy]; exact ⟨rfl, by simp⟩
  · rw [vw_int hx, vw_str hy]; exact ⟨rfl, by simp⟩
  · rw [vw_str hx, vw_int hy]; exact ⟨rfl, by simp⟩
  · rw [vw_bl hx, vw_str hy]; exact ⟨rfl, by simp⟩
  · rw [vw_str hx, vw_bl hy]; exact ⟨rfl, by simp⟩
theorem os_eq : OpS K rEq fEqS := by
  intro H F v u x y z s hx hy e Q q
  obtain ⟨b, e1, e⟩ := Option.bind_eq_some_iff.mp e
  cases e
  obtain ⟨h1, h2⟩ := eqS_ok hx hy e1
  exact ⟨h1, by rw [h2]; exact q _ H F (Alc.refl s) (.bl b)⟩
theorem os_ne : OpS K rNe fNeS := by
  intro H F v u x y z s hx hy e Q q
  obtain ⟨b, e1, e⟩ := Option.bind_eq_some_iff.mp e
  cases e
  obtain ⟨h1, h2⟩ := eqS_ok hx hy e1
  exact ⟨h1, by rw [h2]; exact q _ H F (Alc.refl s) (.bl _)⟩
/-! ### is None, is True -/
def fIsN : D → D → Option D
  | .non, .non => some (.bl true)
  | _, .non => some (.bl false)
  | _, _ => none
def fNotN : D → D → Option D
  | .non, .non => some (.bl false)
  | _, .non => some (.bl true)
  | _, _ => none
theorem vw_ne_non {H F : Hp} {v : V} {x : D} (h : Vw K H F v x) (n : x ≠ .non) : v ≠ .non := by
  cases x with
  | non => exact absurd rfl n
  | bl b => rw [vw_bl h]; simp
  | int b => rw [vw_int h]; simp
  | str b => rw [vw_str h]; simp
  | lst b => obtain ⟨a, _, rfl, _⟩ := h; simp
  | tup b => cases (show Rep K F v (.tup b) from h); simp
  | scr b => cases (show Rep K F v (.scr b) from h); simp
  | obj c ks xs => cases (show Rep K F v (.obj c ks xs) from h); simp
theorem os_isN : OpS K (fun x y H Q => y = .non ∧ Q (.bl (decide (x = .non))) H) fIsN := by
  intro H F v u x y z s hx hy e Q q
  unfold fIsN at e
  split at e
  · cases e
    rw [vw_non hx, vw_non hy]
    exact ⟨rfl, by simpa using q _ H F (Alc.refl s) (.bl true)⟩
  · rename_i n
    cases e
    rw [vw_non hy]
    have : decide (v = V.non) = false := decide_eq_false (vw_ne_non hx n)
    exact ⟨rfl, by rw [this]; exact q _ H F (Alc.refl s) (.bl false)⟩
  · cases e
theorem os_notN : OpS K (fun x y H Q => y = .non ∧ Q (.bl (!decide (x = .non))) H) fNotN := by
  intro H F v u x y z s hx hy e Q q
  unfold fNotN at e
  split at e
  · cases e
    rw [vw_non hx, vw_non hy]
    exact ⟨rfl, by simpa using q _ H F (Alc.refl s) (.bl false)⟩
  · rename_i n
    cases e
    rw [vw_non hy]
    have : decide (v = V.non) = false := decide_eq_false (vw_ne_non hx n)
    exact ⟨rfl, by rw [this]; exact q _ H F (Alc.refl s) (.bl true)⟩
  · cases e
def fIsB : D → D → Option D
  | .bl a, .bl b => some (.bl (decide (a = b)))
  | _, _ => none
def fNotB : D → D → Option D
  | .bl a, .bl b => some (.bl (!decide (a = b)))
  | _, _ => none
theorem os_isB : OpS K (fun x y H Q => ∃ a b, x = .bl a ∧ y = .bl b ∧ Q (.bl (decide (a = b))) H) fIsB := by
  intro H F v u x y z s hx hy e Q q
  unfold fIsB at e
  split at e
  · cases e
    rw [vw_bl hx, vw_bl hy]
    exact ⟨_, _, rfl, rfl, q _ H F (Alc.refl s) (.bl _)⟩
  · cases e
theorem os_notB : OpS K (fun x y H Q => ∃ a b, x = .bl a ∧ y = .bl b ∧ Q (.bl (!decide (a = b))) H) fNotB := by
  intro H F v u x y z s hx hy e Q q
  unfold fNotB at e
  split at e
  · cases e
    rw [vw_bl hx, vw_bl hy]
    exact ⟨_, _, rfl, rfl, q _ H F (Alc.refl s) (.bl _)⟩
  · cases e
/-! ### in -/
def fInS : D → D → Option D
  | .str [c], .str s => some (.bl (decide (c ∈ s)))
  | _, _ => none
def fNiS : D → D → Option D
  | .str [c], .str s => some (.bl (!decide (c ∈ s)))
  | _, _ => none
theorem os_inS : OpS K (fun x y H Q => ∃ (c : Nat) (z : Str), x = .str ⟨#[c]⟩ ∧ y = .str z ∧ Q (.bl (decide (c ∈ z.cps.toList))) H) fInS := by
  intro H F v u x y z s hx hy e Q q
  unfold fInS at e
  split at e
  · cases e
    rw [vw_str hx, vw_str hy]
    exact ⟨_, _, rfl, rfl, by simpa using q _ H F (Alc.refl s) (.bl _)⟩
  · cases e
theorem os_niS : OpS K (fun x y H Q => ∃ (c : Nat) (z : Str), x = .str ⟨#[c]⟩ ∧ y = .str z ∧ Q (.bl (!decide (c ∈ z.cps.toList))) H) fNiS := by
  intro H F v u x y z s hx hy e Q q
  unfold fNiS at e
  split at e
  · cases e
    rw [vw_str hx, vw_str hy]
    exact ⟨_, _, rfl, rfl, by simpa using q _ H F (Alc.refl s) (.bl _)⟩
  · cases e
/-! ### items -/
def fIxS : D → D → Option D
  | .str s, .int i => if s.length ≤ lim then (atI s i).bind fun c => some (.str [c]) else none
  | _, _ => none
def fIxT : D → D → Option D
  | .tup xs, .int i => atI xs i
  | _, _ => none
def fIxL : D → D → Option D
  | .lst xs, .int i => atI xs i
  | _, _ => none
theorem atI_reps {F : Hp} {vs : List V} {xs : List D} {i : Int} {x : D} (r : Reps K F vs xs) (h : atI xs i = some x) : ∃ v, atI vs i = some v ∧ Rep K F v x := by
  unfold atI at h ⊢
  obtain ⟨j, e1, e2⟩ := Option.bind_eq_some_iff.mp h
  obtain ⟨v, h1, h2⟩ := r.get' e2
  rw [r.len, e1]
  exact ⟨v, h1, h2⟩
theorem os_ixS : OpS K rIxS fIxS := by
  intro H F v u x y z s hx hy e Q q
  unfold fIxS at e
  split at e
  · split at e
    · rename_i hl
      obtain ⟨c, e1, e⟩ := Option.bind_eq_some_iff.mp e
      cases e
      rw [vw_str hx, vw_int hy]
      exact ⟨_, _, c, rfl, rfl, lim_of (by simpa [Str.length] using hl), by simpa using e1, q _ H F (Alc.refl s) (.str [c])⟩
    · cases e
  · cases e
theorem os_ixT : OpS K (rIxT K) fIxT := by
  intro H F v u x y z s hx hy e Q q
  unfold fIxT at e
  split at e
  · cases (show Rep K F v (.tup _) from hx) with
    | tup h1 h2 =>
      rw [vw_int hy]
      obtain ⟨w, e1, r⟩ := atI_reps h2 e
      exact ⟨_, _, _, w, rfl, rfl, same_t s h1, e1, q _ H F (Alc.refl s) r⟩
  · cases e
theorem os_ixL : OpS K (rIxL K) fIxL := by
  intro H F v u x y z s hx hy e Q q
  unfold fIxL at e
  split at e
  · obtain ⟨a, vs, rfl, h1, h2⟩ := hx
    rw [vw_int hy]
    obtain ⟨w, e1, r⟩ := atI_reps h2 e
    exact ⟨_, _, _, w, rfl, rfl, SqL.of h1, e1, q _ H F (Alc.refl s) r⟩
  · cases e
/-! ### slices -/
def cutL {α : Type} (xs : List α) (lo hi : Option Int) : List α := (xs.drop (HT.sIx xs.length 0 lo)).take (HT.sIx xs.length xs.length hi - HT.sIx xs.length 0 lo)
def fSlS : D → Option Int → Option Int → Option D
  | .str s, lo, hi => if s.length ≤ lim then some (.str (cutL s lo hi)) else none
  | _, _, _ => none
def fSlL : D → Option Int → Option Int → Option D
  | .lst s, lo, hi => some (.lst (cutL s lo hi))
  | _, _, _ => none
def orSl (f g : D → Option Int → Option Int → Option D) : D → Option Int → Option Int → Option D := fun x lo hi => match f x lo hi with
  | some z => some z
  | none => g x lo hi
theorem SlS.or {r r' : V → Option Int → Option Int → Hp → VK → Prop} {f g : D → Option Int → Option Int → Option D} (h : SlS K r f) (h' : SlS K r' g) : SlS K (fun x lo hi H Q => r x lo hi H Q ∨ r' x lo hi H Q) (orSl f g) := by
  intro H F v x z lo hi s hx e Q q
  unfold orSl at e
  cases e1 : f x lo hi with
  | some w =>
    simp [e1] at e; subst e
    exact .inl (h H F v x w lo hi s hx e1 Q q)
  | none =>
    simp [e1] at e
    exact .inr (h' H F v x z lo hi s hx e Q q)
theorem sls_str : SlS K rSlS fSlS := by
  intro H F v x z lo hi s hx e Q q
  unfold fSlS at e
  split at e
  · split at e
    · rename_i hl
      cases e
      rw [vw_str hx]
      refine ⟨_, rfl, lim_of (by simpa [Str.length] using hl), ?_⟩
      have e : ∀ s : List Nat, cutS ⟨s.toArray⟩ lo hi = ⟨(cutL s lo hi).toArray⟩ := fun s => by simp [cutS, cutL, Str.length]
      rw [e]
      exact q _ H F (Alc.refl s) (.str _)
    · cases e
  · cases e
theorem cutV_reps {F : Hp} {vs : List V} {xs : List D} {lo hi : Option Int} (r : Reps K F vs xs) : Reps K F (cutV vs lo hi) (cutL xs lo hi) := by
  unfold cutV cutL
  rw [r.len]
  exact (r.drop _).take _
theorem sls_list : SlS K (rSlL K) fSlL := by
  intro H F v x z lo hi s hx e Q q
  unfold fSlL at e
  split at e
  · cases e
    obtain ⟨a, vs, rfl, h1, h2⟩ := hx
    refine ⟨a, vs, rfl, SqL.of h1, fun p hp => ?_⟩
    have A := Alc.new (o := HO.lst (cutV vs lo hi)) s hp
    exact q _ _ _ A (.lst upd_same ((cutV_reps h2).mono A.ff))
  · cases e
/-! ### calls -/
theorem vws1 {H F : Hp} {vs : List V} {x : D} (h : Vws K H F vs [x]) : ∃ v, vs = [v] ∧ Vw K H F v x := by
  match vs, h with
  | [v], h => exact ⟨v, rfl, h.1⟩
theorem vws2 {H F : Hp} {vs : List V} {x y : D} (h : Vws K H F vs [x, y]) : ∃ v u, vs = [v, u] ∧ Vw K H F v x ∧ Vw K H F u y := by
  match vs, h with
  | [v, u], h => exact ⟨v, u, rfl, h.1, h.2.1⟩
def cLen : List D → Option D
  | [.str s] => if s.length ≤ lim then some (.int s.length) else none
  | [.lst xs] => some (.int xs.length)
  | [.tup xs] => some (.int xs.length)
  | [.scr xs] => some (.int xs.length)
  | _ => none
theorem cs_len : CallS K (fun xs H Q => ∃ x n, xs = [x] ∧ LenV K x H n ∧ Q (.int n) H) cLen := by
  intro H F vs xs z s hx e Q q
  unfold cLen at e
  split at e
  · split at e
    · rename_i hl
      cases e
      obtain ⟨v, rfl, hv⟩ := vws1 hx
      rw [vw_str hv]
      refine ⟨_, _, rfl, ⟨lim_of (by simpa [Str.length] using hl), rfl⟩, ?_⟩
      have := q _ H F (Alc.refl s) (.int _)
      simpa [Str.length] using this
    · cases e
  · cases e
    obtain ⟨v, rfl, a, us, rfl, h1, h2⟩ := vws1 hx
    exact ⟨_, _, rfl, .inl ⟨us, SqL.of h1, rfl⟩, by rw [h2.len]; exact q _ H F (Alc.refl s) (.int _)⟩
  · cases e
    obtain ⟨v, rfl, hv⟩ := vws1 hx
    cases (show Rep K F v (.tup _) from hv) with
    | tup h1 h2 => exact ⟨_, _, rfl, .inr ⟨_, same_t s h1, rfl⟩, by rw [h2.len]; exact q _ H F (Alc.refl s) (.int _)⟩
  · cases e
    obtain ⟨v, rfl, hv⟩ := vws1 hx
    cases (show Rep K F v (.scr _) from hv) with
    | scr h1 => exact ⟨_, _, rfl, .inl ⟨_, s.seq h1, rfl⟩, by rw [List.length_map]; exact q _ H F (Alc.refl s) (.int _)⟩
  · cases e
def cInt : List D → Option D
  | [.int i] => some (.int i)
  | [.bl b] => some (.int (if b then 1 else 0))
  | _ => none
theorem cs_int : CallS K (fun xs H Q => (∃ i, xs = [.int i] ∧ Q (.int i) H) ∨ ∃ k, xs = [.bl k] ∧ Q (.int (if k then 1 else 0)) H) cInt := by
  intro H F vs xs z s hx e Q q
  unfold cInt at e
  split at e
  · cases e
    obtain ⟨v, rfl, hv⟩ := vws1 hx
    rw [vw_int hv]
    exact .inl ⟨_, rfl, q _ H F (Alc.refl s) (.int _)⟩
  · cases e
    obtain ⟨v, rfl, hv⟩ := vws1 hx
    rw [vw_bl hv]
    exact .inr ⟨_, rfl, q _ H F (Alc.refl s) (.int _)⟩
  · cases e
end
section
variable {X : Cx}
/-! ### text * int -/
def rMulS : R2 := fun x y H Q => ∃ (z : Str) (n : Int), x = .str z ∧ y = .int n ∧ MulOk z n ∧ Q (.str (Txt.mul z n)) H
theorem op_mulS : OpR X (binaryOp .Mult) rMulS := by
  intro pins s σ H x y v u Q I rx ry h
  obtain ⟨z, n, rfl, rfl, ok, q⟩ := h
  obtain ⟨t, rfl⟩ := rx
  obtain ⟨t', rfl⟩ := ry
  exact SB.mul ok fun t2 k => ⟨.str _, H, I.tok k, ⟨_, rfl⟩, q⟩
/-- one sign, times n -/
def fMulS : D → D → Option D
  | .str [c], .int n => if -1000000 ≤ n ∧ n ≤ 1000000 then some (.str (List.replicate n.toNat c)) else none
  | _, _ => none
theorem fold_rep (c : Nat) : ∀ (n : Nat) (acc : Array Nat), (List.replicate n #[c]).foldl (· ++ ·) acc = acc ++ (List.replicate n c).toArray
  | 0, acc => by simp
  | n + 1, acc => by
    rw [List.replicate_succ, List.foldl_cons, fold_rep c n, List.replicate_succ]
    apply Array.ext'
    simp
theorem mul_txt (c : Nat) (n : Int) : Txt.mul ⟨#[c]⟩ n = ⟨(List.replicate n.toNat c).toArray⟩ := by
  unfold Txt.mul
  by_cases h : n < 1
  · rw [if_pos h, show n.toNat = 0 by omega]
    rfl
  · rw [if_neg h]
    by_cases h1 : n = 1
    · subst h1; rfl
    · rw [if_neg (by simp [h1]; show ¬ (1 = 0); decide)]
      show (⟨(List.replicate n.toNat #[c]).foldl (· ++ ·) #[]⟩ : Str) = _
      rw [fold_rep]
      simp
theorem os_mulS {K : PySem.W.Frag} : OpS K rMulS fMulS := by
  intro H F v u x y z s hx hy e Q q
  unfold fMulS at e
  split at e
  · split at e
    · rename_i hc
      cases e
      rw [vw_str hx, vw_int hy]
      refine ⟨_, _, rfl, rfl, mulOk_of 1 1000000 (Nat.le_refl 1) hc.2 (Int.le_trans (by decide) hc.1) (by decide) (by decide), ?_⟩
      rw [mul_txt]
      exact q _ H F (Alc.refl s) (.str _)
    · cases e
  · cases e
/-! ### text < text -/
def fLtS : D → D → Option D
  | .str a, .str b => some (.bl (decide (a < b)))
  | _, _ => none
theorem os_ltS {K : PySem.W.Frag} : OpS K (fun x y H Q => ∃ i j, x = .str i ∧ y = .str j ∧ Q (.bl (decide (i.cps.toList < j.cps.toList))) H) fLtS := by
  intro H F v u x y z s hx hy e Q q
  unfold fLtS at e
  split at e
  · cases e
    rw [vw_str hx, vw_str hy]
    exact ⟨_, _, rfl, rfl, q _ H F (Alc.refl s) (.bl _)⟩
  · cases e
end
/-! ### == of lists and tuples -/
mutual
def toP : D → PyData
  | .non => .none
  | .bl b => .bool b
  | .int i => .int i
  | .str s => .str ⟨s.toArray⟩
  | .lst xs => .list (toPs xs)
  | .tup xs => .tuple (toPs xs)
  | .scr xs => .list (xs.map .int)
  | .obj _ _ _ => .none
def toPs : List D → List PyData
  | [] => []
  | x :: xs => toP x :: toPs xs
end
mutual
/-- no instance within -/
def plnD : D → Bool
  | .lst xs => plnDs xs
  | .tup xs => plnDs xs
  | .obj _ _ _ => false
  | _ => true
def plnDs : List D → Bool
  | [] => true
  | x :: xs => plnD x && plnDs xs
end
theorem dp_ints {K : PySem.W.Frag} {H : Hp} : ∀ xs : List Int, DpAll K H (xs.map V.int) (xs.map PyData.int)
  | [] => .nil
  | i :: xs => .cons (.int i) (dp_ints xs)
mutual
theorem Rep.dp {K : PySem.W.Frag} {F H : Hp} (s : Same F H) : ∀ {v : V} {d : D}, plnD d = true → Rep K F v d → Dp K H v (toP d)
  | _, _, _, .non => by unfold toP; exact .non
  | _, _, _, .bl b => by unfold toP; exact .bl b
  | _, _, _, .int i => by unfold toP; exact .int i
  | _, _, _, .str x => by unfold toP; exact .str _
  | _, _, p, .lst h r => by unfold toP; unfold plnD at p; exact .lst (SqL.of (s _ _ h)) (Reps.dp s p r)
  | _, _, _, .scr h => by unfold toP; exact .lst (s.seq h) (dp_ints _)
  | _, _, p, .tup h r => by unfold toP; unfold plnD at p; exact .tup (same_t s h) (Reps.dp s p r)
  | _, _, p, .obj _ _ _ _ => by unfold plnD at p; cases p
theorem Reps.dp {K : PySem.W.Frag} {F H : Hp} (s : Same F H) : ∀ {vs : List V} {ds : List D}, plnDs ds = true → Reps K F vs ds → DpAll K H vs (toPs ds)
  | _, _, _, .nil => by unfold toPs; exact .nil
  | _, _, p, .cons h r => by unfold toPs; unfold plnDs at p; rw [Bool.and_eq_true] at p; exact .cons (Rep.dp s p.1 h) (Reps.dp s p.2 r)
end
theorem vw_dp {K : PySem.W.Frag} {F H : Hp} {v : V} {x : D} (s : Same F H) (p : plnD x = true) (h : Vw K H F v x) : Dp K H v (toP x) := by
  cases x with
  | lst xs => obtain ⟨a, vs, rfl, h1, h2⟩ := h; unfold toP; unfold plnD at p; exact .lst (SqL.of h1) (h2.dp s p)
  | non => exact Rep.dp s p h
  | bl b => exact Rep.dp s p h
  | int i => exact Rep.dp s p h
  | str t => exact Rep.dp s p h
  | tup xs => exact Rep.dp s p h
  | scr xs => exact Rep.dp s p h
  | obj c ks xs => exact Rep.dp s p h
def shD (x : D) : Bool := plnD x && SeqAt.shaped (toP x)
theorem shD_pln {x : D} (h : shD x = true) : plnD x = true := by unfold shD at h; rw [Bool.and_eq_true] at h; exact h.1
theorem shD_sh {x : D} (h : shD x = true) : SeqAt.shaped (toP x) = true := by unfold shD at h; rw [Bool.and_eq_true] at h; exact h.2
def fEqD : D → D → Option D := fun x y => if (shD x && shD y) = true then some (.bl (PyData.eqv (toP x) (toP y))) else none
def fNeD : D → D → Option D := fun x y => if (shD x && shD y) = true then some (.bl (!PyData.eqv (toP x) (toP y))) else none
theorem os_eqD {K : PySem.W.Frag} : OpS K (rEqD K) fEqD := by
  intro H F v u x y z s hx hy e Q q
  unfold fEqD at e
  split at e
  · rename_i hc
    cases e
    rw [Bool.and_eq_true] at hc
    exact ⟨_, _, vw_dp s (shD_pln hc.1) hx, vw_dp s (shD_pln hc.2) hy, shD_sh hc.1, shD_sh hc.2, q _ H F (Alc.refl s) (.bl _)⟩
  · cases e
theorem os_neD {K : PySem.W.Frag} : OpS K (rNeD K) fNeD := by
  intro H F v u x y z s hx hy e Q q
  unfold fNeD at e
  split at e
  · rename_i hc
    cases e
    rw [Bool.and_eq_true] at hc
    exact ⟨_, _, vw_dp s (shD_pln hc.1) hx, vw_dp s (shD_pln hc.2) hy, shD_sh hc.1, shD_sh hc.2, q _ H F (Alc.refl s) (.bl _)⟩
  · cases e
end Sw
namespace Sw
open PySem PySem.Spec PyProof.Rows L2

/-! ### the operators as one rule each -/
def Op2 (X : Cx) (fn : Value → Value → Sem Value) (f : D → D → Option D) : Prop := ∃ r, OpR X fn r ∧ OpS X.K r f
theorem Op2.or {X : Cx} {fn : Value → Value → Sem Value} {f g : D → D → Option D} (h : Op2 X fn f) (h' : Op2 X fn g) : Op2 X fn (orF f g) :=
  let ⟨_, a, b⟩ := h
  let ⟨_, a', b'⟩ := h'
  ⟨_, a.or a', b.or b'⟩
section
variable {X : Cx}
def fAdd : D → D → Option D := orF (fInt fun i j => .int (i + j)) (orF fCatS (orF fCatL fCatT))
theorem oAdd : Op2 X (binaryOp .Add) fAdd := Op2.or ⟨_, op_add, os_int fun _ _ _ => .int _⟩ (Op2.or ⟨_, op_add_str, os_catS⟩ (Op2.or ⟨_, op_cat, os_catL⟩ ⟨_, op_catA, os_catT⟩))
def fSub : D → D → Option D := fInt fun i j => .int (i - j)
theorem oSub : Op2 X (binaryOp .Sub) fSub := ⟨_, op_sub, os_int fun _ _ _ => .int _⟩
def cMul (i j : Int) : Bool := decide (-18446744073709551616 < i ∧ i < 18446744073709551616) || decide (-18446744073709551616 < j ∧ j < 18446744073709551616)
def fMul : D → D → Option D := orF (fIntC cMul fun i j => .int (i * j)) fMulS
theorem oMul : Op2 X (binaryOp .Mult) fMul := Op2.or ⟨_, op_mul, os_intC (fun i j h => by
  unfold cMul at h
  rcases (Bool.or_eq_true _ _).mp h with h | h
  · exact .inl (of_decide_eq_true h)
  · exact .inr (of_decide_eq_true h)) fun _ _ _ => .int _⟩ ⟨_, op_mulS, os_mulS⟩
def fDiv : D → D → Option D := fIntC (fun _ j => decide (0 < j ∧ j < 1073741824)) fun i j => .int (i / j)
theorem oDiv : Op2 X (binaryOp .FloorDiv) fDiv := ⟨_, op_fdiv, os_intC (fun i j h => (show CDiv i j from of_decide_eq_true (p := 0 < j ∧ j < 1073741824) h)) fun _ _ _ => .int _⟩
def fMod : D → D → Option D := fIntC (fun _ j => decide (0 < j)) fun i j => .int (i % j)
theorem oMod : Op2 X (binaryOp .Mod) fMod := ⟨_, op_mod, os_intC (fun _ _ h => of_decide_eq_true h) fun _ _ _ => .int _⟩
def fPow : D → D → Option D := fIntC (fun i j => decide (0 ≤ j ∧ j ≤ 1000000 ∧ i.natAbs < 18446744073709551616)) fun i j => .int (i ^ j.toNat)
theorem oPow : Op2 X (binaryOp .Pow) fPow := ⟨_, op_pow, os_intC (fun i j h => (show CPow i j from of_decide_eq_true (p := 0 ≤ j ∧ j ≤ 1000000 ∧ i.natAbs < 18446744073709551616) h)) fun _ _ _ => .int _⟩
def fLt : D → D → Option D := orF (fInt fun i j => .bl (decide (i < j))) fLtS
def fLe : D → D → Option D := fInt fun i j => .bl (decide (i ≤ j))
def fGt : D → D → Option D := fInt fun i j => .bl (decide (j < i))
def fGe : D → D → Option D := fInt fun i j => .bl (decide (j ≤ i))
theorem oLt : Op2 X (compareOp .Lt) fLt := Op2.or ⟨_, op_lt, os_int fun _ _ _ => .bl _⟩ ⟨_, op_lt_str, os_ltS⟩
theorem oLe : Op2 X (compareOp .LtE) fLe := ⟨_, op_le, os_int fun _ _ _ => .bl _⟩
theorem oGt : Op2 X (compareOp .Gt) fGt := ⟨_, op_gt, os_int fun _ _ _ => .bl _⟩
theorem oGe : Op2 X (compareOp .GtE) fGe := ⟨_, op_ge, os_int fun _ _ _ => .bl _⟩
def fEq : D → D → Option D := orF fEqS fEqD
def fNe : D → D → Option D := orF fNeS fNeD
theorem oEq (hu : X.A.units + 64 < cLine) : Op2 X (compareOp .Eq) fEq := Op2.or ⟨_, op_eq, os_eq⟩ ⟨_, op_eqD hu, os_eqD⟩
theorem oNe (hu : X.A.units + 64 < cLine) : Op2 X (compareOp .NotEq) fNe := Op2.or ⟨_, op_ne, os_ne⟩ ⟨_, op_neD hu, os_neD⟩
def fIs : D → D → Option D := orF fIsN fIsB
def fNt : D → D → Option D := orF fNotN fNotB
theorem oIs : Op2 X (compareOp .Is) fIs := Op2.or ⟨_, op_isN, os_isN⟩ ⟨_, op_is_bl, os_isB⟩
theorem oNt : Op2 X (compareOp .IsNot) fNt := Op2.or ⟨_, op_notN, os_notN⟩ ⟨_, op_isnot_bl, os_notB⟩
/-! x in a list or tuple of flat things -/
def flatD : D → Bool
  | .non => true
  | .bl _ => true
  | .int _ => true
  | .str _ => true
  | _ => false
def eqF : D → D → Bool
  | .non, .non => true
  | .bl a, .bl b => a == b
  | .bl a, .int b => (if a then 1 else 0) == b
  | .int a, .bl b => a == (if b then 1 else 0)
  | .int a, .int b => a == b
  | .str a, .str b => decide (a = b)
  | _, _ => false
theorem flat_rep {K : PySem.W.Frag} {F : Hp} {v : V} {x : D} (r : Rep K F v x) (h : flatD x = true) : flatV v = true := by
  cases r <;> first | rfl | cases h
theorem eqF_rep {K : PySem.W.Frag} {F : Hp} {v u : V} {x y : D} (r : Rep K F v x) (r' : Rep K F u y) (h : flatD x = true) (h' : flatD y = true) : eqV v u = eqF x y := by
  have key : ∀ a b : List Nat, ((⟨a.toArray⟩ : Str) == ⟨b.toArray⟩) = decide (a = b) := fun a b => by
    by_cases e : a = b
    · subst e; simp
    · rw [decide_eq_false e]
      have ne : (⟨a.toArray⟩ : Str) ≠ ⟨b.toArray⟩ := fun z => e (by simpa using congrArg (fun s : Str => s.cps.toList) z)
      exact beq_eq_false_iff_ne.mpr ne
  cases r <;> cases r' <;> first | rfl | exact absurd h Bool.false_ne_true | exact absurd h' Bool.false_ne_true | exact key _ _
def inD (x : D) (xs : List D) : Bool := xs.any fun y => eqF y x
theorem inV_reps {K : PySem.W.Frag} {F : Hp} {v : V} {x : D} (r : Rep K F v x) (h : flatD x = true) : ∀ {vs : List V} {xs : List D}, Reps K F vs xs → xs.all flatD = true → inV v vs = inD x xs ∧ vs.all flatV = true
  | _, _, .nil, _ => ⟨rfl, rfl⟩
  | _, _, .cons r1 t, e => by
    rw [List.all_cons, Bool.and_eq_true] at e
    obtain ⟨i1, i2⟩ := inV_reps r h t e.2
    unfold inV inD at i1 ⊢
    rw [List.any_cons, List.any_cons, List.all_cons, i1, i2, eqF_rep r1 r e.1 h, flat_rep r1 e.1]
    exact ⟨rfl, rfl⟩
def fInQ (neg : Bool) : D → D → Option D := fun x y => match y with
  | .lst xs => if (flatD x && xs.all flatD) = true then some (.bl (if neg then !inD x xs else inD x xs)) else none
  | .tup xs => if (flatD x && xs.all flatD) = true then some (.bl (if neg then !inD x xs else inD x xs)) else none
  | _ => none
theorem vw_flat {K : PySem.W.Frag} {H F : Hp} {v : V} {x : D} (h : Vw K H F v x) (f : flatD x = true) : Rep K F v x := by
  cases x <;> first | exact h | cases f
theorem os_inQ {K : PySem.W.Frag} {neg : Bool} : OpS K (rIn K neg) (fInQ neg) := by
  intro H F v u x y z s hx hy e Q q
  unfold fInQ at e
  split at e
  · split at e
    · rename_i hc
      cases e
      rw [Bool.and_eq_true] at hc
      obtain ⟨a, us, rfl, h1, h2⟩ := hy
      have rx := vw_flat hx hc.1
      obtain ⟨i1, i2⟩ := inV_reps rx hc.1 h2 hc.2
      refine ⟨a, us, rfl, .inl (SqL.of h1), flat_rep rx hc.1, i2, ?_⟩
      rw [i1]
      exact q _ H F (Alc.refl s) (.bl _)
    · cases e
  · split at e
    · rename_i hc
      cases e
      rw [Bool.and_eq_true] at hc
      cases (show Rep K F u (.tup _) from hy) with
      | @tup a us _ h1 h2 =>
      have rx := vw_flat hx hc.1
      obtain ⟨i1, i2⟩ := inV_reps rx hc.1 h2 hc.2
      refine ⟨a, us, rfl, .inr (same_t s h1), flat_rep rx hc.1, i2, ?_⟩
      rw [i1]
      exact q _ H F (Alc.refl s) (.bl _)
    · cases e
  · cases e
def fIn : D → D → Option D := orF fInS (fInQ false)
def fNi : D → D → Option D := orF fNiS (fInQ true)
theorem oIn : Op2 X (compareOp .In) fIn := Op2.or ⟨_, op_in_sign, os_inS⟩ ⟨_, op_in_seq, os_inQ⟩
theorem oNi : Op2 X (compareOp .NotIn) fNi := Op2.or ⟨_, op_notIn_sign, os_niS⟩ ⟨_, op_notIn_seq, os_inQ⟩
def fIx : D → D → Option D := orF fIxL (orF fIxT fIxS)
theorem oIx : ∃ r, IxR X r ∧ OpS X.K r fIx := ⟨_, ix_list.or (ix_tup.or ix_str), os_ixL.or (os_ixT.or os_ixS)⟩
def fSl : D → Option Int → Option Int → Option D := orSl fSlL fSlS
theorem oSl : ∃ r, L2.SlR X r ∧ SlS X.K r fSl := ⟨_, sl_list.or sl_str, sls_list.or sls_str⟩
def fNeg : D → Option D
  | .int i => some (.int (-i))
  | _ => none
theorem us_neg : UnS X.K (rU fun i => .int (-i)) fNeg := by
  intro H F v x z s hx e Q q
  unfold fNeg at e
  split at e
  · cases e
    rw [vw_int hx]
    exact ⟨_, rfl, q _ H F (Alc.refl s) (.int _)⟩
  · cases e
end
section
variable {X : Cx} {a b c e : Expr} {ma mb mc me : M Vl} {pos p : Pos} {es : List Expr} {ms : M (List Vl)}
theorem se_b {op : Operator} {f : D → D → Option D} (h : Op2 X (binaryOp op) f) (ha : SE X a ma) (hb : SE X b mb) : SE X (.BinOp a op b pos) (eBin f ma mb) :=
  let ⟨_, h1, h2⟩ := h
  se_bin h1 h2 ha hb
theorem se_c {op : CmpOp} {f : D → D → Option D} (h : Op2 X (compareOp op) f) (ha : SE X a ma) (hb : SE X b mb) (hm : behindInMarks op b = false) : SE X (.Compare a [op] [b] pos) (eBin f ma mb) :=
  let ⟨_, h1, h2⟩ := h
  se_cmp h1 h2 ha hb hm
theorem st_c {op : CmpOp} {f : D → D → Option D} (h : Op2 X (compareOp op) f) (ha : SE X a ma) (hb : SE X b mb) (hm : behindInMarks op b = false) : ST X (.Compare a [op] [b] pos) (tE (eBin f ma mb)) :=
  let ⟨_, h1, h2⟩ := h
  st_cmp h1 h2 ha hb hm
theorem se_cc {op op' : CmpOp} {f g : D → D → Option D} (h : Op2 X (compareOp op) f) (h' : Op2 X (compareOp op') g) (ha : SE X a ma) (hb : SE X b mb) (hc : SE X c mc) (hm : lastMarks [op, op'] [b, c] = false) : SE X (.Compare a [op, op'] [b, c] pos) (eChain f g ma mb mc) :=
  let ⟨_, h1, h2⟩ := h
  let ⟨_, h3, h4⟩ := h'
  se_chain h1 h3 h2 h4 ha hb hc hm
theorem st_cc {op op' : CmpOp} {f g : D → D → Option D} (h : Op2 X (compareOp op) f) (h' : Op2 X (compareOp op') g) (ha : SE X a ma) (hb : SE X b mb) (hc : SE X c mc) (hm : lastMarks [op, op'] [b, c] = false) : ST X (.Compare a [op, op'] [b, c] pos) (tE (eChain f g ma mb mc)) :=
  let ⟨_, h1, h2⟩ := h
  let ⟨_, h3, h4⟩ := h'
  st_chain h1 h3 h2 h4 ha hb hc hm
theorem se_neg (ha : SE X a ma) : SE X (.UnaryOp .USub a pos) (eUn fNeg ma) := se_un un_neg us_neg ha
theorem se_ix (ha : SE X a ma) (hb : SE X b mb) (hs : PlainIx b) : SE X (.Subscript a b pos) (eBin fIx ma mb) :=
  let ⟨_, h1, h2⟩ := oIx (X := X)
  se_ixr h1 h2 ha hb hs
theorem se_slc {lo hi : Option Expr} {ml mu : M (Option Int)} {p2 : Pos} (he : SE X e me) (hl : SO X lo ml) (hu : SO X hi mu) : SE X (.Subscript e (.Slice lo hi none p2) pos) (eSl fSl me ml mu) :=
  let ⟨_, h1, h2⟩ := oSl (X := X)
  se_sl h1 h2 he hl hu
theorem se_len (hm : X.mg "len" = none) (hg : Gl X "len") (ha : SA X [e] ms) (he : starEach [e] X.env = (false, eval e X.env) :: starEach [] X.env := by rfl) (hpl : (backTo pos (starEach [] X.env)).any (·.1) = false := by rfl) : SE X (.Call (.Name "len" p) [e] [] pos) (eBlt cLen ms) :=
  se_blt call_len cs_len hg hm PySem.boot_len ha (by decide) (by decide) he hpl
theorem se_toint (hm : X.mg "int" = none) (hg : Gl X "int") (ha : SA X [e] ms) (he : starEach [e] X.env = (false, eval e X.env) :: starEach [] X.env := by rfl) (hpl : (backTo pos (starEach [] X.env)).any (·.1) = false := by rfl) : SE X (.Call (.Name "int" p) [e] [] pos) (eBlt cInt ms) :=
  se_ty call_int1 cs_int hg hm (by decide +kernel) ha (by decide) (by decide) he hpl
/-! ### sep.join(xs) -/
def strsOf : List D → Option (List (List Nat))
  | [] => some []
  | .str s :: xs => (strsOf xs).bind fun r => some (s :: r)
  | _ => none
def fJoin : D → List D → Option D
  | .str a, [.lst xs] => (strsOf xs).bind fun ys => if (ys.map (·.length)).sum + ys.length * a.length ≤ lim then some (.str (TL.joinL a ys)) else none
  | .str a, [.tup xs] => (strsOf xs).bind fun ys => if (ys.map (·.length)).sum + ys.length * a.length ≤ lim then some (.str (TL.joinL a ys)) else none
  | _, _ => none
theorem strsOf_ok {K : PySem.W.Frag} {F : Hp} : ∀ {vs : List V} {xs : List D} {ys : List (List Nat)}, Reps K F vs xs → strsOf xs = some ys → vs = (ys.map fun y => (⟨y.toArray⟩ : Str)).map V.str
  | _, _, _, .nil, e => by cases e; rfl
  | _, _, ys, .cons r t, e => by
    cases r with
    | str s =>
      unfold strsOf at e
      obtain ⟨zs, e1, e⟩ := Option.bind_eq_some_iff.mp e
      cases e
      rw [strsOf_ok t e1]
      rfl
    | non => cases e
    | bl _ => cases e
    | int _ => cases e
    | lst _ _ => cases e
    | scr _ => cases e
    | tup _ _ => cases e
    | obj _ _ _ _ => cases e
theorem join_txt (a : List Nat) (ys : List (List Nat)) : Txt.join ⟨a.toArray⟩ (ys.map fun y => (⟨y.toArray⟩ : Str)) = (⟨(TL.joinL a ys).toArray⟩ : Str) := by
  have h := TL.tl_join ⟨a.toArray⟩ (ys.map fun y => (⟨y.toArray⟩ : Str))
  rw [TL.join_eq]
  have e : (ys.map fun y => (⟨y.toArray⟩ : Str)).map TL.tl = ys := by
    rw [List.map_map]
    have : (TL.tl ∘ fun y : List Nat => (⟨y.toArray⟩ : Str)) = id := by
      funext y
      simp [TL.tl]
    rw [this, List.map_id]
  rw [e] at h
  have h2 : TL.tl (⟨a.toArray⟩ : Str) = a := by simp [TL.tl]
  rw [h2] at h
  rw [← h]
theorem ms_join {K : PySem.W.Frag} : MetS K (fun x xs H Q => ∃ a p, ∃ ys : List Str, x = .str a ∧ xs = [.ref p] ∧ (SqL K H p (ys.map V.str) ∨ SqT K H p (ys.map V.str)) ∧
    (ys.map (·.length)).sum + ys.length * a.length ≤ 16777216 ∧ Q (.str (Txt.join a ys)) H) fJoin := by
  have len : ∀ ys : List (List Nat), ((ys.map fun y => (⟨y.toArray⟩ : Str)).map (·.length)).sum = (ys.map (·.length)).sum := fun ys => by
    rw [List.map_map]
    congr 1
  intro H F v vs x xs z s hx hxs e Q q
  unfold fJoin at e
  split at e
  · obtain ⟨ys, e1, e⟩ := Option.bind_eq_some_iff.mp e
    split at e
    · rename_i hl
      cases e
      obtain ⟨u, rfl, p, us, rfl, h1, h2⟩ := vws1 hxs
      rw [vw_str hx]
      rw [strsOf_ok h2 e1] at h1
      refine ⟨_, p, _, rfl, rfl, .inl (SqL.of h1), ?_, ?_⟩
      · rw [len, List.length_map]; simpa [Str.length] using hl
      · rw [join_txt]; exact q _ H F (Alc.refl s) (.str _)
    · cases e
  · obtain ⟨ys, e1, e⟩ := Option.bind_eq_some_iff.mp e
    split at e
    · rename_i hl
      cases e
      obtain ⟨u, rfl, hu⟩ := vws1 hxs
      cases (show Rep K F u (.tup _) from hu) with
      | @tup p us _ h1 h2 =>
      rw [vw_str hx]
      rw [strsOf_ok h2 e1] at h1
      refine ⟨_, p, _, rfl, rfl, .inr (same_t s h1), ?_, ?_⟩
      · rw [len, List.length_map]; simpa [Str.length] using hl
      · rw [join_txt]; exact q _ H F (Alc.refl s) (.str _)
    · cases e
  · cases e
theorem se_join {o : Expr} {mo : M Vl} {apos cpos : Pos} (ho : SE X o mo) (ha : SA X [e] ms)
    (hbase : attributeBase o "join" X.env (eval o X.env) = eval o X.env := by rfl)
    (hfew : ((backTo cpos (starEach [e] X.env)).all (fun x => !x.1) && (backToKw cpos (keywordEach [] X.env)).all (fun x => x.1.isSome)
      && decide ([e].length + ([] : List Keyword).length + (if ([] : List Keyword).isEmpty then 0 else 1) < 30)) = true := by rfl)
    (hline : (apos.endLine == cpos.line) = true := by rfl) (hs : starEach [e] X.env = (false, eval e X.env) :: starEach [] X.env := by rfl) (hplain : (backTo cpos (starEach [] X.env)).any (·.1) = false := by rfl) :
    SE X (.Call (.Attribute o "join" apos) [e] [] cpos) (eMet fJoin mo ms) := se_met PySem.F.slot_str_join PySem.F.type_str_join mt_join (fun x xs z h => by
  unfold fJoin at h
  split at h
  · exact ⟨_, rfl⟩
  · exact ⟨_, rfl⟩
  · cases h) ms_join ho ha hbase hfew hline hs hplain
/-- a text of the module -/
theorem se_gstr {x : Str} {u : Value} {cs : List Nat} (hu : ∃ (y : Str) (t : Tok), u = .str y t ∧ y.cps.toList = cs) (hm : X.mg x = some u) (hg : Gl X x) (hd : (x == ("__debug__" : Str)) = false := by decide) : SE X (.Name x pos) (eC (.str cs)) := by
  obtain ⟨y, t, rfl, rfl⟩ := hu
  exact se_glob (v := .str y) hm ⟨t, rfl⟩ (fun _ => rep_str y) hg hd
/-- a number of the module -/
theorem se_gint {x : Str} {u : Value} {i : Int} (hu : ∃ t : Tok, u = .int i t) (hm : X.mg x = some u) (hg : Gl X x) (hd : (x == ("__debug__" : Str)) = false := by decide) : SE X (.Name x pos) (eC (.int i)) := by
  obtain ⟨t, rfl⟩ := hu
  exact se_glob (v := .int i) hm ⟨t, rfl⟩ (fun _ => .int i) hg hd
end
/-- the law's own promise at the script -/
theorem law_sp {K : PySem.W.Frag} {H : Hp} {a : Addr} {ns : List Int} {f : Fn} {E : XK} (hS : SqL K H a (ns.map V.int)) (h : f [.da (.scr ns)] = some (.fz (.bl true), [])) : spF K 1 f [.ref a] H (fun v _ => v = .bl true) E :=
  ⟨rfl, H, [.da (.scr ns)], .fz (.bl true), [], Same.refl _, ⟨.scr hS, trivial⟩, List.nodup_nil, h, fun v H' F' _ _ _ _ _ R => by
    cases (show Rep K F' v (.bl true) from R)
    rfl⟩
end Sw
/-! Sw9: reckoning in the pure semantics. -/
namespace Sw
open L2

def Ev {α : Type} (m : M α) (ρ : Rho) (Q : α → Rho → Prop) : Prop := ∃ a ρ', m ρ = some (a, ρ') ∧ Q a ρ'
abbrev Sv (s : S) (ρ : Rho) (Q : Fl → Rho → Prop) : Prop := ∃ fl ρ', s ρ = some (fl, ρ') ∧ Q fl ρ'

theorem sv_seq {a b : S} {ρ : Rho} {Q : Fl → Rho → Prop} (h : Sv a ρ fun fl ρ' => match fl with
    | .nx => Sv b ρ' Q
    | fl => Q fl ρ') : Sv (sSeq a b) ρ Q := by
  obtain ⟨fl, ρ1, e, h⟩ := h
  have un : sSeq a b ρ = (a ρ).bind fun p => match p.1 with
    | .nx => b p.2
    | fl => some (fl, p.2) := rfl
  cases fl with
  | nx =>
    obtain ⟨f2, ρ2, e2, h⟩ := h
    exact ⟨f2, ρ2, by rw [un, e]; exact e2, h⟩
  | bk => exact ⟨.bk, ρ1, by rw [un, e]; rfl, h⟩
  | ct => exact ⟨.ct, ρ1, by rw [un, e]; rfl, h⟩
  | rt v => exact ⟨.rt v, ρ1, by rw [un, e]; rfl, h⟩
  | ex x => exact ⟨.ex x, ρ1, by rw [un, e]; rfl, h⟩
theorem sv_seq_eq {a b : S} {ρ ρ1 : Rho} {Q : Fl → Rho → Prop} (e : a ρ = some (.nx, ρ1)) (h : Sv b ρ1 Q) : Sv (sSeq a b) ρ Q := sv_seq ⟨.nx, ρ1, e, h⟩
theorem sv_nx {ρ : Rho} {Q : Fl → Rho → Prop} (h : Q .nx ρ) : Sv sNx ρ Q := ⟨_, _, rfl, h⟩
theorem sv_if {t : M Bool} {a b : S} {ρ ρ1 : Rho} {c : Bool} {Q : Fl → Rho → Prop} (e : t ρ = some (c, ρ1)) (h1 : c = true → Sv a ρ1 Q) (h2 : c = false → Sv b ρ1 Q) : Sv (sIf t a b) ρ Q := by
  have un : sIf t a b ρ = (t ρ).bind fun p => if p.1 = true then a p.2 else b p.2 := rfl
  cases c with
  | true => obtain ⟨f, r, e2, h⟩ := h1 rfl; exact ⟨f, r, by rw [un, e]; exact e2, h⟩
  | false => obtain ⟨f, r, e2, h⟩ := h2 rfl; exact ⟨f, r, by rw [un, e]; exact e2, h⟩
theorem forM_inv {g : D → Rho → Option Rho} {b : S} (I : Nat → Rho → Prop) : ∀ (xs : List D) (k : Nat) (ρ : Rho), I k ρ →
    (∀ (i : Nat) (x : D), xs[i]? = some x → ∀ ρ, I (k + i) ρ → ∃ ρ1, g x ρ = some ρ1 ∧ ∃ fl ρ2, b ρ1 = some (fl, ρ2) ∧ (fl = .nx ∨ fl = .ct) ∧ I (k + i + 1) ρ2) → ∃ ρ', forM g b xs ρ = some (.nx, ρ') ∧ I (k + xs.length) ρ'
  | [], k, ρ, h, _ => ⟨ρ, rfl, h⟩
  | x :: xs, k, ρ, h, step => by
    obtain ⟨ρ1, e1, fl, ρ2, e2, hf, h2⟩ := step 0 x rfl ρ h
    obtain ⟨ρ', e3, h3⟩ := forM_inv I xs (k + 1) ρ2 h2 fun i y hy ρ h => by
      have := step (i + 1) y (by simpa using hy) ρ (by rw [show k + (i + 1) = k + 1 + i by omega]; exact h)
      rw [show k + (i + 1) + 1 = k + 1 + i + 1 by omega] at this
      exact this
    refine ⟨ρ', ?_, by rw [List.length_cons, show k + (xs.length + 1) = k + 1 + xs.length by omega]; exact h3⟩
    unfold forM
    rw [e1]
    show (b ρ1).bind _ = _
    rw [e2]
    rcases hf with rfl | rfl <;> exact e3
/-- a for that runs through: an invariant by the turn -/
theorem sFor_inv {src : M (List D)} {g : D → Rho → Option Rho} {b : S} {ρ ρ1 : Rho} {xs : List D} (I : Nat → Rho → Prop) (e : src ρ = some (xs, ρ1)) (h0 : I 0 ρ1)
    (step : ∀ (i : Nat) (x : D), xs[i]? = some x → ∀ ρ, I i ρ → ∃ ρ1, g x ρ = some ρ1 ∧ ∃ fl ρ2, b ρ1 = some (fl, ρ2) ∧ (fl = .nx ∨ fl = .ct) ∧ I (i + 1) ρ2) : ∃ ρ', sFor src g b ρ = some (.nx, ρ') ∧ I xs.length ρ' := by
  obtain ⟨ρ', h1, h2⟩ := forM_inv (g := g) (b := b) I xs 0 ρ1 h0 fun i x hx ρ h => by
    rw [Nat.zero_add] at h ⊢
    exact step i x hx ρ h
  rw [Nat.zero_add] at h2
  exact ⟨ρ', by unfold sFor; rw [e]; exact h1, h2⟩

/-! ### evaluation by simp -/
/-- no slot, or one that may not be stored to -/
def ioQ : Option Sl → Bool
  | none => true
  | some (.io _) => true
  | _ => false
@[simp] theorem ioQ_no : ioQ (some .no) = false := rfl
@[simp] theorem ioQ_d {x : D} : ioQ (some (.d x)) = false := rfl
@[simp] theorem ioQ_ow {x : List D} : ioQ (some (.ow x)) = false := rfl
section
variable {ρ : Rho} {a b c : M Vl} {ms : M (List Vl)} {t u : M Bool} {s s' : S} {f g : D → D → Option D}
@[simp] theorem r_eC {x : D} : eC x ρ = some (.fz x, ρ) := rfl
@[simp] theorem r_eVar {i : Nat} : eVar i ρ = match ρ[i]? with
  | some (.d x) => some (.fz x, ρ)
  | some (.ow _) => some (.bw i, ρ)
  | some (.io _) => some (.bw i, ρ)
  | _ => none := rfl
@[simp] theorem r_eBin : eBin f a b ρ = (a ρ).bind fun p => (b p.2).bind fun q => (look q.2 (stl p.1)).bind fun x => (look q.2 (stl q.1)).bind fun y => (f x y).bind fun z => some (.fz z, q.2) := rfl
@[simp] theorem r_eUn {h : D → Option D} : eUn h a ρ = (a ρ).bind fun p => (look p.2 (stl p.1)).bind fun x => (h x).bind fun z => some (.fz z, p.2) := rfl
@[simp] theorem r_tE : tE a ρ = (a ρ).bind fun p => match p.1 with
  | .fz (.bl b) => some (b, p.2)
  | _ => none := rfl
@[simp] theorem r_tAnd : tAnd t u ρ = (t ρ).bind fun p => if p.1 = true then u p.2 else some (false, p.2) := rfl
@[simp] theorem r_tOr : tOr t u ρ = (t ρ).bind fun p => if p.1 = true then some (true, p.2) else u p.2 := rfl
@[simp] theorem r_tNot : tNot t ρ = (t ρ).bind fun p => some (!p.1, p.2) := rfl
@[simp] theorem r_eAnd : eAnd a b ρ = (a ρ).bind fun p => match p.1 with
  | .fz (.bl true) => b p.2
  | .fz (.bl false) => some (.fz (.bl false), p.2)
  | _ => none := rfl
@[simp] theorem r_eOr : eOr a b ρ = (a ρ).bind fun p => match p.1 with
  | .fz (.bl false) => b p.2
  | .fz (.bl true) => some (.fz (.bl true), p.2)
  | _ => none := rfl
@[simp] theorem r_eNot : eNot a ρ = (a ρ).bind fun p => match p.1 with
  | .fz (.bl b) => some (.fz (.bl (!b)), p.2)
  | _ => none := rfl
@[simp] theorem r_eIf : eIf t a b ρ = (t ρ).bind fun p => if p.1 = true then a p.2 else b p.2 := rfl
@[simp] theorem r_eChain : eChain f g a b c ρ = (a ρ).bind fun p => (b p.2).bind fun q => (look q.2 (stl p.1)).bind fun x => (look q.2 (stl q.1)).bind fun y => (f x y).bind fun z => match z with
  | .bl true => (c q.2).bind fun p3 => (look p3.2 (stl q.1)).bind fun y2 => (look p3.2 (stl p3.1)).bind fun w => (g y2 w).bind fun z2 => some (.fz z2, p3.2)
  | .bl false => some (.fz (.bl false), q.2)
  | _ => none := rfl
@[simp] theorem r_aNil : aNil ρ = some ([], ρ) := rfl
@[simp] theorem r_aCons : aCons a ms ρ = (a ρ).bind fun p => (ms p.2).bind fun q => some (stl p.1 :: q.1, q.2) := rfl
@[simp] theorem r_eTup : eTup ms ρ = (ms ρ).bind fun p => (frzs p.2 p.1).bind fun q => if q.1.length ≤ lim then some (.fz (.tup q.1), q.2) else none := rfl
@[simp] theorem r_eLst : eLst ms ρ = (ms ρ).bind fun p => (frzs p.2 p.1).bind fun q => if q.1.length ≤ lim then some (.fr q.1, q.2) else none := rfl
@[simp] theorem r_eBlt {h : List D → Option D} : eBlt h ms ρ = (ms ρ).bind fun p => (looks p.2 p.1).bind fun xs => (h xs).bind fun z => some (.fz z, p.2) := rfl
@[simp] theorem r_eMet {h : D → List D → Option D} : eMet h a ms ρ = (a ρ).bind fun p => (ms p.2).bind fun q => (look q.2 (stl p.1)).bind fun x => (looks q.2 q.1).bind fun xs => (h x xs).bind fun z => some (.fz z, q.2) := rfl
@[simp] theorem r_oNo : oNo ρ = some (none, ρ) := rfl
@[simp] theorem r_oSome : oSome a ρ = (a ρ).bind fun p => match p.1 with
  | .fz (.int i) => some (some i, p.2)
  | _ => none := rfl
@[simp] theorem r_eSl {h : D → Option Int → Option Int → Option D} {l o : M (Option Int)} : eSl h a l o ρ = (a ρ).bind fun p => (l p.2).bind fun p1 => (o p1.2).bind fun p2 => (look p2.2 (stl p.1)).bind fun x => (h x p1.1 p2.1).bind fun z => some (.fz z, p2.2) := rfl
@[simp] theorem r_eCall {h : Fn} {fs : List Bool} : eCall h fs ms ρ = (ms ρ).bind fun p => (ag1 fs p.1 p.2).bind fun q => (ag2 q.2 q.1).bind fun gs => if (agI q.1).Nodup then (h gs).bind fun z => match z.1 with
  | .bw _ => none
  | w => some (w, puts q.2 (agI q.1) z.2) else none := rfl
@[simp] theorem r_look1 {x : D} : look ρ (.fz x) = some x := rfl
@[simp] theorem r_look2 {x : List D} : look ρ (.fr x) = some (.lst x) := rfl
@[simp] theorem r_look3 {i : Nat} : look ρ (.bw i) = match ρ[i]? with
  | some (.ow xs) => some (.lst xs)
  | some (.io xs) => some (.lst xs)
  | _ => none := rfl
@[simp] theorem r_frz1 {x : D} : frz ρ (.fz x) = some (x, ρ) := rfl
@[simp] theorem r_frz2 {x : List D} : frz ρ (.fr x) = some (.lst x, ρ) := rfl
@[simp] theorem r_frz3 {i : Nat} : frz ρ (.bw i) = match ρ[i]? with
    | some (.ow xs) => some (.lst xs, ρ.set i (.d (.lst xs)))
    | _ => none := rfl
@[simp] theorem r_stl1 {x : D} : stl (.fz x) = .fz x := rfl
@[simp] theorem r_stl2 {x : List D} : stl (.fr x) = .fz (.lst x) := rfl
@[simp] theorem r_stl3 {x : Nat} : stl (.bw x) = .bw x := rfl
@[simp] theorem r_looks0 : looks ρ [] = some [] := rfl
@[simp] theorem r_looks1 {r : Vl} {rs : List Vl} : looks ρ (r :: rs) = (look ρ r).bind fun x => (looks ρ rs).bind fun xs => some (x :: xs) := rfl
@[simp] theorem r_frzs0 : frzs ρ [] = some ([], ρ) := rfl
@[simp] theorem r_frzs1 {r : Vl} {rs : List Vl} : frzs ρ (r :: rs) = (frz ρ r).bind fun p => (frzs p.2 rs).bind fun q => some (p.1 :: q.1, q.2) := rfl
@[simp] theorem r_sNx : sNx ρ = some (.nx, ρ) := rfl
@[simp] theorem r_sBk : sBk ρ = some (.bk, ρ) := rfl
@[simp] theorem r_sCt : sCt ρ = some (.ct, ρ) := rfl
@[simp] theorem r_sSeq : sSeq s s' ρ = (s ρ).bind fun p => match p.1 with
  | .nx => s' p.2
  | fl => some (fl, p.2) := rfl
@[simp] theorem r_sIf : sIf t s s' ρ = (t ρ).bind fun p => if p.1 = true then s p.2 else s' p.2 := rfl
@[simp] theorem r_sRet : sRet a ρ = (a ρ).bind fun p => match p.1 with
  | .bw i => match p.2[i]? with
    | some (.ow xs) => some (.rt (.fr xs), p.2)
    | _ => none
  | r => some (.rt r, p.2) := rfl
@[simp] theorem r_sDrop : sDrop a ρ = (a ρ).bind fun p => some (.nx, p.2) := rfl
@[simp] theorem r_asg {i : Nat} {r : Vl} : asg i r ρ = if ioQ ρ[i]? = true then none else match r with
    | .fz x => some (ρ.set i (.d x))
    | .fr xs => some (ρ.set i (.ow xs))
    | .bw j => (frz ρ (.bw j)).bind fun p => some (p.2.set i (.d p.1)) := by
  unfold asg
  cases h : ρ[i]? with
  | none => rfl
  | some s => cases s <;> rfl
@[simp] theorem r_sAsg {i : Nat} : sAsg i a ρ = (a ρ).bind fun p => (asg i p.1 p.2).bind fun ρ2 => some (.nx, ρ2) := rfl
@[simp] theorem r_own {i : Nat} : own? ρ i = match ρ[i]? with
  | some (.ow xs) => some xs
  | some (.io xs) => some xs
  | _ => none := rfl
@[simp] theorem r_put {i : Nat} {xs : List D} : put ρ i xs = match ρ[i]? with
  | some (.ow _) => ρ.set i (.ow xs)
  | some (.io _) => ρ.set i (.io xs)
  | _ => ρ := rfl
@[simp] theorem r_puts0 {xs : List (List D)} : puts ρ [] xs = ρ := by unfold puts; rfl
@[simp] theorem r_puts1 {i : Nat} {is : List Nat} {x : List D} {xs : List (List D)} : puts ρ (i :: is) (x :: xs) = puts (put ρ i x) is xs := rfl
@[simp] theorem r_sApp {i : Nat} : sApp i a ρ = (own? ρ i).bind fun _ => (a ρ).bind fun p => (frz p.2 (stl p.1)).bind fun q => (own? q.2 i).bind fun xs => if xs.length < lim then some (.nx, put q.2 i (xs ++ [q.1])) else none := rfl
@[simp] theorem r_sSetI {i : Nat} : sSetI i a b ρ = (b ρ).bind fun p => (frz p.2 (stl p.1)).bind fun p1 => (own? p1.2 i).bind fun _ => (a p1.2).bind fun p2 => match p2.1 with
  | .fz (.int k) => (own? p2.2 i).bind fun xs => (ixN xs.length k).bind fun j => some (.nx, put p2.2 i (xs.set j p1.1))
  | _ => none := rfl
@[simp] theorem r_gN {i : Nat} {x : D} : gN i x ρ = asg i (.fz x) ρ := rfl
@[simp] theorem r_ag0 {fs : List Bool} : ag1 fs [] ρ = some ([], ρ) := by unfold ag1; rfl
@[simp] theorem r_ag1 {fs : List Bool} {r : Vl} {rs : List Vl} : ag1 fs (r :: rs) ρ = if fs.headD false = true then (match r with
    | .bw i => (ag1 fs.tail rs ρ).bind fun p => some (.inr i :: p.1, p.2)
    | _ => none) else (frz ρ r).bind fun p => (ag1 fs.tail rs p.2).bind fun q => some (.inl p.1 :: q.1, q.2) := by
  conv => lhs; unfold ag1
  all_goals rfl
@[simp] theorem r_ag20 : ag2 ρ [] = some [] := rfl
@[simp] theorem r_ag21 {x : D} {r : List (D ⊕ Nat)} : ag2 ρ (.inl x :: r) = (ag2 ρ r).bind fun gs => some (.da x :: gs) := rfl
@[simp] theorem r_ag22 {i : Nat} {r : List (D ⊕ Nat)} : ag2 ρ (.inr i :: r) = (own? ρ i).bind fun xs => (ag2 ρ r).bind fun gs => some (.li xs :: gs) := rfl
@[simp] theorem r_agI0 : agI [] = [] := rfl
@[simp] theorem r_agI1 {x : D} {r : List (D ⊕ Nat)} : agI (.inl x :: r) = agI r := rfl
@[simp] theorem r_agI2 {i : Nat} {r : List (D ⊕ Nat)} : agI (.inr i :: r) = i :: agI r := rfl
@[simp] theorem r_iSq : iSq a ρ = (a ρ).bind fun p => (frz p.2 (stl p.1)).bind fun q => (itemsOf q.1).bind fun xs => some (xs, q.2) := rfl
@[simp] theorem r_iR1 : iR1 ms ρ = (ms ρ).bind fun p => match p.1 with
  | [.fz (.int j)] => if -(2 ^ 62) ≤ j ∧ j < 2 ^ 62 then some (rngL 0 j.toNat, p.2) else none
  | _ => none := rfl
@[simp] theorem r_itm1 {xs : List D} : itemsOf (.lst xs) = some xs := rfl
@[simp] theorem r_itm2 {xs : List D} : itemsOf (.tup xs) = some xs := rfl
@[simp] theorem r_itm3 {xs : List Nat} : itemsOf (.str xs) = some (xs.map fun c => .str [c]) := rfl
@[simp] theorem r_itm4 {xs : List Int} : itemsOf (.scr xs) = some (xs.map .int) := rfl
@[simp] theorem r_slOf1 {x : D} : slOf (.da x) = .d x := rfl
@[simp] theorem r_slOf2 {x : List D} : slOf (.li x) = .io x := rfl
@[simp] theorem r_outs0 {r : Rho} : outsOf [] r = [] := by cases r <;> rfl
@[simp] theorem r_outs1 {x : D} {gs : List Ag} {sl : Sl} {r : Rho} : outsOf (.da x :: gs) (sl :: r) = outsOf gs r := by cases sl <;> rfl
@[simp] theorem r_outs2 {x ys : List D} {gs : List Ag} {r : Rho} : outsOf (.li x :: gs) (.io ys :: r) = ys :: outsOf gs r := rfl
theorem r_fnS {n nl : Nat} {gs : List Ag} (h : gs.length = n) : fnS n nl s gs = (s (gs.map slOf ++ List.replicate (nl - n) .no)).bind fun p => (match p.1 with
  | .nx => some (.fz .non, outsOf gs p.2)
  | .rt (.fz x) => some (.fz x, outsOf gs p.2)
  | .rt (.fr x) => some (.fr x, outsOf gs p.2)
  | _ => none) := by
  unfold fnS
  rw [if_pos h]
  all_goals rfl
@[simp] theorem lim_val : lim = 16777216 := rfl
/-! the operators at their kinds -/
@[simp] theorem r_add1 {i j : Int} : fAdd (.int i) (.int j) = some (.int (i + j)) := rfl
@[simp] theorem r_add2 {i j : List Nat} : fAdd (.str i) (.str j) = if i.length + j.length ≤ lim then some (.str (i ++ j)) else none := by
  show orF _ _ _ _ = _
  unfold orF fInt fCatS
  dsimp only
  split
  · rename_i h; exact h.symm
  · rename_i h; rw [h]; rfl
@[simp] theorem r_add3 {i j : List D} : fAdd (.lst i) (.lst j) = if i.length + j.length ≤ lim then some (.lst (i ++ j)) else none := by
  show orF _ _ _ _ = _
  unfold orF fInt fCatS fCatL fCatT
  dsimp only
  split
  · rename_i h; exact h.symm
  · rename_i h; rw [h]
@[simp] theorem r_sub {i j : Int} : fSub (.int i) (.int j) = some (.int (i - j)) := rfl
@[simp] theorem r_mul {i j : Int} : fMul (.int i) (.int j) = if cMul i j = true then some (.int (i * j)) else none := by
  show orF _ _ _ _ = _
  unfold orF fMulS fIntC
  by_cases h : cMul i j = true
  · simp [h]
  · simp [h]
@[simp] theorem r_muls {c : Nat} {n : Int} : fMul (.str [c]) (.int n) = if -1000000 ≤ n ∧ n ≤ 1000000 then some (.str (List.replicate n.toNat c)) else none := rfl
@[simp] theorem r_lts {i j : List Nat} : fLt (.str i) (.str j) = some (.bl (decide (i < j))) := rfl
@[simp] theorem r_div {i j : Int} : fDiv (.int i) (.int j) = if 0 < j ∧ j < 1073741824 then some (.int (i / j)) else none := by
  show (if decide _ = true then _ else _) = _
  simp only [decide_eq_true_eq]
@[simp] theorem r_mod {i j : Int} : fMod (.int i) (.int j) = if 0 < j then some (.int (i % j)) else none := by
  show (if decide _ = true then _ else _) = _
  simp only [decide_eq_true_eq]
@[simp] theorem r_pow {i j : Int} : fPow (.int i) (.int j) = if 0 ≤ j ∧ j ≤ 1000000 ∧ i.natAbs < 18446744073709551616 then some (.int (i ^ j.toNat)) else none := by
  show (if decide _ = true then _ else _) = _
  simp only [decide_eq_true_eq]
@[simp] theorem r_lt {i j : Int} : fLt (.int i) (.int j) = some (.bl (decide (i < j))) := rfl
@[simp] theorem r_le {i j : Int} : fLe (.int i) (.int j) = some (.bl (decide (i ≤ j))) := rfl
@[simp] theorem r_gt {i j : Int} : fGt (.int i) (.int j) = some (.bl (decide (j < i))) := rfl
@[simp] theorem r_ge {i j : Int} : fGe (.int i) (.int j) = some (.bl (decide (j ≤ i))) := rfl
@[simp] theorem r_eqi {i j : Int} : fEq (.int i) (.int j) = some (.bl (decide (i = j))) := rfl
@[simp] theorem r_eqs {i j : List Nat} : fEq (.str i) (.str j) = some (.bl (decide (i = j))) := rfl
@[simp] theorem r_eqb {i j : Bool} : fEq (.bl i) (.bl j) = some (.bl (decide (i = j))) := rfl
@[simp] theorem r_nei {i j : Int} : fNe (.int i) (.int j) = some (.bl (!decide (i = j))) := rfl
@[simp] theorem r_nes {i j : List Nat} : fNe (.str i) (.str j) = some (.bl (!decide (i = j))) := rfl
@[simp] theorem r_neb {i j : Bool} : fNe (.bl i) (.bl j) = some (.bl (!decide (i = j))) := rfl
@[simp] theorem r_isb {i j : Bool} : fIs (.bl i) (.bl j) = some (.bl (decide (i = j))) := rfl
@[simp] theorem r_ntb {i j : Bool} : fNt (.bl i) (.bl j) = some (.bl (!decide (i = j))) := rfl
@[simp] theorem r_ins {c : Nat} {z : List Nat} : fIn (.str [c]) (.str z) = some (.bl (decide (c ∈ z))) := rfl
@[simp] theorem r_nis {c : Nat} {z : List Nat} : fNi (.str [c]) (.str z) = some (.bl (!decide (c ∈ z))) := rfl
@[simp] theorem r_ixl {xs : List D} {i : Int} : fIx (.lst xs) (.int i) = atI xs i := by
  show orF _ _ _ _ = _
  unfold orF fIxL fIxT fIxS
  dsimp only
  split
  · rename_i h; exact h.symm
  · rename_i h; rw [h]
@[simp] theorem r_ixt {xs : List D} {i : Int} : fIx (.tup xs) (.int i) = atI xs i := by
  show orF _ _ _ _ = _
  unfold orF fIxL fIxT fIxS
  dsimp only
  split
  · rename_i h; exact h.symm
  · rename_i h; rw [h]
@[simp] theorem r_ixs {xs : List Nat} {i : Int} : fIx (.str xs) (.int i) = if xs.length ≤ lim then (atI xs i).bind fun c => some (.str [c]) else none := by
  show orF _ _ _ _ = _
  unfold orF fIxL fIxT fIxS
  rfl
@[simp] theorem r_sll {xs : List D} {l u : Option Int} : fSl (.lst xs) l u = some (.lst (cutL xs l u)) := rfl
@[simp] theorem r_sls {xs : List Nat} {l u : Option Int} : fSl (.str xs) l u = if xs.length ≤ lim then some (.str (cutL xs l u)) else none := rfl
@[simp] theorem r_neg {i : Int} : fNeg (.int i) = some (.int (-i)) := rfl
@[simp] theorem r_len1 {xs : List Nat} : cLen [.str xs] = if xs.length ≤ lim then some (.int xs.length) else none := rfl
@[simp] theorem r_len2 {xs : List D} : cLen [.lst xs] = some (.int xs.length) := rfl
@[simp] theorem r_len3 {xs : List D} : cLen [.tup xs] = some (.int xs.length) := rfl
@[simp] theorem r_int1 {i : Int} : cInt [.int i] = some (.int i) := rfl
@[simp] theorem atI_zero {α : Type} {x : α} {xs : List α} : atI (x :: xs) 0 = some x := by
  unfold atI ixN
  simp
@[simp] theorem ixN_lit {n k : Nat} : ixN n (no_index (OfNat.ofNat k : Int)) = if k < n then some k else none := by
  unfold ixN
  show (if (0 : Int) ≤ ((k : Nat) : Int) then (if ((k : Nat) : Int) < n then some ((k : Nat) : Int).toNat else none) else _) = _
  rw [if_pos (by omega)]
  by_cases h : k < n
  · rw [if_pos h, if_pos (by omega)]; simp
  · rw [if_neg h, if_neg (by omega)]
@[simp] theorem ixN_zero {n : Nat} : ixN n 0 = if 0 < n then some 0 else none := ixN_lit (k := 0)
@[simp] theorem ixN_one {n : Nat} : ixN n 1 = if 1 < n then some 1 else none := ixN_lit (k := 1)
theorem atI_lit' {α : Type} {xs : List α} {k : Nat} : atI xs ((k : Nat) : Int) = xs[k]? := by
  unfold atI
  have := ixN_lit (n := xs.length) (k := k)
  rw [show ixN xs.length ((k : Nat) : Int) = if k < xs.length then some k else none from this]
  by_cases h : k < xs.length
  · rw [if_pos h]; rfl
  · rw [if_neg h, List.getElem?_eq_none (by omega)]; rfl
@[simp] theorem atI_lit {α : Type} {xs : List α} {k : Nat} : atI xs (no_index (OfNat.ofNat k : Int)) = xs[k]? := atI_lit' (k := k)
@[simp] theorem atI_one {α : Type} {xs : List α} : atI xs (1 : Int) = xs[1]? := atI_lit' (k := 1)
end

/-! ### the laws' draws -/
def lawNextB : S := (sSeq (sAsg 2 (eBin fIx (eVar 0) (eC (.int 0))))
  (sSeq (sIf (tE (eBin fLt (eVar 2) (eBlt cLen (aCons (eBin fIx (eVar 0) (eC (.int 3))) aNil)))) (sSeq (sSetI 0 (eC (.int 0)) (eBin fAdd (eVar 2) (eC (.int 1))))
  (sRet (eBin fMod (eBlt cInt (aCons (eBin fIx (eBin fIx (eVar 0) (eC (.int 3))) (eVar 2)) aNil)) (eVar 1)))) sNx)
  (sSeq (sSetI 0 (eC (.int 1)) (eBin fMod (eBlt cInt (aCons (eBin fAdd (eBin fMul (eBin fIx (eVar 0) (eC (.int 1))) (eC (.int 48271))) (eC (.int 12345))) aNil)) (eC (.int 2147483647))))
  (sSeq (sSetI 0 (eC (.int 2)) (eBin fMod (eBlt cInt (aCons (eBin fAdd (eBin fMul (eBin fIx (eVar 0) (eC (.int 2))) (eC (.int 69621))) (eC (.int 777))) aNil)) (eC (.int 2147483629))))
  (sRet (eBin fMod (eBlt cInt (aCons (eBin fAdd (eBin fDiv (eBin fIx (eVar 0) (eC (.int 1))) (eC (.int 64))) (eBin fDiv (eBin fIx (eVar 0) (eC (.int 2))) (eC (.int 128)))) aNil)) (eVar 1)))))))
def lawNext : Fn := fnS 2 3 lawNextB
structure DrE (e : Int) (xs : List D) : Prop where
  ex : ∃ (k a b : Int) (ds : List Int), xs = [.int k, .int a, .int b, .lst (ds.map .int), .int e] ∧ 0 ≤ k
def Drw (xs : List D) : Prop := ∃ e, DrE e xs

theorem cMul_r {i j : Int} (h : -18446744073709551616 < j ∧ j < 18446744073709551616) : cMul i j = true := by
  unfold cMul
  rw [decide_eq_true h, Bool.or_true]
theorem ixN_nat {n k : Nat} (h : k < n) : ixN n (k : Int) = some k := by
  unfold ixN
  rw [if_pos (by omega), if_pos (by omega)]
  simp
theorem atI_int {α : Type} {xs : List α} {i : Int} (h0 : 0 ≤ i) (h1 : i < xs.length) : atI xs i = some (xs[i.toNat]'(by omega)) := by
  unfold atI
  have : ixN xs.length i = some i.toNat := by
    unfold ixN
    rw [if_pos h0, if_pos h1]
  rw [this]
  simp
theorem next_okE {xs : List D} {m e : Int} (h : DrE e xs) (hm : 0 < m) : ∃ r ys, lawNext [.li xs, .da (.int m)] = some (.fz (.int r), [ys]) ∧ 0 ≤ r ∧ r < m ∧ DrE e ys := by
  obtain ⟨k, a, b, ds, rfl, hk⟩ := h.ex
  by_cases hlt : k < (ds.length : Int)
  · refine ⟨(ds[k.toNat]'(by omega)) % m, [.int (k + 1), .int a, .int b, .lst (ds.map .int), .int e], ?_, Int.emod_nonneg _ (by omega), Int.emod_lt_of_pos _ hm, ⟨_, _, _, _, rfl, by omega⟩⟩
    have e1 : atI (ds.map D.int) k = some (.int (ds[k.toNat]'(by omega))) := by
      rw [atI_int hk (by simpa using hlt)]
      simp
    rw [lawNext, r_fnS (by rfl)]
    simp [lawNextB, hlt, hm, e1]
  · refine ⟨((a * 48271 + 12345) % 2147483647 / 64 + (b * 69621 + 777) % 2147483629 / 128) % m, [.int k, .int ((a * 48271 + 12345) % 2147483647), .int ((b * 69621 + 777) % 2147483629), .lst (ds.map .int), .int e], ?_, Int.emod_nonneg _ (by omega), Int.emod_lt_of_pos _ hm, ⟨_, _, _, _, rfl, hk⟩⟩
    have c1 : cMul a 48271 = true := cMul_r (by decide)
    have c2 : cMul b 69621 = true := cMul_r (by decide)
    rw [lawNext, r_fnS (by rfl)]
    simp [lawNextB, hlt, hm, c1, c2]

theorem next_ok {xs : List D} {m : Int} (h : Drw xs) (hm : 0 < m) : ∃ r ys, lawNext [.li xs, .da (.int m)] = some (.fz (.int r), [ys]) ∧ 0 ≤ r ∧ r < m ∧ Drw ys := by
  obtain ⟨e, h⟩ := h
  obtain ⟨r, ys, h1, h2, h3, h4⟩ := next_okE h hm
  exact ⟨r, ys, h1, h2, h3, e, h4⟩
def lawDrawI : S := (sIf (tE (eBin fGt (eVar 5) (eC (.int 0)))) (sSeq (sApp 1 (eBin fMod (eBlt cInt (aCons (eVar 5) aNil)) (eC (.int 5040))))
  (sAsg 5 (eBin fDiv (eVar 5) (eC (.int 5040))))) sNx)
def lawDrawL : S := (sSeq (sAsg 2 (eBin fMod (eBlt cInt (aCons (eBin fAdd (eBin fMul (eVar 2) (eC (.int 48271))) (eVar 4)) aNil)) (eC (.int 2147483647))))
  (sSeq (sAsg 3 (eBin fMod (eBlt cInt (aCons (eBin fAdd (eBin fMul (eVar 3) (eC (.int 69621))) (eBin fDiv (eVar 4) (eC (.int 1009)))) aNil)) (eC (.int 2147483629))))
  (sSeq (sAsg 5 (eVar 4))
  (sSeq (sIf (tE (eBin fLt (eVar 4) (eBin fPow (eC (.int 10)) (eC (.int 18))))) (sAsg 5 (eC (.int 0))) sNx)
  (sFor (iR1 (aCons (eC (.int 60)) aNil)) (gN 6) lawDrawI)))))
def lawDrawB : S := (sSeq (sAsg 1 (eLst aNil))
  (sSeq (sAsg 2 (eC (.int 7)))
  (sSeq (sAsg 3 (eC (.int 11)))
  (sSeq (sFor (iSq (eVar 0)) (gN 4) lawDrawL)
  (sRet (eLst (aCons (eC (.int 0)) (aCons (eVar 2) (aCons (eVar 3) (aCons (eVar 1) (aCons (eC (.int 3)) aNil)))))))))))
def lawDraw : Fn := fnS 1 7 lawDrawB
theorem rngL_get {lo : Int} {n i : Nat} {x : D} (h : (rngL lo n)[i]? = some x) : i < n ∧ x = .int (lo + i) := by
  unfold rngL at h
  rw [List.getElem?_map] at h
  cases e : (List.range n)[i]? with
  | none => rw [e] at h; cases h
  | some j =>
    rw [e] at h
    obtain ⟨h1, h2⟩ := List.getElem?_eq_some_iff.mp e
    rw [List.length_range] at h1
    rw [List.getElem_range] at h2
    cases h
    exact ⟨h1, by rw [h2]⟩
theorem rngL_len {lo : Int} {n : Nat} : (rngL lo n).length = n := by unfold rngL; simp
theorem draw_okE {ns : List Int} (h : ns.length ≤ 63) : ∃ xs, lawDraw [.da (.scr ns)] = some (.fr xs, []) ∧ DrE 3 xs := by
  have key : Sv lawDrawB [.d (.scr ns), .no, .no, .no, .no, .no, .no] fun fl ρ' => ∃ xs, fl = .rt (.fr xs) ∧ DrE 3 xs := by
    refine sv_seq_eq (ρ1 := [.d (.scr ns), .ow [], .no, .no, .no, .no, .no]) (by simp) ?_
    refine sv_seq_eq (ρ1 := [.d (.scr ns), .ow [], .d (.int 7), .no, .no, .no, .no]) (by simp) ?_
    refine sv_seq_eq (ρ1 := [.d (.scr ns), .ow [], .d (.int 7), .d (.int 11), .no, .no, .no]) (by simp) ?_
    have hl : ∃ ρ', sFor (iSq (eVar 0)) (gN 4) lawDrawL [.d (.scr ns), .ow [], .d (.int 7), .d (.int 11), .no, .no, .no] = some (.nx, ρ') ∧ ∃ (ds : List Int) (a b : Int) (s4 s5 s6 : Sl), ρ' = [.d (.scr ns), .ow (ds.map .int), .d (.int a), .d (.int b), s4, s5, s6] ∧ ds.length ≤ 60 * (ns.map D.int).length ∧ ioQ (some s4) = false ∧ ioQ (some s5) = false ∧ ioQ (some s6) = false := by
      refine sFor_inv (fun i ρ => ∃ (ds : List Int) (a b : Int) (s4 s5 s6 : Sl), ρ = [.d (.scr ns), .ow (ds.map .int), .d (.int a), .d (.int b), s4, s5, s6] ∧ ds.length ≤ 60 * i ∧ ioQ (some s4) = false ∧ ioQ (some s5) = false ∧ ioQ (some s6) = false) (by simp) ⟨[], 7, 11, .no, .no, .no, rfl, by simp, rfl, rfl, rfl⟩ ?_
      rintro i x hx ρ ⟨ds, a, b, s4, s5, s6, rfl, hd, h4, h5, h6⟩
      rw [List.getElem?_map] at hx
      obtain ⟨n, hn, rfl⟩ : ∃ n, ns[i]? = some n ∧ x = .int n := by
        cases e : ns[i]? with
        | none => rw [e] at hx; cases hx
        | some n => rw [e] at hx; cases hx; exact ⟨n, rfl, rfl⟩
      have hi : i < 63 := by
        have := (List.getElem?_eq_some_iff.mp hn).1
        omega
      refine ⟨[.d (.scr ns), .ow (ds.map .int), .d (.int a), .d (.int b), .d (.int n), s5, s6], by simp [h4], ?_⟩
      have c1 : cMul a 48271 = true := cMul_r (by decide)
      have c2 : cMul b 69621 = true := cMul_r (by decide)
      show Sv _ _ fun fl ρ2 => (fl = .nx ∨ fl = .ct) ∧ _
      refine sv_seq_eq (ρ1 := [.d (.scr ns), .ow (ds.map .int), .d (.int ((a * 48271 + n) % 2147483647)), .d (.int b), .d (.int n), s5, s6]) (by simp [c1]) ?_
      refine sv_seq_eq (ρ1 := [.d (.scr ns), .ow (ds.map .int), .d (.int ((a * 48271 + n) % 2147483647)), .d (.int ((b * 69621 + n / 1009) % 2147483629)), .d (.int n), s5, s6]) (by simp [c2]) ?_
      refine sv_seq_eq (ρ1 := [.d (.scr ns), .ow (ds.map .int), .d (.int ((a * 48271 + n) % 2147483647)), .d (.int ((b * 69621 + n / 1009) % 2147483629)), .d (.int n), .d (.int n), s6]) (by simp [h5]) ?_
      refine sv_seq_eq (ρ1 := [.d (.scr ns), .ow (ds.map .int), .d (.int ((a * 48271 + n) % 2147483647)), .d (.int ((b * 69621 + n / 1009) % 2147483629)), .d (.int n), .d (.int (if n < 10 ^ 18 then 0 else n)), s6]) ?_ ?_
      · by_cases q : n < 1000000000000000000
        · simp [q]
        · simp [q]
      generalize (if n < (10 ^ 18 : Int) then 0 else n) = r0
      generalize (a * 48271 + n) % 2147483647 = a1
      generalize (b * 69621 + n / 1009) % 2147483629 = b1
      have hl2 : ∃ ρ', sFor (iR1 (aCons (eC (.int 60)) aNil)) (gN 6) lawDrawI [.d (.scr ns), .ow (ds.map .int), .d (.int a1), .d (.int b1), .d (.int n), .d (.int r0), s6] = some (.nx, ρ') ∧ ∃ (ds' : List Int) (r : Int) (s6 : Sl), ρ' = [.d (.scr ns), .ow (ds'.map .int), .d (.int a1), .d (.int b1), .d (.int n), .d (.int r), s6] ∧ ds'.length ≤ 60 * i + (rngL 0 60).length ∧ ioQ (some s6) = false := by
        refine sFor_inv (fun j ρ => ∃ (ds' : List Int) (r : Int) (s6 : Sl), ρ = [.d (.scr ns), .ow (ds'.map .int), .d (.int a1), .d (.int b1), .d (.int n), .d (.int r), s6] ∧ ds'.length ≤ 60 * i + j ∧ ioQ (some s6) = false) (by simp) ⟨ds, r0, s6, rfl, by omega, h6⟩ ?_
        rintro j x hx ρ ⟨ds', r, s6, rfl, hd', h6⟩
        obtain ⟨hj, rfl⟩ := rngL_get hx
        have hj : j < 60 := hj
        refine ⟨[.d (.scr ns), .ow (ds'.map .int), .d (.int a1), .d (.int b1), .d (.int n), .d (.int r), .d (.int (0 + j))], by simp [h6], ?_⟩
        have hl : (ds'.map D.int).length < lim := by
          rw [List.length_map]
          show _ < 16777216
          omega
        by_cases q : 0 < r
        · refine ⟨.nx, [.d (.scr ns), .ow ((ds' ++ [r % 5040]).map .int), .d (.int a1), .d (.int b1), .d (.int n), .d (.int (r / 5040)), .d (.int (0 + j))], ?_, .inl rfl, ds' ++ [r % 5040], r / 5040, .d (.int (0 + j)), rfl, by rw [List.length_append]; simp; omega, rfl⟩
          rw [List.length_map] at hl
          simp [lawDrawI, q, hl]
        · refine ⟨.nx, [.d (.scr ns), .ow (ds'.map .int), .d (.int a1), .d (.int b1), .d (.int n), .d (.int r), .d (.int (0 + j))], ?_, .inl rfl, ds', r, .d (.int (0 + j)), rfl, by omega, rfl⟩
          simp [lawDrawI, q]
      obtain ⟨ρ', e, ds', r', s6', rfl, hd', h6'⟩ := hl2
      rw [rngL_len] at hd'
      exact ⟨.nx, _, e, .inl rfl, ds', a1, b1, .d (.int n), .d (.int r'), s6', rfl, by omega, rfl, rfl, h6'⟩
    obtain ⟨ρ', e, ds, a, b, s4, s5, s6, rfl, hd, _⟩ := hl
    refine sv_seq_eq e ?_
    exact ⟨_, _, by simp; rfl, _, rfl, ⟨0, a, b, ds, rfl, by decide⟩⟩
  obtain ⟨fl, ρ', e, xs, rfl, hx⟩ := key
  refine ⟨xs, ?_, hx⟩
  rw [lawDraw, r_fnS (by rfl)]
  show (lawDrawB [.d (.scr ns), .no, .no, .no, .no, .no, .no]).bind _ = _
  rw [e]
  cases ρ' <;> rfl
theorem draw_ok {ns : List Int} (h : ns.length ≤ 63) : ∃ xs, lawDraw [.da (.scr ns)] = some (.fr xs, []) ∧ Drw xs :=
  let ⟨xs, h1, h2⟩ := draw_okE h
  ⟨xs, h1, 3, h2⟩
end Sw
/-! Sw10: comprehensions in the pure semantics; the letters that most laws draw. -/
namespace Sw
open L2

theorem iR1_ok {ms : M (List Vl)} {ρ ρ' : Rho} {j : Int} (h : ms ρ = some ([.fz (.int j)], ρ')) (h0 : -1000000 ≤ j) (h1 : j ≤ 1000000) : iR1 ms ρ = some (rngL 0 j.toNat, ρ') := by
  have q : -(2 ^ 62) ≤ j ∧ j < 2 ^ 62 := ⟨Int.le_trans (by decide) h0, Int.lt_of_le_of_lt h1 (by decide)⟩
  unfold iR1
  rw [h]
  show (if _ then _ else _) = _
  rw [if_pos q]
theorem outs_dn {x : D} {gs : List Ag} (h : ∀ r, outsOf gs r = []) : ∀ r, outsOf (.da x :: gs) r = []
  | [] => rfl
  | s :: r => by rw [r_outs1]; exact h r
@[simp] theorem outs_d1 {x : D} {r : Rho} : outsOf [.da x] r = [] := outs_dn (fun _ => r_outs0) r
@[simp] theorem outs_d2 {x y : D} {r : Rho} : outsOf [.da x, .da y] r = [] := outs_dn (fun _ => outs_d1) r
@[simp] theorem outs_d3 {x y z : D} {r : Rho} : outsOf [.da x, .da y, .da z] r = [] := outs_dn (fun _ => outs_d2) r
@[simp] theorem outs_d4 {x y z w : D} {r : Rho} : outsOf [.da x, .da y, .da z, .da w] r = [] := outs_dn (fun _ => outs_d3) r
/-- a comprehension whose turns change nothing else -/
theorem lcM_pure {vs : List Nat} {g : D → Rho → Option Rho} {t : M Bool} {e : M Vl} {ρ : Rho} (p : D → Bool) (h : D → D) : ∀ (xs acc : List D),
    (∀ x ∈ xs, ∃ ρ1, g x ρ = some ρ1 ∧ t ρ1 = some (p x, ρ1) ∧ (p x = true → e ρ1 = some (.fz (h x), ρ1)) ∧ wipeR ρ1 vs = ρ) → acc.length + xs.length ≤ lim → lcM vs g t e xs acc ρ = some (acc ++ (xs.filter p).map h, ρ)
  | [], acc, _, _ => by simp [lcM]
  | x :: xs, acc, hx, hl => by
    obtain ⟨ρ1, e1, e2, e3, e4⟩ := hx x List.mem_cons_self
    rw [List.length_cons] at hl
    unfold lcM
    rw [e1]
    show (t ρ1).bind _ = _
    rw [e2]
    show (if p x = true then _ else _) = _
    by_cases q : p x = true
    · rw [if_pos q, e3 q]
      show (if acc.length < lim then _ else _) = _
      rw [if_pos (by omega)]
      show lcM vs g t e xs (acc ++ [h x]) (wipeR ρ1 vs) = _
      rw [e4, lcM_pure p h xs _ (fun y hy => hx y (List.mem_cons_of_mem _ hy)) (by rw [List.length_append, List.length_singleton]; omega), List.filter_cons, if_pos q]
      simp
    · rw [if_neg q]
      show lcM vs g t e xs acc (wipeR ρ1 vs) = _
      rw [e4, lcM_pure p h xs _ (fun y hy => hx y (List.mem_cons_of_mem _ hy)) (by omega), List.filter_cons, if_neg q]
/-- .. and one with an invariant of the slots and of the list so far -/
theorem lcM_inv {vs : List Nat} {g : D → Rho → Option Rho} {t : M Bool} {e : M Vl} (I : Nat → List D → Rho → Prop) : ∀ (xs acc : List D) (k : Nat) (ρ : Rho), I k acc ρ →
    (∀ (i : Nat) (x : D), xs[i]? = some x → ∀ acc ρ, I (k + i) acc ρ → ∃ ρ1, g x ρ = some ρ1 ∧ ∃ b ρ2, t ρ1 = some (b, ρ2) ∧ (if b = true then ∃ r ρ3 z ρ4, e ρ2 = some (r, ρ3) ∧ frz ρ3 (stl r) = some (z, ρ4) ∧ acc.length < lim ∧ I (k + i + 1) (acc ++ [z]) (wipeR ρ4 vs) else I (k + i + 1) acc (wipeR ρ2 vs))) →
    ∃ acc' ρ', lcM vs g t e xs acc ρ = some (acc', ρ') ∧ I (k + xs.length) acc' ρ'
  | [], acc, k, ρ, h, _ => ⟨acc, ρ, rfl, h⟩
  | x :: xs, acc, k, ρ, h, step => by
    obtain ⟨ρ1, e1, b, ρ2, e2, h2⟩ := step 0 x rfl acc ρ h
    have next : ∀ (acc : List D) (ρ : Rho), I (k + 1) acc ρ → ∃ acc' ρ', lcM vs g t e xs acc ρ = some (acc', ρ') ∧ I (k + (x :: xs).length) acc' ρ' := fun acc ρ hI => by
      obtain ⟨acc', ρ', h3, h4⟩ := lcM_inv I xs acc (k + 1) ρ hI fun i y hy acc ρ h => by
        have := step (i + 1) y (by simpa using hy) acc ρ (by rw [show k + (i + 1) = k + 1 + i by omega]; exact h)
        rw [show k + (i + 1) + 1 = k + 1 + i + 1 by omega] at this
        exact this
      exact ⟨acc', ρ', h3, by rw [List.length_cons, show k + (xs.length + 1) = k + 1 + xs.length by omega]; exact h4⟩
    have un : lcM vs g t e (x :: xs) acc ρ = (g x ρ).bind fun ρ1 => (t ρ1).bind fun p => if p.1 = true then (e p.2).bind fun q => (frz q.2 (stl q.1)).bind fun z => if acc.length < lim then lcM vs g t e xs (acc ++ [z.1]) (wipeR z.2 vs) else none else lcM vs g t e xs acc (wipeR p.2 vs) := by
      conv => lhs; unfold lcM
    cases b with
    | true =>
      simp only [if_true] at h2
      obtain ⟨r, ρ3, z, ρ4, e3, e4, hl, h5⟩ := h2
      obtain ⟨acc', ρ', h6, h7⟩ := next _ _ h5
      refine ⟨acc', ρ', ?_, h7⟩
      rw [un, e1]
      show (t ρ1).bind _ = _
      rw [e2]
      show (e ρ2).bind _ = _
      rw [e3]
      show (frz ρ3 (stl r)).bind _ = _
      rw [e4]
      show (if acc.length < lim then _ else _) = _
      rw [if_pos hl]
      exact h6
    | false =>
      simp only [Bool.false_eq_true, if_false] at h2
      obtain ⟨acc', ρ', h6, h7⟩ := next _ _ h2
      refine ⟨acc', ρ', ?_, h7⟩
      rw [un, e1]
      show (t ρ1).bind _ = _
      rw [e2]
      exact h6
@[simp] theorem r_wipeR0 {ρ : Rho} : wipeR ρ [] = ρ := rfl
@[simp] theorem r_wipeR1 {ρ : Rho} {v : Nat} {vs : List Nat} : wipeR ρ (v :: vs) = (wipeR ρ vs).set v .no := rfl
@[simp] theorem r_backR0 {ρ0 ρ : Rho} : backR ρ0 ρ [] = ρ := rfl
@[simp] theorem r_backR1 {ρ0 ρ : Rho} {v : Nat} {vs : List Nat} : backR ρ0 ρ (v :: vs) = (backR ρ0 ρ vs).set v ((ρ0[v]?).getD .no) := rfl
@[simp] theorem r_plain1 : plainSl (some .no) = true := rfl
@[simp] theorem r_plain2 {x : D} : plainSl (some (.d x)) = true := rfl
theorem eLc_of {vs : List Nat} {src : M (List D)} {g : D → Rho → Option Rho} {t : M Bool} {e : M Vl} {ρ ρ1 ρ2 : Rho} {xs acc : List D} (h1 : src ρ = some (xs, ρ1)) (h2 : (vs.all fun v => plainSl ρ1[v]?) = true) (h3 : lcM vs g t e xs [] (wipeR ρ1 vs) = some (acc, ρ2)) : eLc vs src g t e ρ = some (.fr acc, backR ρ1 ρ2 vs) := by
  unfold eLc
  rw [h1]
  show (if _ then _ else _) = _
  rw [if_pos h2, h3]
  rfl
/-- join of a list of one-sign texts -/
theorem strsOf_map (cs : List (List Nat)) : strsOf (cs.map D.str) = some cs := by
  induction cs with
  | nil => rfl
  | cons c cs ih =>
    show (strsOf (cs.map D.str)).bind _ = _
    rw [ih]
    rfl
theorem join_nil : ∀ ys : List (List Nat), TL.joinL [] ys = ys.flatten
  | [] => rfl
  | [y] => by simp [TL.joinL]
  | y :: z :: r => by
    show y ++ ([] ++ TL.joinL [] (z :: r)) = _
    rw [join_nil (z :: r)]
    simp
theorem join_empty {cs : List (List Nat)} (h : (cs.map (·.length)).sum ≤ lim) : fJoin (.str []) [.lst (cs.map D.str)] = some (.str cs.flatten) := by
  unfold fJoin
  dsimp only
  rw [strsOf_map]
  show (if _ then _ else _) = _
  rw [if_pos (by simpa using h), join_nil]
/-- the texts of single signs -/
theorem flat1 : ∀ cs : List Nat, (cs.map fun c => [c]).flatten = cs
  | [] => rfl
  | c :: cs => by rw [List.map_cons, List.flatten_cons, flat1 cs]; rfl
theorem sum1 : ∀ cs : List Nat, ((cs.map fun c => [c]).map (·.length)).sum = cs.length
  | [] => rfl
  | c :: cs => by
    rw [List.map_cons, List.map_cons, List.sum_cons, sum1 cs, List.length_cons]
    show 1 + cs.length = cs.length + 1
    omega
theorem join_signs {cs : List Nat} (h : cs.length ≤ lim) : fJoin (.str []) [.lst (cs.map fun c => D.str [c])] = some (.str cs) := by
  have e : (cs.map fun c => D.str [c]) = (cs.map fun c => [c]).map D.str := by rw [List.map_map]; rfl
  rw [e, join_empty (by rw [sum1]; exact h), flat1]
/-! ### three different places -/
theorem cnt3 {a b c : Nat} (hab : a ≠ b) (hac : a ≠ c) (hbc : b ≠ c) : ∀ n : Nat, ((List.range n).filter fun k => decide (k = a) || (decide (k = b) || decide (k = c))).length = (if a < n then 1 else 0) + (if b < n then 1 else 0) + (if c < n then 1 else 0)
  | 0 => by simp
  | n + 1 => by
    rw [List.range_succ, List.filter_append, List.length_append, cnt3 hab hac hbc n]
    by_cases q1 : n = a
    · subst q1; simp; (repeat' split) <;> omega
    · by_cases q2 : n = b
      · subst q2; simp [q1]; (repeat' split) <;> omega
      · by_cases q3 : n = c
        · subst q3; simp [q1, q2]; (repeat' split) <;> omega
        · simp [q1, q2, q3]
          (repeat' split) <;> omega

def lawT1 : List Nat := [9, 10, 32, 33, 34, 35, 36, 38, 39, 40, 41, 42, 43, 44, 45, 46, 47, 48, 49, 50, 51, 52, 53, 54, 55, 56, 57, 58, 59, 60, 61, 62, 63, 64, 65, 66, 67, 68, 69, 70, 71, 72, 73, 74, 75, 76, 77, 78, 79, 80, 81, 82, 83, 84, 85, 86, 87, 88, 89, 90, 91, 92, 93, 94, 95, 96]
def lawT2 : List Nat := [97, 98, 99, 100, 101, 102, 103, 104, 105, 106, 107, 108, 109, 110, 111, 112, 113, 114, 115, 116, 117, 118, 119, 120, 121, 122, 123, 124, 125, 126]
/-- the 96 signs -/
def SGN : List Nat := lawT1 ++ lawT2
theorem SGN_len : SGN.length = 96 := by decide
def lawSignsB : S := (sSeq (sAsg 0 (eC (.str lawT1)))
  (sRet (eBin fAdd (eVar 0) (eC (.str lawT2)))))
def lawSigns : Fn := fnS 0 1 lawSignsB
theorem signs_ok : lawSigns [] = some (.fz (.str SGN), []) := by
  rw [lawSigns, r_fnS (by rfl)]
  simp [lawSignsB, SGN, show lawT1.length + lawT2.length ≤ lim by decide]
def lawLetC : M Vl := (eLc [6] (iR1 (aCons (eC (.int 96)) aNil)) (gN 6) (tOr (tE (eBin fEq (eVar 6) (eVar 3))) (tOr (tE (eBin fEq (eVar 6) (eVar 4))) (tE (eBin fEq (eVar 6) (eVar 5))))) (eBin fIx (eVar 2) (eVar 6)))
def lawLettersB : S := (sSeq (sAsg 1 (eCall lawNext [true, false] (aCons (eVar 0) (aCons (eC (.int 6)) aNil))))
  (sSeq (sIf (tE (eBin fEq (eVar 1) (eC (.int 0)))) (sRet (eC (.str [10, 97, 98]))) sNx)
  (sSeq (sIf (tE (eBin fEq (eVar 1) (eC (.int 1)))) (sRet (eC (.str [32, 97, 98]))) sNx)
  (sSeq (sIf (tE (eBin fEq (eVar 1) (eC (.int 2)))) (sRet (eC (.str [97, 98, 99]))) sNx)
  (sSeq (sAsg 2 (eCall lawSigns [] aNil))
  (sSeq (sAsg 3 (eCall lawNext [true, false] (aCons (eVar 0) (aCons (eC (.int 96)) aNil))))
  (sSeq (sAsg 4 (eBin fMod (eBlt cInt (aCons (eBin fAdd (eBin fAdd (eVar 3) (eC (.int 1))) (eCall lawNext [true, false] (aCons (eVar 0) (aCons (eC (.int 95)) aNil)))) aNil)) (eC (.int 96))))
  (sSeq (sAsg 5 (eBin fMod (eBlt cInt (aCons (eBin fAdd (eBin fAdd (eVar 3) (eC (.int 1))) (eCall lawNext [true, false] (aCons (eVar 0) (aCons (eC (.int 95)) aNil)))) aNil)) (eC (.int 96))))
  (sSeq (sIf (tE (eBin fEq (eVar 5) (eVar 4))) (sAsg 5 (eBin fMod (eBlt cInt (aCons (eBin fAdd (eVar 5) (eC (.int 1))) aNil)) (eC (.int 96)))) sNx)
  (sSeq (sIf (tE (eBin fEq (eVar 5) (eVar 3))) (sAsg 5 (eBin fMod (eBlt cInt (aCons (eBin fAdd (eVar 5) (eC (.int 1))) aNil)) (eC (.int 96)))) sNx)
  (sRet (eMet fJoin (eC (.str [])) (aCons lawLetC aNil)))))))))))))
def lawLetters : Fn := fnS 1 7 lawLettersB
/-- a call of the draw: the slot's list turns, the answer is a number below m -/
theorem draw_call {ρ : Rho} {i : Nat} {xs : List D} {m : Int} (h : Drw xs) (hm : 0 < m) (hi : ρ[i]? = some (.ow xs) ∨ ρ[i]? = some (.io xs)) : ∃ r ys, eCall lawNext [true, false] (aCons (eVar i) (aCons (eC (.int m)) aNil)) ρ = some (.fz (.int r), put ρ i ys) ∧ 0 ≤ r ∧ r < m ∧ Drw ys := by
  obtain ⟨r, ys, e, h1, h2, h3⟩ := next_ok h hm
  refine ⟨r, ys, ?_, h1, h2, h3⟩
  rcases hi with hi | hi
  · simp [hi, e]
  · simp [hi, e]
theorem SGN_at {r : Int} (h0 : 0 ≤ r) (h1 : r < 96) : atI SGN r = some (SGN[r.toNat]'(by rw [SGN_len]; omega)) := atI_int h0 (by rw [SGN_len]; omega)
theorem let_comp {f s t : Nat} {io : List D} {c : D} (hf : f < 96) (hs : s < 96) (ht : t < 96) (n1 : f ≠ s) (n2 : f ≠ t) (n3 : s ≠ t) :
    ∃ cs : List Nat, cs.length = 3 ∧ lawLetC [.io io, .d c, .d (.str SGN), .d (.int f), .d (.int s), .d (.int t), .no] = some (.fr (cs.map fun c => .str [c]), [.io io, .d c, .d (.str SGN), .d (.int f), .d (.int s), .d (.int t), .no]) ∧ cs.Sublist SGN := by
  refine ⟨((List.range 96).filter fun k => decide (k = f) || (decide (k = s) || decide (k = t))).map fun k => SGN.getD k 0, ?_, ?_, ?_⟩
  · rw [List.length_map, cnt3 n1 n2 n3]
    simp [hf, hs, ht]
  · have hl := lcM_pure (vs := [6]) (g := gN 6) (t := (tOr (tE (eBin fEq (eVar 6) (eVar 3))) (tOr (tE (eBin fEq (eVar 6) (eVar 4))) (tE (eBin fEq (eVar 6) (eVar 5)))))) (e := (eBin fIx (eVar 2) (eVar 6))) (ρ := [.io io, .d c, .d (.str SGN), .d (.int f), .d (.int s), .d (.int t), .no])
      (fun x => match x with
        | .int k => decide (k = f) || (decide (k = s) || decide (k = t))
        | _ => false) (fun x => match x with
        | .int k => .str [SGN.getD k.toNat 0]
        | _ => .non) (rngL 0 96) [] (fun x hx => ?_) (by rw [rngL_len]; decide)
    · rw [List.nil_append] at hl
      have e := eLc_of (vs := [6]) (src := iR1 (aCons (eC (.int 96)) aNil)) (ρ := [.io io, .d c, .d (.str SGN), .d (.int f), .d (.int s), .d (.int t), .no]) (ρ1 := [.io io, .d c, .d (.str SGN), .d (.int f), .d (.int s), .d (.int t), .no]) (xs := rngL 0 96) (by simp) (by simp) hl
      unfold lawLetC
      rw [e]
      refine congrArg some (Prod.ext (congrArg Vl.fr ?_) rfl)
      unfold rngL
      rw [List.filter_map, List.map_map, List.map_map]
      have e2 : ((fun x : D => match x with
        | .int k => decide (k = f) || (decide (k = s) || decide (k = t))
        | _ => false) ∘ fun i : Nat => D.int (0 + (i : Int))) = fun k => decide (k = f) || (decide (k = s) || decide (k = t)) := by
        funext k
        show (decide ((0 : Int) + k = f) || (decide ((0 : Int) + k = s) || decide ((0 : Int) + k = t))) = _
        congr 1
        · exact decide_eq_decide.mpr (by omega)
        · congr 1
          · exact decide_eq_decide.mpr (by omega)
          · exact decide_eq_decide.mpr (by omega)
      rw [e2]
      apply List.map_congr_left
      intro k _
      show D.str [SGN.getD ((0 : Int) + k).toNat 0] = _
      rw [show ((0 : Int) + k).toNat = k by omega]
      rfl
    · obtain ⟨i, hi⟩ := List.mem_iff_getElem?.mp hx
      obtain ⟨hi96, rfl⟩ := rngL_get hi
      refine ⟨[.io io, .d c, .d (.str SGN), .d (.int f), .d (.int s), .d (.int t), .d (.int (0 + i))], by simp, ?_, fun _ => ?_, by simp⟩
      · generalize (0 : Int) + i = z
        by_cases q1 : z = f
        · simp [q1]
        · by_cases q2 : z = s
          · simp [q1, q2]
          · simp [q1, q2]
      · have e := SGN_at (r := (0 : Int) + i) (by omega) (by omega)
        have hl : SGN.length ≤ lim := by rw [SGN_len]; decide
        simp only [r_eBin, r_eVar, List.getElem?_cons_succ, List.getElem?_cons_zero, Option.bind_some, r_stl1, r_look1, r_ixs, hl, if_true, e]
        rw [List.getD_eq_getElem?_getD, List.getElem?_eq_getElem (by rw [SGN_len]; omega)]
        rfl
  · have e : (List.range 96).map (fun k => SGN.getD k 0) = SGN := by decide
    have := (List.filter_sublist (p := fun k => decide (k = f) || (decide (k = s) || decide (k = t))) (l := List.range 96)).map (fun k => SGN.getD k 0)
    rw [e] at this
    exact this

theorem sv_seq_rt {a b : S} {ρ ρ1 : Rho} {v : Vl} {Q : Fl → Rho → Prop} (e : a ρ = some (.rt v, ρ1)) (h : Q (.rt v) ρ1) : Sv (sSeq a b) ρ Q := sv_seq ⟨_, _, e, h⟩
theorem letters_sub {xs : List D} (h : Drw xs) : ∃ cs ys, lawLetters [.li xs] = some (.fz (.str cs), [ys]) ∧ cs.length = 3 ∧ cs.Sublist SGN ∧ Drw ys := by
  have key : Sv lawLettersB [.io xs, .no, .no, .no, .no, .no, .no] fun fl ρ' => ∃ cs ys r, fl = .rt (.fz (.str cs)) ∧ ρ' = .io ys :: r ∧ cs.length = 3 ∧ cs.Sublist SGN ∧ Drw ys := by
    obtain ⟨r0, y0, e0, a0, b0, h0⟩ := draw_call (ρ := [.io xs, .no, .no, .no, .no, .no, .no]) (i := 0) (m := 6) h (by decide) (.inr rfl)
    refine sv_seq_eq (ρ1 := [.io y0, .d (.int r0), .no, .no, .no, .no, .no]) (by rw [r_sAsg, e0]; simp) ?_
    by_cases q0 : r0 = 0
    · exact sv_seq_rt (v := .fz (.str [10, 97, 98])) (by simp [q0]; rfl) ⟨_, y0, _, rfl, rfl, rfl, by decide, h0⟩
    refine sv_seq_eq (ρ1 := [.io y0, .d (.int r0), .no, .no, .no, .no, .no]) (by simp [q0]) ?_
    by_cases q1 : r0 = 1
    · exact sv_seq_rt (v := .fz (.str [32, 97, 98])) (by simp [q1]; rfl) ⟨_, y0, _, rfl, rfl, rfl, by decide, h0⟩
    refine sv_seq_eq (ρ1 := [.io y0, .d (.int r0), .no, .no, .no, .no, .no]) (by simp [q1]) ?_
    by_cases q2 : r0 = 2
    · exact sv_seq_rt (v := .fz (.str [97, 98, 99])) (by simp [q2]; rfl) ⟨_, y0, _, rfl, rfl, rfl, by decide, h0⟩
    refine sv_seq_eq (ρ1 := [.io y0, .d (.int r0), .no, .no, .no, .no, .no]) (by simp [q2]) ?_
    refine sv_seq_eq (ρ1 := [.io y0, .d (.int r0), .d (.str SGN), .no, .no, .no, .no]) (by simp [signs_ok]) ?_
    obtain ⟨f, y1, e1, a1, b1, h1⟩ := draw_call (ρ := [.io y0, .d (.int r0), .d (.str SGN), .no, .no, .no, .no]) (i := 0) (m := 96) h0 (by decide) (.inr rfl)
    refine sv_seq_eq (ρ1 := [.io y1, .d (.int r0), .d (.str SGN), .d (.int f), .no, .no, .no]) (by rw [r_sAsg, e1]; simp) ?_
    obtain ⟨s, y2, e2, a2, b2, h2⟩ := draw_call (ρ := [.io y1, .d (.int r0), .d (.str SGN), .d (.int f), .no, .no, .no]) (i := 0) (m := 95) h1 (by decide) (.inr rfl)
    refine sv_seq_eq (ρ1 := [.io y2, .d (.int r0), .d (.str SGN), .d (.int f), .d (.int ((f + 1 + s) % 96)), .no, .no]) ?_ ?_
    · have e3 : eBin fAdd (eBin fAdd (eVar 3) (eC (.int 1))) (eCall lawNext [true, false] (aCons (eVar 0) (aCons (eC (.int 95)) aNil))) [.io y1, .d (.int r0), .d (.str SGN), .d (.int f), .no, .no, .no] = some (.fz (.int (f + 1 + s)), [.io y2, .d (.int r0), .d (.str SGN), .d (.int f), .no, .no, .no]) := by
        rw [r_eBin]
        simp only [r_eBin, r_eVar, r_eC, List.getElem?_cons_succ, List.getElem?_cons_zero, Option.bind_some, r_stl1, r_look1, r_add1, e2]
        rfl
      simp only [r_sAsg, r_eBin (f := fMod), r_eBlt, r_aCons, e3, Option.bind_some, r_aNil]
      simp
    obtain ⟨t, y3, e3, a3, b3, h3⟩ := draw_call (ρ := [.io y2, .d (.int r0), .d (.str SGN), .d (.int f), .d (.int ((f + 1 + s) % 96)), .no, .no]) (i := 0) (m := 95) h2 (by decide) (.inr rfl)
    refine sv_seq_eq (ρ1 := [.io y3, .d (.int r0), .d (.str SGN), .d (.int f), .d (.int ((f + 1 + s) % 96)), .d (.int ((f + 1 + t) % 96)), .no]) ?_ ?_
    · have e4 : eBin fAdd (eBin fAdd (eVar 3) (eC (.int 1))) (eCall lawNext [true, false] (aCons (eVar 0) (aCons (eC (.int 95)) aNil))) [.io y2, .d (.int r0), .d (.str SGN), .d (.int f), .d (.int ((f + 1 + s) % 96)), .no, .no] = some (.fz (.int (f + 1 + t)), [.io y3, .d (.int r0), .d (.str SGN), .d (.int f), .d (.int ((f + 1 + s) % 96)), .no, .no]) := by
        rw [r_eBin]
        simp only [r_eBin, r_eVar, r_eC, List.getElem?_cons_succ, List.getElem?_cons_zero, Option.bind_some, r_stl1, r_look1, r_add1, e3]
        rfl
      simp only [r_sAsg, r_eBin (f := fMod), r_eBlt, r_aCons, e4, Option.bind_some, r_aNil]
      simp
    -- the two exchanges
    generalize hs' : (f + 1 + s) % 96 = s'
    generalize ht' : (f + 1 + t) % 96 = t'
    have ns : s' ≠ f := by omega
    have nt : t' ≠ f := by omega
    have rs : 0 ≤ s' ∧ s' < 96 := by omega
    have rt : 0 ≤ t' ∧ t' < 96 := by omega
    clear hs' ht' e2 e3 e1 e0 a2 b2 a3 b3
    obtain ⟨t1, et1, rt1, nt1, nx1⟩ : ∃ t1, sIf (tE (eBin fEq (eVar 5) (eVar 4))) (sAsg 5 (eBin fMod (eBlt cInt (aCons (eBin fAdd (eVar 5) (eC (.int 1))) aNil)) (eC (.int 96)))) sNx [.io y3, .d (.int r0), .d (.str SGN), .d (.int f), .d (.int s'), .d (.int t'), .no] = some (.nx, [.io y3, .d (.int r0), .d (.str SGN), .d (.int f), .d (.int s'), .d (.int t1), .no]) ∧ (0 ≤ t1 ∧ t1 < 96) ∧ t1 ≠ s' ∧ (t1 = f → f = (s' + 1) % 96) := by
      by_cases q : t' = s'
      · exact ⟨(t' + 1) % 96, by simp [q], by omega, by omega, fun z => by omega⟩
      · exact ⟨t', by simp [q], rt, q, fun z => absurd z nt⟩
    refine sv_seq_eq et1 ?_
    obtain ⟨t2, et2, rt2, nt2, nt3⟩ : ∃ t2, sIf (tE (eBin fEq (eVar 5) (eVar 3))) (sAsg 5 (eBin fMod (eBlt cInt (aCons (eBin fAdd (eVar 5) (eC (.int 1))) aNil)) (eC (.int 96)))) sNx [.io y3, .d (.int r0), .d (.str SGN), .d (.int f), .d (.int s'), .d (.int t1), .no] = some (.nx, [.io y3, .d (.int r0), .d (.str SGN), .d (.int f), .d (.int s'), .d (.int t2), .no]) ∧ (0 ≤ t2 ∧ t2 < 96) ∧ t2 ≠ s' ∧ t2 ≠ f := by
      by_cases q : t1 = f
      · exact ⟨(t1 + 1) % 96, by simp [q], by omega, by have := nx1 q; omega, by omega⟩
      · exact ⟨t1, by simp [q], rt1, nt1, q⟩
    refine sv_seq_eq et2 ?_
    obtain ⟨cs, hl, ec, hm⟩ := let_comp (f := f.toNat) (s := s'.toNat) (t := t2.toNat) (io := y3) (c := .int r0) (by omega) (by omega) (by omega) (by omega) (by omega) (by omega)
    rw [show ((f.toNat : Nat) : Int) = f by omega, show ((s'.toNat : Nat) : Int) = s' by omega, show ((t2.toNat : Nat) : Int) = t2 by omega] at ec
    have ej := join_signs (cs := cs) (by rw [hl]; decide)
    refine ⟨.rt (.fz (.str cs)), [.io y3, .d (.int r0), .d (.str SGN), .d (.int f), .d (.int s'), .d (.int t2), .no], ?_, cs, y3, _, rfl, rfl, hl, hm, h3⟩
    rw [r_sRet, r_eMet, r_eC]
    simp only [Option.bind_some, r_aCons, ec, r_aNil, r_stl1, r_stl2, r_look1, r_looks0, r_looks1, ej]
  obtain ⟨fl, ρ', e, cs, ys, r, rfl, rfl, h1, h2, h3⟩ := key
  refine ⟨cs, ys, ?_, h1, h2, h3⟩
  rw [lawLetters, r_fnS (by rfl)]
  show (lawLettersB [.io xs, .no, .no, .no, .no, .no, .no]).bind _ = _
  rw [e]
  simp
theorem letters_ok {xs : List D} (h : Drw xs) : ∃ cs ys, lawLetters [.li xs] = some (.fz (.str cs), [ys]) ∧ cs.length = 3 ∧ (∀ c ∈ cs, c ∈ SGN) ∧ Drw ys :=
  let ⟨cs, ys, e, h1, h2, h3⟩ := letters_sub h
  ⟨cs, ys, e, h1, fun _ hc => h2.subset hc, h3⟩
end Sw
/-! Sw11: isinstance, find, text * int, text < text, [::-1]. -/
namespace Sw
open PySem PySem.Spec PyProof.Rows L2

/-! ### isinstance(x, T), T a built-in type -/
def tyN : D → String
  | .non => "NoneType"
  | .bl _ => "bool"
  | .int _ => "int"
  | .str _ => "str"
  | .lst _ => "list"
  | .tup _ => "tuple"
  | .scr _ => "list"
  | .obj _ _ _ => "object"
theorem tyx {K : PySem.W.Frag} {H F : Hp} {v : V} {x : D} (no : ∀ c ks xs, x ≠ .obj c ks xs) (s : Same F H) (h : Vw K H F v x) : TyX K H v (.type (tyN x)) := by
  cases x with
  | non => rw [vw_non h]; exact .base .non
  | bl b => rw [vw_bl h]; exact .base (.bl b)
  | int i => rw [vw_int h]; exact .base (.int i)
  | str t => rw [vw_str h]; exact .base (.str _)
  | lst xs => obtain ⟨a, vs, rfl, h1, _⟩ := h; exact .base (.lst h1)
  | tup xs =>
    cases (show Rep K F v (.tup xs) from h) with
    | tup h1 _ =>
      rcases same_t s h1 with (q | ⟨o, q⟩) | ⟨o, its, n, q, c, _⟩
      · exact .base (.tup q)
      · exact .fTuple q
      · exact .kTuple q c
  | scr xs =>
    cases (show Rep K F v (.scr xs) from h) with
    | scr h1 =>
      rcases s.seq h1 with (q | ⟨o, q⟩) | ⟨o, its, n, q, c, _⟩
      · exact .base (.lst q)
      · exact .base (.frz q)
      · exact .kList q c
  | obj c ks xs => exact absurd rfl (no c ks xs)
def isO : D → Bool
  | .obj _ _ _ => true
  | _ => false
def fIsi (T : String) : D → Option D := fun x => if isO x = true then none else (kitB (tyN x) T).bind fun b => some (.bl b)
theorem fIsi_no {T : String} {x z : D} (h : fIsi T x = some z) : (∀ c ks xs, x ≠ .obj c ks xs) ∧ ((kitB (tyN x) T).bind fun b => some (D.bl b)) = some z := by
  unfold fIsi at h
  split at h
  · cases h
  · rename_i n
    exact ⟨fun c ks xs z => n (by rw [z]; rfl), h⟩
section
variable {X : Cx} {a b c e : Expr} {ma mb mc me : M Vl} {pos p : Pos} {es : List Expr} {ms : M (List Vl)}
theorem se_isi {T : String} {y : Str} {p2 : Pos} (hm : X.mg "isinstance" = none) (hg : Gl X "isinstance") (hm2 : X.mg y = none) (hg2 : Gl X y) (hv : bootBuiltins y = some (.type T)) (ha : SE X a ma) (hn : y ≠ "__name__" := by decide) (hdb : (y == ("__debug__" : Str)) = false := by decide)
    (he : starEach [a, .Name y p2] X.env = (false, eval a X.env) :: starEach [.Name y p2] X.env := by rfl) (he2 : starEach [.Name y p2] X.env = (false, eval (.Name y p2) X.env) :: starEach [] X.env := by rfl) (hpl : (backTo pos (starEach [.Name y p2] X.env)).any (·.1) = false := by rfl) :
    SE X (.Call (.Name "isinstance" p) [a, .Name y p2] [] pos) (eUn (fIsi T) ma) := by
  have pT : PE X (.Name y p2) (tC (.ty T)) := pe_bltn hg2 hm2 hv rfl hn hdb
  refine pe_weak (pe_callB call_isi hg hm (by decide +kernel) (pa_cons ha (pa_cons pT pa_nil he2) he) (by decide) (by decide) he hpl) fun σ H Q ⟨G, ρ, F, r0, ρ', W, hm, q⟩ => ?_
  unfold eUn at hm
  obtain ⟨⟨x, ρ1⟩, e1, hm⟩ := Option.bind_eq_some_iff.mp hm
  obtain ⟨dx, e3, hm⟩ := Option.bind_eq_some_iff.mp hm
  obtain ⟨dz, e5, hm⟩ := Option.bind_eq_some_iff.mp hm
  cases hm
  refine tm_use W e1 fun v H1 F1 s1 R1 => ?_
  obtain ⟨no, e5⟩ := fIsi_no e5
  obtain ⟨bb, e6, e7⟩ := Option.bind_eq_some_iff.mp e5
  cases e7
  exact ⟨v, .ty T, _, _, bb, rfl, .ty T, tyx no s1.wd.sub (vw_of s1.wd R1 e3), kit_ty e6, q _ H1 F1 s1 (.bl bb)⟩
theorem st_isi {T : String} {y : Str} {p2 : Pos} (hm : X.mg "isinstance" = none) (hg : Gl X "isinstance") (hm2 : X.mg y = none) (hg2 : Gl X y) (hv : bootBuiltins y = some (.type T)) (ha : SE X a ma)
    (hw : ∀ whole, isTrue (.Call (.Name "isinstance" p) [a, .Name y p2] [] pos) X.env whole = (do let v ← whole; standAt (Expr.pos (.Call (.Name "isinstance" p) [a, .Name y p2] [] pos)); holding [v] (truthy v))) (hn : y ≠ "__name__" := by decide) (hdb : (y == ("__debug__" : Str)) = false := by decide)
    (he : starEach [a, .Name y p2] X.env = (false, eval a X.env) :: starEach [.Name y p2] X.env := by rfl) (he2 : starEach [.Name y p2] X.env = (false, eval (.Name y p2) X.env) :: starEach [] X.env := by rfl) (hpl : (backTo pos (starEach [.Name y p2] X.env)).any (·.1) = false := by rfl) :
    ST X (.Call (.Name "isinstance" p) [a, .Name y p2] [] pos) (tE (eUn (fIsi T) ma)) := st_val (se_isi hm hg hm2 hg2 hv ha hn hdb he he2 hpl) hw

/-! ### text.find(sign) -/
def findC (s : List Nat) (c : Nat) : Int := if c ∈ s then (s.idxOf c : Int) else -1
def fFind : D → List D → Option D
  | .str s, [.str [c]] => some (.int (findC s c))
  | _, _ => none
theorem find_txt (s : List Nat) (c : Nat) : Txt.find ⟨s.toArray⟩ ⟨#[c]⟩ = findC s c := by
  unfold Txt.find findC
  rcases PySem.StrLaws.occ_head ⟨s.toArray⟩ ⟨#[c]⟩ 1 (Nat.le_refl 1) with ⟨h1, h2⟩ | ⟨i, r, h1, h2, h3⟩
  · rw [h1, if_neg]
    intro hc
    obtain ⟨i, hi⟩ := List.mem_iff_getElem?.mp hc
    exact h2 i ((PySem.StrLaws.subAt_one _ c i).mpr (by simpa using hi))
  · rw [h1]
    have hi := (PySem.StrLaws.subAt_one _ c i).mp h2
    have hi : s[i]? = some c := by simpa using hi
    obtain ⟨hlt, hge⟩ := List.getElem?_eq_some_iff.mp hi
    have hm : c ∈ s := by rw [← hge]; exact List.getElem_mem hlt
    rw [if_pos hm]
    show ((i : Nat) : Int) = _
    have : s.idxOf c = i := by
      have hl : s.idxOf c < s.length := List.idxOf_lt_length_of_mem hm
      have hg : s[s.idxOf c] = c := List.getElem_idxOf hl
      by_cases q : s.idxOf c < i
      · exact absurd ((PySem.StrLaws.subAt_one ⟨s.toArray⟩ c (s.idxOf c)).mpr (by simpa [List.getElem?_eq_getElem hl] using hg)) (h3 _ q)
      · by_cases q2 : i < s.idxOf c
        · have := List.not_of_lt_findIdx (p := fun x => x == c) (xs := s) (i := i) (by simpa [List.idxOf] using q2)
          simp [hge] at this
        · omega
    rw [this]
theorem ms_find {K : PySem.W.Frag} : MetS K (fun x xs H Q => ∃ a b, x = .str a ∧ xs = [.str b] ∧ Q (.int (Txt.find a b)) H) fFind := by
  intro H F v vs x xs z s hx hxs e Q q
  unfold fFind at e
  split at e
  · cases e
    obtain ⟨u, rfl, hu⟩ := vws1 hxs
    rw [vw_str hx, vw_str hu]
    refine ⟨_, _, rfl, rfl, ?_⟩
    rw [find_txt]
    exact q _ H F (Alc.refl s) (.int _)
  · cases e
theorem se_find {o : Expr} {mo : M Vl} {apos cpos : Pos} (ho : SE X o mo) (ha : SA X [e] ms)
    (hbase : attributeBase o "find" X.env (eval o X.env) = eval o X.env := by rfl)
    (hfew : ((backTo cpos (starEach [e] X.env)).all (fun x => !x.1) && (backToKw cpos (keywordEach [] X.env)).all (fun x => x.1.isSome)
      && decide ([e].length + ([] : List Keyword).length + (if ([] : List Keyword).isEmpty then 0 else 1) < 30)) = true := by rfl)
    (hline : (apos.endLine == cpos.line) = true := by rfl) (hs : starEach [e] X.env = (false, eval e X.env) :: starEach [] X.env := by rfl) (hplain : (backTo cpos (starEach [] X.env)).any (·.1) = false := by rfl) :
    SE X (.Call (.Attribute o "find" apos) [e] [] cpos) (eMet fFind mo ms) := se_met PySem.F.slot_str_find PySem.F.type_str_find mt_find (fun x xs z h => by
  unfold fFind at h
  split at h
  · exact ⟨_, rfl⟩
  · cases h) ms_find ho ha hbase hfew hline hs hplain

/-! ### x[::-1] -/
def tRevS (te : TE) : TE := fun σ H Q => te σ H fun x H1 => ∃ z : Str, x = .str z ∧ z.length ≤ sizeLine ∧ Q (.str ⟨z.cps.toList.reverse.toArray⟩) H1
theorem rev_picked (z : Str) (st : Tok) : slicePicked z none none (some (-1, st)) = (List.range z.length).reverse := by
  unfold slicePicked Builtin.Str.strSliceIndices
  show sliceRange ((z.length : Int) - 1) (-1) (-1) = _
  rw [PySem.W.krv_sliceRange, PySem.W.krv_range]
theorem pe_revS {e : Expr} {te : TE} {k : Nat} {p1 p2 p3 pos : Pos} (he : PE X e te) : PE X (.Subscript e (.Slice none none (some (.UnaryOp .USub (.Constant (.int 1) k p1) p2)) p3) pos) (fun σ H Q => te σ H fun x H1 => (∃ a xs, x = .ref a ∧ SqL X.K H1 a xs ∧ ∀ p, H1 p = none → Q (.ref p) (upd H1 p (.lst xs.reverse))) ∨ ∃ z : Str, x = .str z ∧ z.length ≤ sizeLine ∧ Q (.str ⟨z.cps.toList.reverse.toArray⟩) H1) := by
  refine ⟨fun pins s σ H Q I h => ?_⟩
  refine Subscript_ (thn (he.run pins s σ H _ I h) fun v s1 ⟨x, H1, I1, r1, q1⟩ => ?_)
  have hst : PO X (some (.UnaryOp .USub (.Constant (.int 1) k p1) p2)) (tPart (tUn (rU fun i => .int (-i)) (tC (.int 1)))) := po_some (pe_un un_neg pe_int)
  refine wpAny_Slice (thn (po_none.run pins s1 σ H1 (fun o H2 => o = none ∧ H2 = H1) I1 ⟨rfl, rfl⟩) fun vl s2 ⟨l, H2, I2, pl, el, e2⟩ => ?_)
  subst el e2
  refine thn (po_none.run pins s2 σ H2 (fun o H3 => o = none ∧ H3 = H2) I2 ⟨rfl, rfl⟩) fun vu s3 ⟨u, H3, I3, pu, eu, e3⟩ => ?_
  subst eu e3
  refine thn (hst.run pins s3 σ H3 (fun o H4 => o = some (-1) ∧ H4 = H3) I3 ⟨1, rfl, -1, rfl, rfl, rfl⟩) fun vs s4 ⟨o, H4, I4, ps, eo, e4⟩ => ?_
  subst eo e4
  have I5 : Inv X pins σ H4 { s4 with heap := s4.heap.push { cls := .type "slice", data := .fields #[vl, vu, vs] } } := I4.kept (t' := s4.toks) fun b ob q => Heap.get?_push_of_some _ q
  rcases q1 with ⟨a, xs, ex, hx, q⟩ | ⟨z, ex, hz, q⟩
  · subst ex
    cases r1
    obtain ⟨its, r, ht, hz⟩ := I5.list hx
    have hlen := r.length
    show wpAny (model X.prog X.w) X.A (subscriptTail e (.Slice none none (some (.UnaryOp .USub (.Constant (.int 1) k p1) p2)) p3) (.ref a) (.ref s4.heap.objs.size)) (EP X pins σ Q) X.xe { s4 with heap := s4.heap.push { cls := .type "slice", data := .fields #[vl, vu, vs] } }
    refine tail_any (ops := [.ref a, .ref s4.heap.objs.size]) ht.isList.typeIs (PySem.slot_list_getitem.lookup) ?_ (by with_unfolding_all rfl)
    refine wpAny_getItem_list_slice ht.isList (Heap.IsSliceOf.new _ vl vu vs) pl pu ps (by decide) ?_ (by rw [List.size_toArray]; omega)
    rw [PySem.W.krv_pick]
    refine ⟨.ref _, _, I5.laid (t' := s4.toks) (o := .lst xs.reverse) (fun b ob q => Heap.get?_push_of_some _ q) (Nat.le_refl _) ?_, rfl, q _ (I5.hok.fresh (Nat.le_refl _))⟩
    exact ⟨by rw [List.length_reverse]; exact hz, _, 0, r.reverse, Heap.get?_push_size _ rfl⟩
  · subst ex
    obtain ⟨t, rfl⟩ := r1
    obtain ⟨l, rfl, hl⟩ := IsPart.raw pl
    obtain ⟨u, rfl, hu⟩ := IsPart.raw pu
    obtain ⟨st, rfl, hst⟩ := IsPart.raw ps
    cases l with
    | some _ => cases hl
    | none =>
    cases u with
    | some _ => cases hu
    | none =>
    cases st with
    | none => cases hst
    | some st =>
    obtain ⟨i, st⟩ := st
    cases hst
    show wpAny (model X.prog X.w) X.A (subscriptTail e (.Slice none none (some (.UnaryOp .USub (.Constant (.int 1) k p1) p2)) p3) (.str z t) (.ref s4.heap.objs.size)) (EP X pins σ Q) X.xe { s4 with heap := s4.heap.push { cls := .type "slice", data := .fields #[_, _, _] } }
    refine tail_any (ops := [.str z t, .ref s4.heap.objs.size]) (typeIs_str _ _ _) (F.slot_str_getitem.lookup) ?_ (by with_unfolding_all rfl)
    refine wpAny_getItem_str_slice (l := none) (u := none) (st := some (-1, st)) ⟨_, Heap.get?_push_size _ rfl, rfl, rfl⟩ rfl ?_
    unfold sliceMade
    rw [rev_picked, if_neg (by simp)]
    have e : (List.range z.length).reverse.filterMap (z.cps[·]?) = z.cps.toList.reverse := by
      rw [List.filterMap_reverse]
      exact congrArg _ (PySem.W.krv_all z.cps)
    rw [e]
    exact ⟨by show _ ≤ sizeLine; simpa [Str.length] using hz, .str _, H4, I5.tok _, ⟨_, rfl⟩, q⟩
def fRev : D → Option D
  | .lst xs => some (.lst xs.reverse)
  | .str s => if s.length ≤ lim then some (.str s.reverse) else none
  | _ => none
theorem se_rev {k : Nat} {p1 p2 p3 : Pos} (he : SE X e me) : SE X (.Subscript e (.Slice none none (some (.UnaryOp .USub (.Constant (.int 1) k p1) p2)) p3) pos) (eUn fRev me) := by
  refine pe_weak (pe_revS he) fun σ H Q ⟨G, ρ, F, r0, ρ', W, hm, q⟩ => ?_
  unfold eUn at hm
  obtain ⟨⟨x, ρ1⟩, e1, hm⟩ := Option.bind_eq_some_iff.mp hm
  obtain ⟨dx, e3, hm⟩ := Option.bind_eq_some_iff.mp hm
  obtain ⟨dz, e5, hm⟩ := Option.bind_eq_some_iff.mp hm
  cases hm
  refine tm_use W e1 fun v H1 F1 s1 R1 => ?_
  have hv := vw_of s1.wd R1 e3
  unfold fRev at e5
  split at e5
  · cases e5
    obtain ⟨a, vs, rfl, h1, h2⟩ := hv
    refine .inl ⟨a, vs, rfl, SqL.of h1, fun p hp => ?_⟩
    have A := Alc.new (o := HO.lst vs.reverse) s1.wd.sub hp
    exact q _ _ _ (s1.trans (s1.wd.alc A)) (.lst upd_same (h2.reverse.mono A.ff))
  · split at e5
    · rename_i hl
      cases e5
      rw [vw_str hv]
      exact .inr ⟨_, rfl, lim_of (by simpa [Str.length] using hl), by simpa using q _ H1 F1 s1 (.str _)⟩
    · cases e5
  · cases e5
end
/-! ### evaluation -/
section
@[simp] theorem r_fIsi1 {b : Bool} : fIsi "bool" (.bl b) = some (.bl true) := by unfold fIsi; rw [show kitB (tyN (.bl b)) "bool" = some true by show kitB "bool" "bool" = _; decide +kernel]; rfl
@[simp] theorem r_fIsi2 {i : Int} : fIsi "int" (.int i) = some (.bl true) := by unfold fIsi; rw [show kitB (tyN (.int i)) "int" = some true by show kitB "int" "int" = _; decide +kernel]; rfl
@[simp] theorem r_fIsi3 {i : Int} : fIsi "bool" (.int i) = some (.bl false) := by unfold fIsi; rw [show kitB (tyN (.int i)) "bool" = some false by show kitB "int" "bool" = _; decide +kernel]; rfl
@[simp] theorem r_fIsi4 {s : List Nat} : fIsi "str" (.str s) = some (.bl true) := by unfold fIsi; rw [show kitB (tyN (.str s)) "str" = some true by show kitB "str" "str" = _; decide +kernel]; rfl
@[simp] theorem r_fIsi5 {s : List D} : fIsi "list" (.lst s) = some (.bl true) := by unfold fIsi; rw [show kitB (tyN (.lst s)) "list" = some true by show kitB "list" "list" = _; decide +kernel]; rfl
@[simp] theorem r_fIsi6 {s : List D} : fIsi "tuple" (.tup s) = some (.bl true) := by unfold fIsi; rw [show kitB (tyN (.tup s)) "tuple" = some true by show kitB "tuple" "tuple" = _; decide +kernel]; rfl
@[simp] theorem r_fFind {s : List Nat} {c : Nat} : fFind (.str s) [.str [c]] = some (.int (findC s c)) := rfl
@[simp] theorem r_rev1 {xs : List D} : fRev (.lst xs) = some (.lst xs.reverse) := rfl
@[simp] theorem r_rev2 {xs : List Nat} : fRev (.str xs) = if xs.length ≤ lim then some (.str xs.reverse) else none := rfl
end
end Sw
/-! Sw12: what holds behind a piece (Ev, Sv, Fv): rules that go by the piece's head, and a lemma go that runs them. -/
namespace Sw
open L2

def Fv (f : Fn) (gs : List Ag) (Q : Vl → List (List D) → Prop) : Prop := ∃ r os, f gs = some (r, os) ∧ Q r os
theorem Fv.mono {f : Fn} {gs : List Ag} {Q Q' : Vl → List (List D) → Prop} (h : Fv f gs Q) (w : ∀ r os, Q r os → Q' r os) : Fv f gs Q' :=
  let ⟨r, os, e, q⟩ := h
  ⟨r, os, e, w r os q⟩
theorem fv_eq {f : Fn} {gs : List Ag} {r : Vl} {os : List (List D)} {Q : Vl → List (List D) → Prop} (h : f gs = some (r, os)) (q : Q r os) : Fv f gs Q := ⟨r, os, h, q⟩
theorem Ev.mono {α : Type} {m : M α} {ρ : Rho} {Q Q' : α → Rho → Prop} (h : Ev m ρ Q) (w : ∀ r ρ', Q r ρ' → Q' r ρ') : Ev m ρ Q' :=
  let ⟨r, os, e, q⟩ := h
  ⟨r, os, e, w r os q⟩
theorem Sv.mono {s : S} {ρ : Rho} {Q Q' : Fl → Rho → Prop} (h : Sv s ρ Q) (w : ∀ r ρ', Q r ρ' → Q' r ρ') : Sv s ρ Q' :=
  let ⟨r, os, e, q⟩ := h
  ⟨r, os, e, w r os q⟩
theorem ev_eq {α : Type} {m : M α} {ρ ρ' : Rho} {r : α} {Q : α → Rho → Prop} (h : m ρ = some (r, ρ')) (q : Q r ρ') : Ev m ρ Q := ⟨r, ρ', h, q⟩
/-- a bool that parts -/
def Brn (c : Bool) (A B : Prop) : Prop := (c = true → A) ∧ (c = false → B)
theorem brn_t {A B : Prop} (h : A) : Brn true A B := ⟨fun _ => h, fun z => Bool.noConfusion z⟩
theorem brn_f {A B : Prop} (h : B) : Brn false A B := ⟨fun z => Bool.noConfusion z, fun _ => h⟩
theorem brn_nT {A B : Prop} (h : B) : Brn (!true) A B := brn_f h
theorem brn_nF {A B : Prop} (h : A) : Brn (!false) A B := brn_t h
theorem brn_nn {c : Bool} {A B : Prop} (h : Brn c A B) : Brn (!!c) A B := by rw [Bool.not_not]; exact h
theorem brn_dt {p : Prop} [Decidable p] {A B : Prop} (hp : p) (h : A) : Brn (decide p) A B := ⟨fun _ => h, fun z => absurd hp (of_decide_eq_false z)⟩
theorem brn_df {p : Prop} [Decidable p] {A B : Prop} (hp : ¬ p) (h : B) : Brn (decide p) A B := ⟨fun z => absurd (of_decide_eq_true z) hp, fun _ => h⟩
theorem brn_nt {p : Prop} [Decidable p] {A B : Prop} (hp : ¬ p) (h : A) : Brn (!decide p) A B := by rw [decide_eq_false hp]; exact brn_t h
theorem brn_nf {p : Prop} [Decidable p] {A B : Prop} (hp : p) (h : B) : Brn (!decide p) A B := by rw [decide_eq_true hp]; exact brn_f h
theorem brn_d {p : Prop} [Decidable p] {A B : Prop} (h1 : p → A) (h2 : ¬ p → B) : Brn (decide p) A B := ⟨fun z => h1 (of_decide_eq_true z), fun z => h2 (of_decide_eq_false z)⟩
theorem brn_nd {p : Prop} [Decidable p] {A B : Prop} (h1 : ¬ p → A) (h2 : p → B) : Brn (!decide p) A B := by
  by_cases q : p
  · exact brn_nf q (h2 q)
  · exact brn_nt q (h1 q)
/-- an operation that gives z -/
def Giv (o : Option D) (Q : D → Prop) : Prop := ∃ z, o = some z ∧ Q z
theorem giv {o : Option D} {z : D} {Q : D → Prop} (h : o = some z) (q : Q z) : Giv o Q := ⟨z, h, q⟩
section
variable {ρ : Rho} {a b c : M Vl} {ms : M (List Vl)} {t u : M Bool} {s s' s'' : S} {f g : D → D → Option D} {Q : Vl → Rho → Prop} {QB : Bool → Rho → Prop} {QS : Fl → Rho → Prop} {QL : List Vl → Rho → Prop} {i : Nat}
theorem ev_c {x : D} (q : Q (.fz x) ρ) : Ev (eC x) ρ Q := ⟨_, _, rfl, q⟩
theorem ev_vd {x : D} (h : ρ[i]? = some (.d x)) (q : Q (.fz x) ρ) : Ev (eVar i) ρ Q := ⟨_, _, by rw [r_eVar, h], q⟩
theorem ev_vo {x : List D} (h : ρ[i]? = some (.ow x)) (q : Q (.bw i) ρ) : Ev (eVar i) ρ Q := ⟨_, _, by rw [r_eVar, h], q⟩
theorem ev_vi {x : List D} (h : ρ[i]? = some (.io x)) (q : Q (.bw i) ρ) : Ev (eVar i) ρ Q := ⟨_, _, by rw [r_eVar, h], q⟩
/-- two values seen -/
def See2 (ρ : Rho) (r r2 : Vl) (P : D → D → Prop) : Prop := ∃ x y, look ρ (stl r) = some x ∧ look ρ (stl r2) = some y ∧ P x y
def See1 (ρ : Rho) (r : Vl) (P : D → Prop) : Prop := ∃ x, look ρ (stl r) = some x ∧ P x
def Sees (ρ : Rho) (rs : List Vl) (P : List D → Prop) : Prop := ∃ xs, looks ρ rs = some xs ∧ P xs
theorem see2 {r r2 : Vl} {P : D → D → Prop} {x y : D} (h1 : look ρ (stl r) = some x) (h2 : look ρ (stl r2) = some y) (h : P x y) : See2 ρ r r2 P := ⟨x, y, h1, h2, h⟩
theorem see1 {r : Vl} {P : D → Prop} {x : D} (h1 : look ρ (stl r) = some x) (h : P x) : See1 ρ r P := ⟨x, h1, h⟩
theorem sees {rs : List Vl} {P : List D → Prop} {xs : List D} (h1 : looks ρ rs = some xs) (h : P xs) : Sees ρ rs P := ⟨xs, h1, h⟩
theorem ev_bin (h : Ev a ρ fun r ρ1 => Ev b ρ1 fun r2 ρ2 => See2 ρ2 r r2 fun x y => Giv (f x y) fun z => Q (.fz z) ρ2) : Ev (eBin f a b) ρ Q := by
  obtain ⟨r, ρ1, e1, r2, ρ2, e2, x, y, e3, e4, z, e5, q⟩ := h
  exact ⟨_, ρ2, by rw [r_eBin, e1]; simp only [Option.bind_some, e2, e3, e4, e5], q⟩
theorem ev_un {h' : D → Option D} (h : Ev a ρ fun r ρ1 => See1 ρ1 r fun x => Giv (h' x) fun z => Q (.fz z) ρ1) : Ev (eUn h' a) ρ Q := by
  obtain ⟨r, ρ1, e1, x, e3, z, e5, q⟩ := h
  exact ⟨_, ρ1, by rw [r_eUn, e1]; simp only [Option.bind_some, e3, e5], q⟩
theorem ev_anil (q : QL [] ρ) : Ev aNil ρ QL := ⟨_, _, rfl, q⟩
theorem ev_acons (h : Ev a ρ fun r ρ1 => Ev ms ρ1 fun rs ρ2 => QL (stl r :: rs) ρ2) : Ev (aCons a ms) ρ QL := by
  obtain ⟨r, ρ1, e1, r2, ρ2, e2, q⟩ := h
  exact ⟨_, ρ2, by rw [r_aCons, e1]; simp only [Option.bind_some, e2], q⟩
theorem ev_blt {h' : List D → Option D} (h : Ev ms ρ fun rs ρ1 => Sees ρ1 rs fun xs => Giv (h' xs) fun z => Q (.fz z) ρ1) : Ev (eBlt h' ms) ρ Q := by
  obtain ⟨r, ρ1, e1, x, e3, z, e5, q⟩ := h
  exact ⟨_, ρ1, by rw [r_eBlt, e1]; simp only [Option.bind_some, e3, e5], q⟩
theorem ev_met {h' : D → List D → Option D} (h : Ev a ρ fun r ρ1 => Ev ms ρ1 fun rs ρ2 => See1 ρ2 r fun x => Sees ρ2 rs fun xs => Giv (h' x xs) fun z => Q (.fz z) ρ2) : Ev (eMet h' a ms) ρ Q := by
  obtain ⟨r, ρ1, e1, rs, ρ2, e2, x, e3, xs, e4, z, e5, q⟩ := h
  exact ⟨_, ρ2, by rw [r_eMet, e1]; simp only [Option.bind_some, e2, e3, e4, e5], q⟩
theorem ev_ono {Q : Option Int → Rho → Prop} (q : Q none ρ) : Ev oNo ρ Q := ⟨_, _, rfl, q⟩
def IsI (r : Vl) (P : Int → Prop) : Prop := ∃ i, r = .fz (.int i) ∧ P i
theorem isI {i : Int} {P : Int → Prop} (h : P i) : IsI (.fz (.int i)) P := ⟨i, rfl, h⟩
theorem ev_osome {Q : Option Int → Rho → Prop} (h : Ev a ρ fun r ρ1 => IsI r fun i => Q (some i) ρ1) : Ev (oSome a) ρ Q := by
  obtain ⟨r, ρ1, e1, i, rfl, q⟩ := h
  exact ⟨_, ρ1, by rw [r_oSome, e1]; rfl, q⟩
theorem ev_sl {h' : D → Option Int → Option Int → Option D} {l o : M (Option Int)} (h : Ev a ρ fun r ρ1 => Ev l ρ1 fun lo ρ2 => Ev o ρ2 fun hi ρ3 => See1 ρ3 r fun x => Giv (h' x lo hi) fun z => Q (.fz z) ρ3) : Ev (eSl h' a l o) ρ Q := by
  obtain ⟨r, ρ1, e1, lo, ρ2, e2, hi, ρ3, e3, x, e4, z, e5, q⟩ := h
  exact ⟨_, ρ3, by rw [r_eSl, e1]; simp only [Option.bind_some, e2, e3, e4, e5], q⟩
def Frzs (ρ : Rho) (rs : List Vl) (P : List D → Rho → Prop) : Prop := ∃ xs ρ1, frzs ρ rs = some (xs, ρ1) ∧ P xs ρ1
theorem frzs' {rs : List Vl} {P : List D → Rho → Prop} {xs : List D} {ρ1 : Rho} (h1 : frzs ρ rs = some (xs, ρ1)) (h : P xs ρ1) : Frzs ρ rs P := ⟨xs, ρ1, h1, h⟩
theorem ev_tup (h : Ev ms ρ fun rs ρ1 => Frzs ρ1 rs fun xs ρ2 => xs.length ≤ lim ∧ Q (.fz (.tup xs)) ρ2) : Ev (eTup ms) ρ Q := by
  obtain ⟨rs, ρ1, e1, xs, ρ2, e2, hl, q⟩ := h
  exact ⟨_, ρ2, by rw [r_eTup, e1]; simp only [Option.bind_some, e2, hl, if_true], q⟩
theorem ev_lst (h : Ev ms ρ fun rs ρ1 => Frzs ρ1 rs fun xs ρ2 => xs.length ≤ lim ∧ Q (.fr xs) ρ2) : Ev (eLst ms) ρ Q := by
  obtain ⟨rs, ρ1, e1, xs, ρ2, e2, hl, q⟩ := h
  exact ⟨_, ρ2, by rw [r_eLst, e1]; simp only [Option.bind_some, e2, hl, if_true], q⟩
def IsB (r : Vl) (P : Bool → Prop) : Prop := ∃ b, r = .fz (.bl b) ∧ P b
theorem isB {i : Bool} {P : Bool → Prop} (h : P i) : IsB (.fz (.bl i)) P := ⟨i, rfl, h⟩
theorem ev_tE (h : Ev a ρ fun r ρ1 => IsB r fun b => QB b ρ1) : Ev (tE a) ρ QB := by
  obtain ⟨r, ρ1, e1, i, rfl, q⟩ := h
  exact ⟨_, ρ1, by rw [r_tE, e1]; rfl, q⟩
theorem ev_tyes (q : QB true ρ) : Ev tYesM ρ QB := ⟨_, _, rfl, q⟩
theorem ev_tAnd (h : Ev t ρ fun v ρ1 => Brn v (Ev u ρ1 QB) (QB false ρ1)) : Ev (tAnd t u) ρ QB := by
  obtain ⟨v, ρ1, e1, h1, h2⟩ := h
  cases v with
  | true => obtain ⟨r, ρ2, e2, q⟩ := h1 rfl; exact ⟨r, ρ2, by rw [r_tAnd, e1]; exact e2, q⟩
  | false => exact ⟨false, ρ1, by rw [r_tAnd, e1]; rfl, h2 rfl⟩
theorem ev_tOr (h : Ev t ρ fun v ρ1 => Brn v (QB true ρ1) (Ev u ρ1 QB)) : Ev (tOr t u) ρ QB := by
  obtain ⟨v, ρ1, e1, h1, h2⟩ := h
  cases v with
  | false => obtain ⟨r, ρ2, e2, q⟩ := h2 rfl; exact ⟨r, ρ2, by rw [r_tOr, e1]; exact e2, q⟩
  | true => exact ⟨true, ρ1, by rw [r_tOr, e1]; rfl, h1 rfl⟩
theorem ev_tNot (h : Ev t ρ fun v ρ1 => QB (!v) ρ1) : Ev (tNot t) ρ QB := by
  obtain ⟨v, ρ1, e1, q⟩ := h
  exact ⟨!v, ρ1, by rw [r_tNot, e1]; rfl, q⟩
theorem ev_eAnd (h : Ev a ρ fun r ρ1 => IsB r fun v => Brn v (Ev b ρ1 Q) (Q (.fz (.bl false)) ρ1)) : Ev (eAnd a b) ρ Q := by
  obtain ⟨r, ρ1, e1, v, rfl, h1, h2⟩ := h
  cases v with
  | true => obtain ⟨r, ρ2, e2, q⟩ := h1 rfl; exact ⟨r, ρ2, by rw [r_eAnd, e1]; exact e2, q⟩
  | false => exact ⟨_, ρ1, by rw [r_eAnd, e1]; rfl, h2 rfl⟩
theorem ev_eOr (h : Ev a ρ fun r ρ1 => IsB r fun v => Brn v (Q (.fz (.bl true)) ρ1) (Ev b ρ1 Q)) : Ev (eOr a b) ρ Q := by
  obtain ⟨r, ρ1, e1, v, rfl, h1, h2⟩ := h
  cases v with
  | false => obtain ⟨r, ρ2, e2, q⟩ := h2 rfl; exact ⟨r, ρ2, by rw [r_eOr, e1]; exact e2, q⟩
  | true => exact ⟨_, ρ1, by rw [r_eOr, e1]; rfl, h1 rfl⟩
theorem ev_eNot (h : Ev a ρ fun r ρ1 => IsB r fun v => Q (.fz (.bl (!v))) ρ1) : Ev (eNot a) ρ Q := by
  obtain ⟨r, ρ1, e1, v, rfl, q⟩ := h
  exact ⟨_, ρ1, by rw [r_eNot, e1]; rfl, q⟩
theorem ev_eIf (h : Ev t ρ fun v ρ1 => Brn v (Ev a ρ1 Q) (Ev b ρ1 Q)) : Ev (eIf t a b) ρ Q := by
  obtain ⟨v, ρ1, e1, h1, h2⟩ := h
  cases v with
  | true => obtain ⟨r, ρ2, e2, q⟩ := h1 rfl; exact ⟨r, ρ2, by rw [r_eIf, e1]; exact e2, q⟩
  | false => obtain ⟨r, ρ2, e2, q⟩ := h2 rfl; exact ⟨r, ρ2, by rw [r_eIf, e1]; exact e2, q⟩
def IsBD (z : D) (P : Bool → Prop) : Prop := ∃ b, z = .bl b ∧ P b
theorem isBD {i : Bool} {P : Bool → Prop} (h : P i) : IsBD (.bl i) P := ⟨i, rfl, h⟩
theorem ev_chain (h : Ev a ρ fun r ρ1 => Ev b ρ1 fun r2 ρ2 => See2 ρ2 r r2 fun x y => Giv (f x y) fun z => IsBD z fun v => Brn v (Ev c ρ2 fun r3 ρ3 => See2 ρ3 r2 r3 fun y2 w => Giv (g y2 w) fun z2 => Q (.fz z2) ρ3) (Q (.fz (.bl false)) ρ2)) : Ev (eChain f g a b c) ρ Q := by
  obtain ⟨r, ρ1, e1, r2, ρ2, e2, x, y, e3, e4, z, e5, v, rfl, h1, h2⟩ := h
  cases v with
  | true =>
    obtain ⟨r3, ρ3, e6, y2, w, e7, e8, z2, e9, q⟩ := h1 rfl
    exact ⟨_, ρ3, by rw [r_eChain, e1]; simp only [Option.bind_some, e2, e3, e4, e5, e6, e7, e8, e9], q⟩
  | false => exact ⟨_, ρ2, by rw [r_eChain, e1]; simp only [Option.bind_some, e2, e3, e4, e5], h2 rfl⟩
/-! calls -/
def Arg (fs : List Bool) (rs : List Vl) (ρ : Rho) (P : List (D ⊕ Nat) → List Ag → Rho → Prop) : Prop := ∃ ts ρ2 gs, ag1 fs rs ρ = some (ts, ρ2) ∧ ag2 ρ2 ts = some gs ∧ (agI ts).Nodup ∧ P ts gs ρ2
theorem arg {fs : List Bool} {rs : List Vl} {P : List (D ⊕ Nat) → List Ag → Rho → Prop} {ts : List (D ⊕ Nat)} {ρ2 : Rho} {gs : List Ag} (h1 : ag1 fs rs ρ = some (ts, ρ2)) (h2 : ag2 ρ2 ts = some gs) (h3 : (agI ts).Nodup) (h : P ts gs ρ2) : Arg fs rs ρ P := ⟨ts, ρ2, gs, h1, h2, h3, h⟩
def noBw : Vl → Prop
  | .bw _ => False
  | _ => True
theorem ev_call {h' : Fn} {fs : List Bool} (h : Ev ms ρ fun rs ρ1 => Arg fs rs ρ1 fun ts gs ρ2 => Fv h' gs fun r os => noBw r ∧ Q r (puts ρ2 (agI ts) os)) : Ev (eCall h' fs ms) ρ Q := by
  obtain ⟨rs, ρ1, e1, ts, ρ2, gs, e2, e3, hn, r, os, e4, nb, q⟩ := h
  refine ⟨r, _, ?_, q⟩
  rw [r_eCall, e1]
  simp only [Option.bind_some, e2, e3, if_pos hn, e4]
  cases r with
  | bw j => exact nb.elim
  | fz x => rfl
  | fr x => rfl
/-! statements -/
theorem sv_asg_s {i : Nat} (h : Ev a ρ fun r ρ1 => ∃ ρ2, asg i r ρ1 = some ρ2 ∧ Sv s ρ2 QS) : Sv (sSeq (sAsg i a) s) ρ QS := by
  obtain ⟨r, ρ1, e1, ρ2, e2, h⟩ := h
  exact sv_seq_eq (ρ1 := ρ2) (by rw [r_sAsg, e1]; simp only [Option.bind_some, e2]) h
theorem sv_asg_l {i : Nat} (h : Ev a ρ fun r ρ1 => ∃ ρ2, asg i r ρ1 = some ρ2 ∧ QS .nx ρ2) : Sv (sAsg i a) ρ QS := by
  obtain ⟨r, ρ1, e1, ρ2, e2, h⟩ := h
  exact ⟨.nx, ρ2, by rw [r_sAsg, e1]; simp only [Option.bind_some, e2], h⟩
theorem asg_z {i : Nat} {x : D} (h : ioQ ρ[i]? = false) : asg i (.fz x) ρ = some (ρ.set i (.d x)) := by
  unfold asg
  cases e : ρ[i]? with
  | none => rw [e] at h; cases h
  | some s => cases s with
    | io xs => rw [e] at h; cases h
    | _ => rfl
theorem asg_r {i : Nat} {x : List D} (h : ioQ ρ[i]? = false) : asg i (.fr x) ρ = some (ρ.set i (.ow x)) := by
  unfold asg
  cases e : ρ[i]? with
  | none => rw [e] at h; cases h
  | some s => cases s with
    | io xs => rw [e] at h; cases h
    | _ => rfl
theorem ex_asg {i : Nat} {x : D} {P : Rho → Prop} (h : ioQ ρ[i]? = false) (q : P (ρ.set i (.d x))) : ∃ ρ2, asg i (.fz x) ρ = some ρ2 ∧ P ρ2 := ⟨_, asg_z h, q⟩
theorem ex_asg' {i : Nat} {x : List D} {P : Rho → Prop} (h : ioQ ρ[i]? = false) (q : P (ρ.set i (.ow x))) : ∃ ρ2, asg i (.fr x) ρ = some ρ2 ∧ P ρ2 := ⟨_, asg_r h, q⟩
theorem ex_asg'' {i j : Nat} {P : Rho → Prop} {ρ2 : Rho} (h : asg i (.bw j) ρ = some ρ2) (q : P ρ2) : ∃ ρ2, asg i (.bw j) ρ = some ρ2 ∧ P ρ2 := ⟨_, h, q⟩
theorem sv_if_s (h : Ev t ρ fun v ρ1 => Brn v (Sv (sSeq s s'') ρ1 QS) (Sv (sSeq s' s'') ρ1 QS)) : Sv (sSeq (sIf t s s') s'') ρ QS := by
  obtain ⟨v, ρ1, e1, h1, h2⟩ := h
  have e : ∀ x, sSeq (sIf t s s') s'' ρ = x ↔ (sSeq (if v = true then s else s') s'') ρ1 = x := fun x => by
    rw [r_sSeq, r_sSeq, r_sIf, e1]
    cases v <;> rfl
  cases v with
  | true => obtain ⟨fl, ρ2, e2, q⟩ := h1 rfl; exact ⟨fl, ρ2, (e _).mpr e2, q⟩
  | false => obtain ⟨fl, ρ2, e2, q⟩ := h2 rfl; exact ⟨fl, ρ2, (e _).mpr e2, q⟩
theorem sv_if_l (h : Ev t ρ fun v ρ1 => Brn v (Sv s ρ1 QS) (Sv s' ρ1 QS)) : Sv (sIf t s s') ρ QS := by
  obtain ⟨v, ρ1, e1, h1, h2⟩ := h
  exact sv_if e1 h1 h2
theorem sv_nx_s (h : Sv s ρ QS) : Sv (sSeq sNx s) ρ QS := sv_seq_eq rfl h
theorem sv_seq_s (h : Sv (sSeq s (sSeq s' s'')) ρ QS) : Sv (sSeq (sSeq s s') s'') ρ QS := by
  obtain ⟨fl, ρ2, e2, q⟩ := h
  refine ⟨fl, ρ2, ?_, q⟩
  rw [r_sSeq] at e2
  rw [r_sSeq, r_sSeq]
  cases e : s ρ with
  | none => rw [e] at e2; cases e2
  | some p =>
    rw [e] at e2
    obtain ⟨f1, ρ1⟩ := p
    cases f1 with
    | nx => exact e2
    | bk => exact e2
    | ct => exact e2
    | rt v => exact e2
    | ex x => exact e2
def Ret (r : Vl) (ρ : Rho) (P : Vl → Prop) : Prop := match r with
  | .fz x => P (.fz x)
  | .fr x => P (.fr x)
  | .bw i => ∃ xs, ρ[i]? = some (.ow xs) ∧ P (.fr xs)
theorem sv_ret_l (h : Ev a ρ fun r ρ1 => Ret r ρ1 fun v => QS (.rt v) ρ1) : Sv (sRet a) ρ QS := by
  obtain ⟨r, ρ1, e1, q⟩ := h
  cases r with
  | fz x => exact ⟨_, ρ1, by rw [r_sRet, e1]; rfl, q⟩
  | fr x => exact ⟨_, ρ1, by rw [r_sRet, e1]; rfl, q⟩
  | bw i => obtain ⟨xs, e2, q⟩ := q; exact ⟨_, ρ1, by rw [r_sRet, e1]; simp only [Option.bind_some, e2], q⟩
theorem sv_ret_s (h : Ev a ρ fun r ρ1 => Ret r ρ1 fun v => QS (.rt v) ρ1) : Sv (sSeq (sRet a) s) ρ QS := sv_seq (sv_ret_l h)
theorem sv_drop_s (h : Ev a ρ fun r ρ1 => Sv s ρ1 QS) : Sv (sSeq (sDrop a) s) ρ QS := by
  obtain ⟨r, ρ1, e1, q⟩ := h
  exact sv_seq_eq (ρ1 := ρ1) (by show (a ρ).bind _ = _; rw [e1]; rfl) q
def App (ρ : Rho) (i : Nat) (r : Vl) (P : Rho → Prop) : Prop := ∃ z ρ1 xs, frz ρ (stl r) = some (z, ρ1) ∧ own? ρ1 i = some xs ∧ xs.length < lim ∧ P (put ρ1 i (xs ++ [z]))
theorem app {r : Vl} {P : Rho → Prop} {z : D} {ρ1 : Rho} {xs : List D} (h1 : frz ρ (stl r) = some (z, ρ1)) (h2 : own? ρ1 i = some xs) (h3 : xs.length < lim) (h : P (put ρ1 i (xs ++ [z]))) : App ρ i r P := ⟨z, ρ1, xs, h1, h2, h3, h⟩
theorem sv_app_l (h0 : (own? ρ i).isSome = true) (h : Ev a ρ fun r ρ1 => App ρ1 i r fun ρ2 => QS .nx ρ2) : Sv (sApp i a) ρ QS := by
  obtain ⟨r, ρ1, e1, z, ρ2, xs, e2, e3, hl, q⟩ := h
  obtain ⟨y, ey⟩ := Option.isSome_iff_exists.mp h0
  refine ⟨.nx, _, ?_, q⟩
  show (own? ρ i).bind _ = _
  rw [ey]
  simp only [Option.bind_some, e1, e2, e3, hl, if_true]
theorem sv_app_s (h0 : (own? ρ i).isSome = true) (h : Ev a ρ fun r ρ1 => App ρ1 i r fun ρ2 => Sv s ρ2 QS) : Sv (sSeq (sApp i a) s) ρ QS := sv_seq (sv_app_l h0 h)
theorem sv_eq {fl : Fl} {ρ1 : Rho} (h : s ρ = some (fl, ρ1)) (q : QS fl ρ1) : Sv s ρ QS := ⟨fl, ρ1, h, q⟩
/-- a function's body -/
def FEnd (Q : Vl → List (List D) → Prop) (gs : List Ag) : Fl → Rho → Prop
  | .nx, ρ => Q (.fz .non) (outsOf gs ρ)
  | .rt (.fz x), ρ => Q (.fz x) (outsOf gs ρ)
  | .rt (.fr x), ρ => Q (.fr x) (outsOf gs ρ)
  | _, _ => False
theorem fv_fn {n nl : Nat} {gs : List Ag} {Q : Vl → List (List D) → Prop} (hn : gs.length = n) (h : Sv s (gs.map slOf ++ List.replicate (nl - n) .no) (FEnd Q gs)) : Fv (fnS n nl s) gs Q := by
  obtain ⟨fl, ρ', e, q⟩ := h
  have un : fnS n nl s gs = if gs.length = n then (s (gs.map slOf ++ List.replicate (nl - n) .no)).bind fun p => (match p.1 with
  | .nx => some (.fz .non, outsOf gs p.2)
  | .rt (.fz x) => some (.fz x, outsOf gs p.2)
  | .rt (.fr x) => some (.fr x, outsOf gs p.2)
  | _ => none) else none := rfl
  unfold Fv
  rw [un, if_pos hn, e]
  cases fl with
  | nx => exact ⟨_, _, rfl, q⟩
  | bk => exact q.elim
  | ct => exact q.elim
  | ex x => exact q.elim
  | rt v => cases v with
    | fz x => exact ⟨_, _, rfl, q⟩
    | fr x => exact ⟨_, _, rfl, q⟩
    | bw j => exact q.elim
/-! loops -/
theorem ev_isq {QD : List D → Rho → Prop} (h : Ev a ρ fun r ρ1 => ∃ z ρ2 xs, frz ρ1 (stl r) = some (z, ρ2) ∧ itemsOf z = some xs ∧ QD xs ρ2) : Ev (iSq a) ρ QD := by
  obtain ⟨r, ρ1, e1, z, ρ2, xs, e2, e3, q⟩ := h
  exact ⟨xs, ρ2, by show (a ρ).bind _ = _; rw [e1]; simp only [Option.bind_some, e2, e3], q⟩
theorem ev_ir1 {QD : List D → Rho → Prop} (h : Ev ms ρ fun rs ρ1 => ∃ j, rs = [.fz (.int j)] ∧ -1000000 ≤ j ∧ j ≤ 1000000 ∧ QD (rngL 0 j.toNat) ρ1) : Ev (iR1 ms) ρ QD := by
  obtain ⟨r, ρ1, e1, j, rfl, h0, h1, q⟩ := h
  exact ⟨_, ρ1, iR1_ok e1 h0 h1, q⟩
/-- a for whose turns may return early: I by the turn, else E -/
theorem forM_sv {g : D → Rho → Option Rho} {b : S} (I : Nat → Rho → Prop) : ∀ (xs : List D) (k : Nat) (ρ : Rho), I k ρ →
    (∀ (i : Nat) (x : D), xs[i]? = some x → ∀ ρ, I (k + i) ρ → ∃ ρ1, g x ρ = some ρ1 ∧ Sv b ρ1 fun fl ρ2 => match fl with
      | .nx => I (k + i + 1) ρ2
      | .ct => I (k + i + 1) ρ2
      | .bk => QS .nx ρ2
      | .rt v => QS (.rt v) ρ2
      | .ex x => QS (.ex x) ρ2) → (∀ ρ', I (k + xs.length) ρ' → QS .nx ρ') → Sv (forM g b xs) ρ QS
  | [], k, ρ, h, _, q => ⟨.nx, ρ, rfl, q ρ h⟩
  | x :: xs, k, ρ, h, step, q => by
    obtain ⟨ρ1, e1, fl, ρ2, e2, hf⟩ := step 0 x rfl ρ h
    have go : I (k + 1) ρ2 → Sv (forM g b xs) ρ2 QS := fun hI => forM_sv I xs (k + 1) ρ2 hI (fun i y hy ρ h => by
      have := step (i + 1) y (by simpa using hy) ρ (by rw [show k + (i + 1) = k + 1 + i by omega]; exact h)
      rw [show k + (i + 1) + 1 = k + 1 + i + 1 by omega] at this
      exact this) fun ρ' h => q ρ' (by rw [List.length_cons, show k + (xs.length + 1) = k + 1 + xs.length by omega]; exact h)
    have un : forM g b (x :: xs) ρ = (g x ρ).bind fun ρ1 => (b ρ1).bind fun p => match p.1 with
      | .nx => forM g b xs p.2
      | .ct => forM g b xs p.2
      | .bk => some (.nx, p.2)
      | .rt v => some (.rt v, p.2)
      | .ex x => some (.ex x, p.2) := rfl
    unfold Sv at go ⊢
    rw [un, e1]
    simp only [Option.bind_some, e2]
    cases fl with
    | nx => exact go hf
    | ct => exact go hf
    | bk => exact ⟨_, _, rfl, hf⟩
    | rt v => exact ⟨_, _, rfl, hf⟩
    | ex x => exact ⟨_, _, rfl, hf⟩
theorem sv_for {src : M (List D)} {g : D → Rho → Option Rho} {b : S} (I : Nat → Rho → Prop) (h : Ev src ρ fun xs ρ1 => I 0 ρ1 ∧
    (∀ (i : Nat) (x : D), xs[i]? = some x → ∀ ρ, I i ρ → ∃ ρ1, g x ρ = some ρ1 ∧ Sv b ρ1 fun fl ρ2 => match fl with
      | .nx => I (i + 1) ρ2
      | .ct => I (i + 1) ρ2
      | .bk => QS .nx ρ2
      | .rt v => QS (.rt v) ρ2
      | .ex x => QS (.ex x) ρ2) ∧ ∀ ρ', I xs.length ρ' → QS .nx ρ') : Sv (sFor src g b) ρ QS := by
  obtain ⟨xs, ρ1, e, h0, step, q⟩ := h
  obtain ⟨fl, ρ2, e2, h2⟩ := forM_sv (QS := QS) I xs 0 ρ1 h0 (fun i x hx ρ h => by
    rw [Nat.zero_add] at h ⊢
    exact step i x hx ρ h) fun ρ' h => q ρ' (by rw [Nat.zero_add] at h; exact h)
  exact ⟨fl, ρ2, by show (src ρ).bind _ = _; rw [e]; exact e2, h2⟩
end
/-- a list comprehension by an invariant -/
theorem ev_lc {ρ : Rho} {vs : List Nat} {src : M (List D)} {g : D → Rho → Option Rho} {t : M Bool} {e : M Vl} {Q : Vl → Rho → Prop} (I : Nat → List D → Rho → Prop) (h : Ev src ρ fun xs ρ1 => (vs.all fun v => plainSl ρ1[v]?) = true ∧ I 0 [] (wipeR ρ1 vs) ∧
    (∀ (i : Nat) (x : D), xs[i]? = some x → ∀ acc ρ, I i acc ρ → ∃ ρ1, g x ρ = some ρ1 ∧ Ev t ρ1 fun b ρ2 => Brn b (Ev e ρ2 fun r ρ3 => ∃ z ρ4, frz ρ3 (stl r) = some (z, ρ4) ∧ acc.length < lim ∧ I (i + 1) (acc ++ [z]) (wipeR ρ4 vs)) (I (i + 1) acc (wipeR ρ2 vs))) ∧
    ∀ acc ρ', I xs.length acc ρ' → Q (.fr acc) (backR ρ1 ρ' vs)) : Ev (eLc vs src g t e) ρ Q := by
  obtain ⟨xs, ρ1, e1, hp, h0, step, q⟩ := h
  obtain ⟨acc, ρ', e2, h2⟩ := lcM_inv (vs := vs) (g := g) (t := t) (e := e) I xs [] 0 (wipeR ρ1 vs) h0 fun i x hx acc ρ hI => by
    rw [Nat.zero_add] at hI ⊢
    obtain ⟨ρ2, e3, b, ρ3, e4, h1, h2⟩ := step i x hx acc ρ hI
    refine ⟨ρ2, e3, b, ρ3, e4, ?_⟩
    cases b with
    | true =>
      rw [if_pos rfl]
      obtain ⟨r, ρ4, e5, z, ρ5, e6, hl, hI⟩ := h1 rfl
      exact ⟨r, ρ4, z, ρ5, e5, e6, hl, hI⟩
    | false =>
      rw [if_neg (by decide)]
      exact h2 rfl
  rw [Nat.zero_add] at h2
  exact ⟨_, _, eLc_of e1 hp e2, q acc ρ' h2⟩
/-- a while by an invariant that goes down -/
theorem sv_while {t : M Bool} {b : S} {QS : Fl → Rho → Prop} (I : Nat → Rho → Prop) (step : ∀ n ρ, I n ρ → Ev t ρ fun v ρ1 => Brn v (Sv b ρ1 fun fl ρ2 => match fl with
      | .nx => ∃ m, m < n ∧ I m ρ2
      | .ct => ∃ m, m < n ∧ I m ρ2
      | .bk => QS .nx ρ2
      | .rt v => QS (.rt v) ρ2
      | .ex x => QS (.ex x) ρ2) (QS .nx ρ1)) : ∀ n ρ, I n ρ → Sv (sWhile t b) ρ QS := by
  have key : ∀ (k n : Nat), n ≤ k → ∀ ρ, I n ρ → ∃ fl ρ', wh t b (k + 1) ρ = some (fl, ρ') ∧ QS fl ρ' := by
    intro k
    induction k with
    | zero =>
      intro n hn ρ hI
      obtain ⟨v, ρ1, e1, h1, h2⟩ := step n ρ hI
      unfold wh
      rw [e1]
      cases v with
      | false => exact ⟨.nx, ρ1, rfl, h2 rfl⟩
      | true =>
        obtain ⟨fl, ρ2, e2, h⟩ := h1 rfl
        simp only [Option.bind_some, if_true, e2]
        cases fl with
        | nx => obtain ⟨m, hm, _⟩ := h; omega
        | ct => obtain ⟨m, hm, _⟩ := h; omega
        | bk => exact ⟨_, _, rfl, h⟩
        | rt v => exact ⟨_, _, rfl, h⟩
        | ex x => exact ⟨_, _, rfl, h⟩
    | succ k ih =>
      intro n hn ρ hI
      obtain ⟨v, ρ1, e1, h1, h2⟩ := step n ρ hI
      unfold wh
      rw [e1]
      cases v with
      | false => exact ⟨.nx, ρ1, rfl, h2 rfl⟩
      | true =>
        obtain ⟨fl, ρ2, e2, h⟩ := h1 rfl
        simp only [Option.bind_some, if_true, e2]
        cases fl with
        | nx => obtain ⟨m, hm, hI⟩ := h; exact ih m (by omega) ρ2 hI
        | ct => obtain ⟨m, hm, hI⟩ := h; exact ih m (by omega) ρ2 hI
        | bk => exact ⟨_, _, rfl, h⟩
        | rt v => exact ⟨_, _, rfl, h⟩
        | ex x => exact ⟨_, _, rfl, h⟩
  intro n ρ hI
  obtain ⟨fl, ρ', e, q⟩ := key n n (Nat.le_refl n) ρ hI
  exact ⟨fl, ρ', sWhile_of e, q⟩
/-- a statement ahead of others: what it leaves, by itself -/
theorem sv_then {ρ : Rho} {s s' : S} {QS : Fl → Rho → Prop} (R : Rho → Prop) (h : Sv s ρ fun fl ρ1 => match fl with
      | .nx => R ρ1
      | fl => QS fl ρ1) (q : ∀ ρ1, R ρ1 → Sv s' ρ1 QS) : Sv (sSeq s s') ρ QS := by
  obtain ⟨fl, ρ1, e, h⟩ := h
  refine sv_seq ⟨fl, ρ1, e, ?_⟩
  cases fl with
  | nx => exact q ρ1 h
  | bk => exact h
  | ct => exact h
  | rt v => exact h
  | ex x => exact h
/-! ### the draws -/
theorem fv_next {xs : List D} {m : Int} {Q : Vl → List (List D) → Prop} (h : Drw xs) (hm : 0 < m) (q : ∀ r ys, 0 ≤ r → r < m → Drw ys → Q (.fz (.int r)) [ys]) : Fv lawNext [.li xs, .da (.int m)] Q := by
  obtain ⟨r, ys, e, h1, h2, h3⟩ := next_ok h hm
  exact ⟨_, _, e, q r ys h1 h2 h3⟩
theorem fv_draw {ns : List Int} {Q : Vl → List (List D) → Prop} (h : ns.length ≤ 63) (q : ∀ xs, Drw xs → Q (.fr xs) []) : Fv lawDraw [.da (.scr ns)] Q := by
  obtain ⟨xs, e, h⟩ := draw_ok h
  exact ⟨_, _, e, q xs h⟩
theorem fv_signs {Q : Vl → List (List D) → Prop} (q : Q (.fz (.str SGN)) []) : Fv lawSigns [] Q := ⟨_, _, signs_ok, q⟩
/-- an operation that wants a side -/
theorem giv_if {p : Prop} [Decidable p] {z : D} {Q : D → Prop} (h : p) (q : Q z) : Giv (if p then some z else none) Q := ⟨z, if_pos h, q⟩
theorem giv_mod {i j : Int} {Q : D → Prop} (h : 0 < j) (q : Q (.int (i % j))) : Giv (fMod (.int i) (.int j)) Q := ⟨_, by rw [r_mod, if_pos h], q⟩
theorem giv_div {i j : Int} {Q : D → Prop} (h : 0 < j ∧ j < 1073741824) (q : Q (.int (i / j))) : Giv (fDiv (.int i) (.int j)) Q := ⟨_, by rw [r_div, if_pos h], q⟩
theorem giv_mul {i j : Int} {Q : D → Prop} (h : cMul i j = true) (q : Q (.int (i * j))) : Giv (fMul (.int i) (.int j)) Q := ⟨_, by rw [r_mul, if_pos h], q⟩
theorem giv_muls {c : Nat} {n : Int} {Q : D → Prop} (h : -1000000 ≤ n ∧ n ≤ 1000000) (q : Q (.str (List.replicate n.toNat c))) : Giv (fMul (.str [c]) (.int n)) Q := ⟨_, by rw [r_muls, if_pos h], q⟩
theorem giv_adds {i j : List Nat} {Q : D → Prop} (h : i.length + j.length ≤ lim) (q : Q (.str (i ++ j))) : Giv (fAdd (.str i) (.str j)) Q := ⟨_, by rw [r_add2, if_pos h], q⟩
theorem giv_addl {i j : List D} {Q : D → Prop} (h : i.length + j.length ≤ lim) (q : Q (.lst (i ++ j))) : Giv (fAdd (.lst i) (.lst j)) Q := ⟨_, by rw [r_add3, if_pos h], q⟩
theorem giv_ixl {xs : List D} {i : Int} {z : D} {Q : D → Prop} (h : atI xs i = some z) (q : Q z) : Giv (fIx (.lst xs) (.int i)) Q := ⟨_, by rw [r_ixl, h], q⟩
theorem giv_ixt {xs : List D} {i : Int} {z : D} {Q : D → Prop} (h : atI xs i = some z) (q : Q z) : Giv (fIx (.tup xs) (.int i)) Q := ⟨_, by rw [r_ixt, h], q⟩
theorem giv_ixs {xs : List Nat} {i : Int} {c : Nat} {Q : D → Prop} (hl : xs.length ≤ lim) (h : atI xs i = some c) (q : Q (.str [c])) : Giv (fIx (.str xs) (.int i)) Q := ⟨_, by rw [r_ixs, if_pos hl, h]; rfl, q⟩
theorem giv_sls {xs : List Nat} {l u : Option Int} {Q : D → Prop} (hl : xs.length ≤ lim) (q : Q (.str (cutL xs l u))) : Giv (fSl (.str xs) l u) Q := ⟨_, by rw [r_sls, if_pos hl], q⟩
theorem giv_sll {xs : List D} {l u : Option Int} {Q : D → Prop} (q : Q (.lst (cutL xs l u))) : Giv (fSl (.lst xs) l u) Q := ⟨_, rfl, q⟩
theorem giv_lens {xs : List Nat} {Q : D → Prop} (hl : xs.length ≤ lim) (q : Q (.int xs.length)) : Giv (cLen [.str xs]) Q := ⟨_, by rw [r_len1, if_pos hl], q⟩
theorem giv_revs {xs : List Nat} {Q : D → Prop} (hl : xs.length ≤ lim) (q : Q (.str xs.reverse)) : Giv (fRev (.str xs)) Q := ⟨_, by rw [r_rev2, if_pos hl], q⟩
theorem giv_isi {T : String} {x : D} {b : Bool} {Q : D → Prop} (h : fIsi T x = some (.bl b)) (q : Q (.bl b)) : Giv (fIsi T x) Q := ⟨_, h, q⟩

theorem ret_z {x : D} {ρ : Rho} {P : Vl → Prop} (h : P (.fz x)) : Ret (.fz x) ρ P := h
theorem ret_r {x : List D} {ρ : Rho} {P : Vl → Prop} (h : P (.fr x)) : Ret (.fr x) ρ P := h
theorem ret_b {i : Nat} {xs : List D} {ρ : Rho} {P : Vl → Prop} (e : ρ[i]? = some (.ow xs)) (h : P (.fr xs)) : Ret (.bw i) ρ P := ⟨xs, e, h⟩
theorem sv_asgT_l {m : M Vl} {g : D → Rho → Option Rho} {ρ : Rho} {QS : Fl → Rho → Prop} (h : Ev m ρ fun r ρ1 => ∃ ρ2, (match r with
    | .fz x => g x ρ1
    | _ => none) = some ρ2 ∧ QS .nx ρ2) : Sv (sAsgT m g) ρ QS := by
  obtain ⟨r, ρ1, e1, ρ2, e2, q⟩ := h
  refine ⟨.nx, ρ2, ?_, q⟩
  show (m ρ).bind _ = _
  rw [e1]
  cases r with
  | fz x => simp only [Option.bind_some]; rw [show g x ρ1 = some ρ2 from e2]; rfl
  | fr x => cases e2
  | bw i => cases e2
theorem sv_asgT_s {m : M Vl} {g : D → Rho → Option Rho} {s : S} {ρ : Rho} {QS : Fl → Rho → Prop} (h : Ev m ρ fun r ρ1 => ∃ ρ2, (match r with
    | .fz x => g x ρ1
    | _ => none) = some ρ2 ∧ Sv s ρ2 QS) : Sv (sSeq (sAsgT m g) s) ρ QS := sv_seq (sv_asgT_l h)
theorem ex_asgT {g : Rho → Option Rho} {P : Rho → Prop} {ρ ρ2 : Rho} (h : g ρ = some ρ2) (q : P ρ2) : ∃ ρ2, g ρ = some ρ2 ∧ P ρ2 := ⟨_, h, q⟩
theorem nodup1 {α : Type} {a : α} : [a].Nodup := by simp
theorem nbw_z {x : D} {P : Prop} (h : P) : noBw (.fz x) ∧ P := ⟨trivial, h⟩
theorem nbw_r {x : List D} {P : Prop} (h : P) : noBw (.fr x) ∧ P := ⟨trivial, h⟩
structure Wr (R : Prop) : Prop where
  out : R
/-- laying out the slots anew -/
theorem nrm {R P : Prop} (q : R) (h : Wr R → P := by
    intro k
    try dsimp only [puts, put, agI, outsOf, slOf, List.map, List.set_cons_zero, List.set_cons_succ, List.getElem?_cons_zero, List.getElem?_cons_succ, wipeR, backR, Option.getD_some, List.replicate, List.cons_append, List.nil_append, List.append_eq, List.append_nil, Nat.reduceSub, FEnd, Ret, noBw, stl]
    exact k.out) : P := h ⟨q⟩
/-- one step at the head -/
theorem go1 {R P : Prop} (q : R) (h : Wr R → P := by
    intro k
    (first
    | with_reducible refine ev_c ?_
    | ((with_reducible refine' ev_vd ?s0 ?_); (case s0 => (rfl)))
    | ((with_reducible refine' ev_vo ?s0 ?_); (case s0 => (rfl)))
    | ((with_reducible refine' ev_vi ?s0 ?_); (case s0 => (rfl)))
    | with_reducible refine ev_bin ?_
    | with_reducible refine ev_un ?_
    | with_reducible refine ev_anil ?_
    | with_reducible refine ev_acons ?_
    | with_reducible refine ev_blt ?_
    | with_reducible refine ev_met ?_
    | with_reducible refine ev_ono ?_
    | with_reducible refine ev_osome ?_
    | with_reducible refine ev_sl ?_
    | with_reducible refine ev_tup ?_
    | with_reducible refine ev_lst ?_
    | with_reducible refine ev_tE ?_
    | with_reducible refine ev_tyes ?_
    | with_reducible refine ev_tAnd ?_
    | with_reducible refine ev_tOr ?_
    | with_reducible refine ev_tNot ?_
    | with_reducible refine ev_eAnd ?_
    | with_reducible refine ev_eOr ?_
    | with_reducible refine ev_eNot ?_
    | with_reducible refine ev_eIf ?_
    | with_reducible refine ev_chain ?_
    | with_reducible refine ev_call ?_
    | with_reducible refine sv_asg_s ?_
    | with_reducible refine sv_nx_s ?_
    | with_reducible refine sv_if_s ?_
    | with_reducible refine sv_ret_s ?_
    | with_reducible refine sv_seq_s ?_
    | with_reducible refine sv_drop_s ?_
    | ((with_reducible refine' sv_app_s ?s0 ?_); (case s0 => (rfl)))
    | ((with_reducible refine' sv_app_l ?s0 ?_); (case s0 => (rfl)))
    | with_reducible refine sv_asg_l ?_
    | with_reducible refine sv_if_l ?_
    | with_reducible refine sv_ret_l ?_
    | with_reducible refine sv_nx ?_
    | with_reducible refine sv_asgT_s ?_
    | with_reducible refine sv_asgT_l ?_
    | with_reducible refine ret_z ?_
    | with_reducible refine ret_r ?_
    | ((with_reducible refine' ret_b ?s0 ?_); (case s0 => (rfl)))
    | ((with_reducible refine' see2 ?s0 ?s1 ?_); (case s0 => (rfl)); (case s1 => (rfl)))
    | ((with_reducible refine' see1 ?s0 ?_); (case s0 => (rfl)))
    | ((with_reducible refine' sees ?s0 ?_); (case s0 => (rfl)))
    | with_reducible refine isI ?_
    | with_reducible refine isB ?_
    | with_reducible refine isBD ?_
    | with_reducible refine brn_t ?_
    | with_reducible refine brn_f ?_
    | with_reducible refine brn_nT ?_
    | with_reducible refine brn_nF ?_
    | with_reducible refine brn_nn ?_
    | ((with_reducible refine' frzs' ?s0 (And.intro ?s1 ?_)); (case s0 => rfl); (case s1 => (first | decide | simp)); (try dsimp only [puts, put, agI, outsOf, slOf, List.set_cons_zero, List.set_cons_succ, List.getElem?_cons_zero, List.getElem?_cons_succ, wipeR, backR, Option.getD_some, stl]))
    | ((with_reducible refine' arg ?s0 ?s1 ?s2 ?_); (case s0 => (rfl)); (case s1 => (rfl)); (case s2 => (first | exact List.nodup_nil | exact nodup1 | simp [agI])); (try dsimp only [puts, put, agI, outsOf, slOf, List.set_cons_zero, List.set_cons_succ, List.getElem?_cons_zero, List.getElem?_cons_succ, wipeR, backR, Option.getD_some, stl]))
    | ((with_reducible refine' ex_asg ?s0 ?_); (case s0 => (first | rfl | assumption)); (try dsimp only [puts, put, agI, outsOf, slOf, List.set_cons_zero, List.set_cons_succ, List.getElem?_cons_zero, List.getElem?_cons_succ, wipeR, backR, Option.getD_some, stl]))
    | ((with_reducible refine' ex_asg' ?s0 ?_); (case s0 => (first | rfl | assumption)); (try dsimp only [puts, put, agI, outsOf, slOf, List.set_cons_zero, List.set_cons_succ, List.getElem?_cons_zero, List.getElem?_cons_succ, wipeR, backR, Option.getD_some, stl]))
    | ((with_reducible refine' ex_asg'' ?s0 ?_); (case s0 => (rfl)); (try dsimp only [puts, put, agI, outsOf, slOf, List.set_cons_zero, List.set_cons_succ, List.getElem?_cons_zero, List.getElem?_cons_succ, wipeR, backR, Option.getD_some, stl]))
    | ((with_reducible refine' ex_asgT ?s0 ?_); (case s0 => (rfl)); (try dsimp only [puts, put, agI, outsOf, slOf, List.set_cons_zero, List.set_cons_succ, List.getElem?_cons_zero, List.getElem?_cons_succ, wipeR, backR, Option.getD_some, stl]))
    | ((with_reducible refine' nbw_z ?_); (try dsimp only [puts, put, agI, outsOf, slOf, List.set_cons_zero, List.set_cons_succ, List.getElem?_cons_zero, List.getElem?_cons_succ, wipeR, backR, Option.getD_some, stl]))
    | ((with_reducible refine' nbw_r ?_); (try dsimp only [puts, put, agI, outsOf, slOf, List.set_cons_zero, List.set_cons_succ, List.getElem?_cons_zero, List.getElem?_cons_succ, wipeR, backR, Option.getD_some, stl]))
    | ((with_reducible refine' giv_mod ?s0 ?_); (case s0 => (first | assumption | decide | omega | (show _ ≤ 16777216; omega) | (show _ < 16777216; omega) | (simp only [List.length_append, List.length_cons, List.length_nil, List.length_replicate]; show _ ≤ 16777216; omega))))
    | ((with_reducible refine' giv_div ?s0 ?_); (case s0 => (first | assumption | decide | omega | (show _ ≤ 16777216; omega) | (show _ < 16777216; omega) | (simp only [List.length_append, List.length_cons, List.length_nil, List.length_replicate]; show _ ≤ 16777216; omega))))
    | ((with_reducible refine' giv_mul ?s0 ?_); (case s0 => (first | assumption | exact cMul_r (by decide) | exact cMul_r (by omega))))
    | ((with_reducible refine' giv_muls ?s0 ?_); (case s0 => (first | assumption | decide | omega | (show _ ≤ 16777216; omega) | (show _ < 16777216; omega) | (simp only [List.length_append, List.length_cons, List.length_nil, List.length_replicate]; show _ ≤ 16777216; omega))))
    | ((with_reducible refine' giv_adds ?s0 ?_); (case s0 => (first | assumption | decide | omega | (show _ ≤ 16777216; omega) | (show _ < 16777216; omega) | (simp only [List.length_append, List.length_cons, List.length_nil, List.length_replicate]; show _ ≤ 16777216; omega))))
    | ((with_reducible refine' giv_addl ?s0 ?_); (case s0 => (first | assumption | decide | omega | (show _ ≤ 16777216; omega) | (show _ < 16777216; omega) | (simp only [List.length_append, List.length_cons, List.length_nil, List.length_replicate]; show _ ≤ 16777216; omega))))
    | ((with_reducible refine' giv_ixl ?s0 ?_); (case s0 => (first | assumption | rfl)))
    | ((with_reducible refine' giv_ixt ?s0 ?_); (case s0 => (first | assumption | rfl)))
    | ((with_reducible refine' giv_ixs ?s0 ?s1 ?_); (case s0 => (first | assumption | decide | omega | (show _ ≤ 16777216; omega) | (show _ < 16777216; omega) | (simp only [List.length_append, List.length_cons, List.length_nil, List.length_replicate]; show _ ≤ 16777216; omega))); (case s1 => (first | assumption | rfl)))
    | ((with_reducible refine' giv_sls ?s0 ?_); (case s0 => (first | assumption | decide | omega | (show _ ≤ 16777216; omega) | (show _ < 16777216; omega) | (simp only [List.length_append, List.length_cons, List.length_nil, List.length_replicate]; show _ ≤ 16777216; omega))))
    | with_reducible refine giv_sll ?_
    | ((with_reducible refine' giv_lens ?s0 ?_); (case s0 => (first | assumption | decide | omega | (show _ ≤ 16777216; omega) | (show _ < 16777216; omega) | (simp only [List.length_append, List.length_cons, List.length_nil, List.length_replicate]; show _ ≤ 16777216; omega))))
    | ((with_reducible refine' giv_revs ?s0 ?_); (case s0 => (first | assumption | decide | omega | (show _ ≤ 16777216; omega) | (show _ < 16777216; omega) | (simp only [List.length_append, List.length_cons, List.length_nil, List.length_replicate]; show _ ≤ 16777216; omega))))
    | with_reducible refine giv r_add1 ?_
    | with_reducible refine giv r_sub ?_
    | with_reducible refine giv r_lt ?_
    | with_reducible refine giv r_lts ?_
    | with_reducible refine giv r_le ?_
    | with_reducible refine giv r_gt ?_
    | with_reducible refine giv r_ge ?_
    | with_reducible refine giv r_eqi ?_
    | with_reducible refine giv r_eqs ?_
    | with_reducible refine giv r_eqb ?_
    | with_reducible refine giv r_nei ?_
    | with_reducible refine giv r_nes ?_
    | with_reducible refine giv r_neb ?_
    | with_reducible refine giv r_isb ?_
    | with_reducible refine giv r_ntb ?_
    | with_reducible refine giv r_ins ?_
    | with_reducible refine giv r_nis ?_
    | with_reducible refine giv r_neg ?_
    | with_reducible refine giv r_len2 ?_
    | with_reducible refine giv r_len3 ?_
    | with_reducible refine giv r_int1 ?_
    | with_reducible refine giv r_fFind ?_
    | with_reducible refine giv r_rev1 ?_
    | with_reducible refine giv r_fIsi1 ?_
    | with_reducible refine giv r_fIsi2 ?_
    | with_reducible refine giv r_fIsi3 ?_
    | with_reducible refine giv r_fIsi4 ?_
    | with_reducible refine giv r_fIsi5 ?_
    | with_reducible refine giv r_fIsi6 ?_)
    exact k.out) : P := h ⟨q⟩
/-- steps at the head as far as they go -/
theorem go {R P : Prop} (q : R) (h : Wr R → P := by
    intro k
    repeat (first
    | with_reducible refine ev_c ?_
    | ((with_reducible refine' ev_vd ?s0 ?_); (case s0 => (rfl)))
    | ((with_reducible refine' ev_vo ?s0 ?_); (case s0 => (rfl)))
    | ((with_reducible refine' ev_vi ?s0 ?_); (case s0 => (rfl)))
    | with_reducible refine ev_bin ?_
    | with_reducible refine ev_un ?_
    | with_reducible refine ev_anil ?_
    | with_reducible refine ev_acons ?_
    | with_reducible refine ev_blt ?_
    | with_reducible refine ev_met ?_
    | with_reducible refine ev_ono ?_
    | with_reducible refine ev_osome ?_
    | with_reducible refine ev_sl ?_
    | with_reducible refine ev_tup ?_
    | with_reducible refine ev_lst ?_
    | with_reducible refine ev_tE ?_
    | with_reducible refine ev_tyes ?_
    | with_reducible refine ev_tAnd ?_
    | with_reducible refine ev_tOr ?_
    | with_reducible refine ev_tNot ?_
    | with_reducible refine ev_eAnd ?_
    | with_reducible refine ev_eOr ?_
    | with_reducible refine ev_eNot ?_
    | with_reducible refine ev_eIf ?_
    | with_reducible refine ev_chain ?_
    | with_reducible refine ev_call ?_
    | with_reducible refine sv_asg_s ?_
    | with_reducible refine sv_nx_s ?_
    | with_reducible refine sv_if_s ?_
    | with_reducible refine sv_ret_s ?_
    | with_reducible refine sv_seq_s ?_
    | with_reducible refine sv_drop_s ?_
    | ((with_reducible refine' sv_app_s ?s0 ?_); (case s0 => (rfl)))
    | ((with_reducible refine' sv_app_l ?s0 ?_); (case s0 => (rfl)))
    | with_reducible refine sv_asg_l ?_
    | with_reducible refine sv_if_l ?_
    | with_reducible refine sv_ret_l ?_
    | with_reducible refine sv_nx ?_
    | with_reducible refine sv_asgT_s ?_
    | with_reducible refine sv_asgT_l ?_
    | with_reducible refine ret_z ?_
    | with_reducible refine ret_r ?_
    | ((with_reducible refine' ret_b ?s0 ?_); (case s0 => (rfl)))
    | ((with_reducible refine' see2 ?s0 ?s1 ?_); (case s0 => (rfl)); (case s1 => (rfl)))
    | ((with_reducible refine' see1 ?s0 ?_); (case s0 => (rfl)))
    | ((with_reducible refine' sees ?s0 ?_); (case s0 => (rfl)))
    | with_reducible refine isI ?_
    | with_reducible refine isB ?_
    | with_reducible refine isBD ?_
    | with_reducible refine brn_t ?_
    | with_reducible refine brn_f ?_
    | with_reducible refine brn_nT ?_
    | with_reducible refine brn_nF ?_
    | with_reducible refine brn_nn ?_
    | ((with_reducible refine' frzs' ?s0 (And.intro ?s1 ?_)); (case s0 => rfl); (case s1 => (first | decide | simp)); (try dsimp only [puts, put, agI, outsOf, slOf, List.set_cons_zero, List.set_cons_succ, List.getElem?_cons_zero, List.getElem?_cons_succ, wipeR, backR, Option.getD_some, stl]))
    | ((with_reducible refine' arg ?s0 ?s1 ?s2 ?_); (case s0 => (rfl)); (case s1 => (rfl)); (case s2 => (first | exact List.nodup_nil | exact nodup1 | simp [agI])); (try dsimp only [puts, put, agI, outsOf, slOf, List.set_cons_zero, List.set_cons_succ, List.getElem?_cons_zero, List.getElem?_cons_succ, wipeR, backR, Option.getD_some, stl]))
    | ((with_reducible refine' ex_asg ?s0 ?_); (case s0 => (first | rfl | assumption)); (try dsimp only [puts, put, agI, outsOf, slOf, List.set_cons_zero, List.set_cons_succ, List.getElem?_cons_zero, List.getElem?_cons_succ, wipeR, backR, Option.getD_some, stl]))
    | ((with_reducible refine' ex_asg' ?s0 ?_); (case s0 => (first | rfl | assumption)); (try dsimp only [puts, put, agI, outsOf, slOf, List.set_cons_zero, List.set_cons_succ, List.getElem?_cons_zero, List.getElem?_cons_succ, wipeR, backR, Option.getD_some, stl]))
    | ((with_reducible refine' ex_asg'' ?s0 ?_); (case s0 => (rfl)); (try dsimp only [puts, put, agI, outsOf, slOf, List.set_cons_zero, List.set_cons_succ, List.getElem?_cons_zero, List.getElem?_cons_succ, wipeR, backR, Option.getD_some, stl]))
    | ((with_reducible refine' ex_asgT ?s0 ?_); (case s0 => (rfl)); (try dsimp only [puts, put, agI, outsOf, slOf, List.set_cons_zero, List.set_cons_succ, List.getElem?_cons_zero, List.getElem?_cons_succ, wipeR, backR, Option.getD_some, stl]))
    | ((with_reducible refine' nbw_z ?_); (try dsimp only [puts, put, agI, outsOf, slOf, List.set_cons_zero, List.set_cons_succ, List.getElem?_cons_zero, List.getElem?_cons_succ, wipeR, backR, Option.getD_some, stl]))
    | ((with_reducible refine' nbw_r ?_); (try dsimp only [puts, put, agI, outsOf, slOf, List.set_cons_zero, List.set_cons_succ, List.getElem?_cons_zero, List.getElem?_cons_succ, wipeR, backR, Option.getD_some, stl]))
    | ((with_reducible refine' giv_mod ?s0 ?_); (case s0 => (first | assumption | decide | omega | (show _ ≤ 16777216; omega) | (show _ < 16777216; omega) | (simp only [List.length_append, List.length_cons, List.length_nil, List.length_replicate]; show _ ≤ 16777216; omega))))
    | ((with_reducible refine' giv_div ?s0 ?_); (case s0 => (first | assumption | decide | omega | (show _ ≤ 16777216; omega) | (show _ < 16777216; omega) | (simp only [List.length_append, List.length_cons, List.length_nil, List.length_replicate]; show _ ≤ 16777216; omega))))
    | ((with_reducible refine' giv_mul ?s0 ?_); (case s0 => (first | assumption | exact cMul_r (by decide) | exact cMul_r (by omega))))
    | ((with_reducible refine' giv_muls ?s0 ?_); (case s0 => (first | assumption | decide | omega | (show _ ≤ 16777216; omega) | (show _ < 16777216; omega) | (simp only [List.length_append, List.length_cons, List.length_nil, List.length_replicate]; show _ ≤ 16777216; omega))))
    | ((with_reducible refine' giv_adds ?s0 ?_); (case s0 => (first | assumption | decide | omega | (show _ ≤ 16777216; omega) | (show _ < 16777216; omega) | (simp only [List.length_append, List.length_cons, List.length_nil, List.length_replicate]; show _ ≤ 16777216; omega))))
    | ((with_reducible refine' giv_addl ?s0 ?_); (case s0 => (first | assumption | decide | omega | (show _ ≤ 16777216; omega) | (show _ < 16777216; omega) | (simp only [List.length_append, List.length_cons, List.length_nil, List.length_replicate]; show _ ≤ 16777216; omega))))
    | ((with_reducible refine' giv_ixl ?s0 ?_); (case s0 => (first | assumption | rfl)))
    | ((with_reducible refine' giv_ixt ?s0 ?_); (case s0 => (first | assumption | rfl)))
    | ((with_reducible refine' giv_ixs ?s0 ?s1 ?_); (case s0 => (first | assumption | decide | omega | (show _ ≤ 16777216; omega) | (show _ < 16777216; omega) | (simp only [List.length_append, List.length_cons, List.length_nil, List.length_replicate]; show _ ≤ 16777216; omega))); (case s1 => (first | assumption | rfl)))
    | ((with_reducible refine' giv_sls ?s0 ?_); (case s0 => (first | assumption | decide | omega | (show _ ≤ 16777216; omega) | (show _ < 16777216; omega) | (simp only [List.length_append, List.length_cons, List.length_nil, List.length_replicate]; show _ ≤ 16777216; omega))))
    | with_reducible refine giv_sll ?_
    | ((with_reducible refine' giv_lens ?s0 ?_); (case s0 => (first | assumption | decide | omega | (show _ ≤ 16777216; omega) | (show _ < 16777216; omega) | (simp only [List.length_append, List.length_cons, List.length_nil, List.length_replicate]; show _ ≤ 16777216; omega))))
    | ((with_reducible refine' giv_revs ?s0 ?_); (case s0 => (first | assumption | decide | omega | (show _ ≤ 16777216; omega) | (show _ < 16777216; omega) | (simp only [List.length_append, List.length_cons, List.length_nil, List.length_replicate]; show _ ≤ 16777216; omega))))
    | with_reducible refine giv r_add1 ?_
    | with_reducible refine giv r_sub ?_
    | with_reducible refine giv r_lt ?_
    | with_reducible refine giv r_lts ?_
    | with_reducible refine giv r_le ?_
    | with_reducible refine giv r_gt ?_
    | with_reducible refine giv r_ge ?_
    | with_reducible refine giv r_eqi ?_
    | with_reducible refine giv r_eqs ?_
    | with_reducible refine giv r_eqb ?_
    | with_reducible refine giv r_nei ?_
    | with_reducible refine giv r_nes ?_
    | with_reducible refine giv r_neb ?_
    | with_reducible refine giv r_isb ?_
    | with_reducible refine giv r_ntb ?_
    | with_reducible refine giv r_ins ?_
    | with_reducible refine giv r_nis ?_
    | with_reducible refine giv r_neg ?_
    | with_reducible refine giv r_len2 ?_
    | with_reducible refine giv r_len3 ?_
    | with_reducible refine giv r_int1 ?_
    | with_reducible refine giv r_fFind ?_
    | with_reducible refine giv r_rev1 ?_
    | with_reducible refine giv r_fIsi1 ?_
    | with_reducible refine giv r_fIsi2 ?_
    | with_reducible refine giv r_fIsi3 ?_
    | with_reducible refine giv r_fIsi4 ?_
    | with_reducible refine giv r_fIsi5 ?_
    | with_reducible refine giv r_fIsi6 ?_)
    exact k.out) : P := h ⟨q⟩
/-- the same, but not into an if with statements behind it -/
theorem goS {R P : Prop} (q : R) (h : Wr R → P := by
    intro k
    repeat (first
    | with_reducible refine ev_c ?_
    | ((with_reducible refine' ev_vd ?s0 ?_); (case s0 => (rfl)))
    | ((with_reducible refine' ev_vo ?s0 ?_); (case s0 => (rfl)))
    | ((with_reducible refine' ev_vi ?s0 ?_); (case s0 => (rfl)))
    | with_reducible refine ev_bin ?_
    | with_reducible refine ev_un ?_
    | with_reducible refine ev_anil ?_
    | with_reducible refine ev_acons ?_
    | with_reducible refine ev_blt ?_
    | with_reducible refine ev_met ?_
    | with_reducible refine ev_ono ?_
    | with_reducible refine ev_osome ?_
    | with_reducible refine ev_sl ?_
    | with_reducible refine ev_tup ?_
    | with_reducible refine ev_lst ?_
    | with_reducible refine ev_tE ?_
    | with_reducible refine ev_tyes ?_
    | with_reducible refine ev_tAnd ?_
    | with_reducible refine ev_tOr ?_
    | with_reducible refine ev_tNot ?_
    | with_reducible refine ev_eAnd ?_
    | with_reducible refine ev_eOr ?_
    | with_reducible refine ev_eNot ?_
    | with_reducible refine ev_eIf ?_
    | with_reducible refine ev_chain ?_
    | with_reducible refine ev_call ?_
    | with_reducible refine sv_asg_s ?_
    | with_reducible refine sv_nx_s ?_
    | with_reducible refine sv_ret_s ?_
    | with_reducible refine sv_seq_s ?_
    | with_reducible refine sv_drop_s ?_
    | ((with_reducible refine' sv_app_s ?s0 ?_); (case s0 => (rfl)))
    | ((with_reducible refine' sv_app_l ?s0 ?_); (case s0 => (rfl)))
    | with_reducible refine sv_asg_l ?_
    | with_reducible refine sv_if_l ?_
    | with_reducible refine sv_ret_l ?_
    | with_reducible refine sv_nx ?_
    | with_reducible refine sv_asgT_s ?_
    | with_reducible refine sv_asgT_l ?_
    | with_reducible refine ret_z ?_
    | with_reducible refine ret_r ?_
    | ((with_reducible refine' ret_b ?s0 ?_); (case s0 => (rfl)))
    | ((with_reducible refine' see2 ?s0 ?s1 ?_); (case s0 => (rfl)); (case s1 => (rfl)))
    | ((with_reducible refine' see1 ?s0 ?_); (case s0 => (rfl)))
    | ((with_reducible refine' sees ?s0 ?_); (case s0 => (rfl)))
    | with_reducible refine isI ?_
    | with_reducible refine isB ?_
    | with_reducible refine isBD ?_
    | with_reducible refine brn_t ?_
    | with_reducible refine brn_f ?_
    | with_reducible refine brn_nT ?_
    | with_reducible refine brn_nF ?_
    | with_reducible refine brn_nn ?_
    | ((with_reducible refine' frzs' ?s0 (And.intro ?s1 ?_)); (case s0 => rfl); (case s1 => (first | decide | simp)); (try dsimp only [puts, put, agI, outsOf, slOf, List.set_cons_zero, List.set_cons_succ, List.getElem?_cons_zero, List.getElem?_cons_succ, wipeR, backR, Option.getD_some, stl]))
    | ((with_reducible refine' arg ?s0 ?s1 ?s2 ?_); (case s0 => (rfl)); (case s1 => (rfl)); (case s2 => (first | exact List.nodup_nil | exact nodup1 | simp [agI])); (try dsimp only [puts, put, agI, outsOf, slOf, List.set_cons_zero, List.set_cons_succ, List.getElem?_cons_zero, List.getElem?_cons_succ, wipeR, backR, Option.getD_some, stl]))
    | ((with_reducible refine' ex_asg ?s0 ?_); (case s0 => (first | rfl | assumption)); (try dsimp only [puts, put, agI, outsOf, slOf, List.set_cons_zero, List.set_cons_succ, List.getElem?_cons_zero, List.getElem?_cons_succ, wipeR, backR, Option.getD_some, stl]))
    | ((with_reducible refine' ex_asg' ?s0 ?_); (case s0 => (first | rfl | assumption)); (try dsimp only [puts, put, agI, outsOf, slOf, List.set_cons_zero, List.set_cons_succ, List.getElem?_cons_zero, List.getElem?_cons_succ, wipeR, backR, Option.getD_some, stl]))
    | ((with_reducible refine' ex_asg'' ?s0 ?_); (case s0 => (rfl)); (try dsimp only [puts, put, agI, outsOf, slOf, List.set_cons_zero, List.set_cons_succ, List.getElem?_cons_zero, List.getElem?_cons_succ, wipeR, backR, Option.getD_some, stl]))
    | ((with_reducible refine' ex_asgT ?s0 ?_); (case s0 => (rfl)); (try dsimp only [puts, put, agI, outsOf, slOf, List.set_cons_zero, List.set_cons_succ, List.getElem?_cons_zero, List.getElem?_cons_succ, wipeR, backR, Option.getD_some, stl]))
    | ((with_reducible refine' nbw_z ?_); (try dsimp only [puts, put, agI, outsOf, slOf, List.set_cons_zero, List.set_cons_succ, List.getElem?_cons_zero, List.getElem?_cons_succ, wipeR, backR, Option.getD_some, stl]))
    | ((with_reducible refine' nbw_r ?_); (try dsimp only [puts, put, agI, outsOf, slOf, List.set_cons_zero, List.set_cons_succ, List.getElem?_cons_zero, List.getElem?_cons_succ, wipeR, backR, Option.getD_some, stl]))
    | ((with_reducible refine' giv_mod ?s0 ?_); (case s0 => (first | assumption | decide | omega | (show _ ≤ 16777216; omega) | (show _ < 16777216; omega) | (simp only [List.length_append, List.length_cons, List.length_nil, List.length_replicate]; show _ ≤ 16777216; omega))))
    | ((with_reducible refine' giv_div ?s0 ?_); (case s0 => (first | assumption | decide | omega | (show _ ≤ 16777216; omega) | (show _ < 16777216; omega) | (simp only [List.length_append, List.length_cons, List.length_nil, List.length_replicate]; show _ ≤ 16777216; omega))))
    | ((with_reducible refine' giv_mul ?s0 ?_); (case s0 => (first | assumption | exact cMul_r (by decide) | exact cMul_r (by omega))))
    | ((with_reducible refine' giv_muls ?s0 ?_); (case s0 => (first | assumption | decide | omega | (show _ ≤ 16777216; omega) | (show _ < 16777216; omega) | (simp only [List.length_append, List.length_cons, List.length_nil, List.length_replicate]; show _ ≤ 16777216; omega))))
    | ((with_reducible refine' giv_adds ?s0 ?_); (case s0 => (first | assumption | decide | omega | (show _ ≤ 16777216; omega) | (show _ < 16777216; omega) | (simp only [List.length_append, List.length_cons, List.length_nil, List.length_replicate]; show _ ≤ 16777216; omega))))
    | ((with_reducible refine' giv_addl ?s0 ?_); (case s0 => (first | assumption | decide | omega | (show _ ≤ 16777216; omega) | (show _ < 16777216; omega) | (simp only [List.length_append, List.length_cons, List.length_nil, List.length_replicate]; show _ ≤ 16777216; omega))))
    | ((with_reducible refine' giv_ixl ?s0 ?_); (case s0 => (first | assumption | rfl)))
    | ((with_reducible refine' giv_ixt ?s0 ?_); (case s0 => (first | assumption | rfl)))
    | ((with_reducible refine' giv_ixs ?s0 ?s1 ?_); (case s0 => (first | assumption | decide | omega | (show _ ≤ 16777216; omega) | (show _ < 16777216; omega) | (simp only [List.length_append, List.length_cons, List.length_nil, List.length_replicate]; show _ ≤ 16777216; omega))); (case s1 => (first | assumption | rfl)))
    | ((with_reducible refine' giv_sls ?s0 ?_); (case s0 => (first | assumption | decide | omega | (show _ ≤ 16777216; omega) | (show _ < 16777216; omega) | (simp only [List.length_append, List.length_cons, List.length_nil, List.length_replicate]; show _ ≤ 16777216; omega))))
    | with_reducible refine giv_sll ?_
    | ((with_reducible refine' giv_lens ?s0 ?_); (case s0 => (first | assumption | decide | omega | (show _ ≤ 16777216; omega) | (show _ < 16777216; omega) | (simp only [List.length_append, List.length_cons, List.length_nil, List.length_replicate]; show _ ≤ 16777216; omega))))
    | ((with_reducible refine' giv_revs ?s0 ?_); (case s0 => (first | assumption | decide | omega | (show _ ≤ 16777216; omega) | (show _ < 16777216; omega) | (simp only [List.length_append, List.length_cons, List.length_nil, List.length_replicate]; show _ ≤ 16777216; omega))))
    | with_reducible refine giv r_add1 ?_
    | with_reducible refine giv r_sub ?_
    | with_reducible refine giv r_lt ?_
    | with_reducible refine giv r_lts ?_
    | with_reducible refine giv r_le ?_
    | with_reducible refine giv r_gt ?_
    | with_reducible refine giv r_ge ?_
    | with_reducible refine giv r_eqi ?_
    | with_reducible refine giv r_eqs ?_
    | with_reducible refine giv r_eqb ?_
    | with_reducible refine giv r_nei ?_
    | with_reducible refine giv r_nes ?_
    | with_reducible refine giv r_neb ?_
    | with_reducible refine giv r_isb ?_
    | with_reducible refine giv r_ntb ?_
    | with_reducible refine giv r_ins ?_
    | with_reducible refine giv r_nis ?_
    | with_reducible refine giv r_neg ?_
    | with_reducible refine giv r_len2 ?_
    | with_reducible refine giv r_len3 ?_
    | with_reducible refine giv r_int1 ?_
    | with_reducible refine giv r_fFind ?_
    | with_reducible refine giv r_rev1 ?_
    | with_reducible refine giv r_fIsi1 ?_
    | with_reducible refine giv r_fIsi2 ?_
    | with_reducible refine giv r_fIsi3 ?_
    | with_reducible refine giv r_fIsi4 ?_
    | with_reducible refine giv r_fIsi5 ?_
    | with_reducible refine giv r_fIsi6 ?_)
    exact k.out) : P := h ⟨q⟩
end Sw
/-! Sw13: str of an int, min and max of two, tuple and list of a sequence. -/
namespace Sw
open PySem PySem.Spec PyProof.Rows L2

section
variable {X : Cx} {a b c e : Expr} {ma mb mc me : M Vl} {pos p : Pos} {es : List Expr} {ms : M (List Vl)} {K : PySem.W.Frag}
/-- the decimals of an int -/
def decS (i : Int) : List Nat := (Str.ofString (toString i)).cps.toList
def cStr : List D → Option D
  | [.int i] => if -1000000000 < i ∧ i < 1000000000 then some (.str (decS i)) else none
  | _ => none
theorem cs_str : CallS K (fun xs H Q => ∃ i, xs = [.int i] ∧ i.natAbs.log2 < 1920 ∧ Q (.str (toString i)) H) cStr := by
  intro H F vs xs z s hx e Q q
  unfold cStr at e
  split at e
  · split at e
    · rename_i i hc
      cases e
      obtain ⟨v, rfl, hv⟩ := vws1 hx
      rw [vw_int hv]
      refine ⟨_, rfl, ?_, q _ H F (Alc.refl s) (rep_str _)⟩
      by_cases z : i.natAbs = 0
      · rw [z]; decide
      · exact (Nat.log2_lt z).mpr (Nat.lt_of_lt_of_le (show i.natAbs < 2 ^ 30 by omega) (Nat.pow_le_pow_right (by decide) (by decide)))
    · cases e
  · cases e
theorem se_tostr (hm : X.mg "str" = none) (hg : Gl X "str") (ha : SA X [e] ms) (he : starEach [e] X.env = (false, eval e X.env) :: starEach [] X.env := by rfl) (hpl : (backTo pos (starEach [] X.env)).any (·.1) = false := by rfl) : SE X (.Call (.Name "str" p) [e] [] pos) (eBlt cStr ms) :=
  se_ty call_str_int cs_str hg hm (by decide +kernel) ha (by decide) (by decide) he hpl
def cMin : List D → Option D
  | [.int i, .int j] => some (.int (if j < i then j else i))
  | _ => none
def cMax : List D → Option D
  | [.int i, .int j] => some (.int (if j > i then j else i))
  | _ => none
theorem cs_min : CallS K (fun xs H Q => ∃ i j, xs = [.int i, .int j] ∧ Q (.int (if j < i then j else i)) H) cMin := by
  intro H F vs xs z s hx e Q q
  unfold cMin at e
  split at e
  · cases e
    obtain ⟨v, u, rfl, hv, hu⟩ := vws2 hx
    rw [vw_int hv, vw_int hu]
    exact ⟨_, _, rfl, q _ H F (Alc.refl s) (.int _)⟩
  · cases e
theorem cs_max : CallS K (fun xs H Q => ∃ i j, xs = [.int i, .int j] ∧ Q (.int (if j > i then j else i)) H) cMax := by
  intro H F vs xs z s hx e Q q
  unfold cMax at e
  split at e
  · cases e
    obtain ⟨v, u, rfl, hv, hu⟩ := vws2 hx
    rw [vw_int hv, vw_int hu]
    exact ⟨_, _, rfl, q _ H F (Alc.refl s) (.int _)⟩
  · cases e
theorem se_min2 (hm : X.mg "min" = none) (hg : Gl X "min") (hc : X.calm = true) (ha : SA X [a, b] ms) (he : starEach [a, b] X.env = (false, eval a X.env) :: starEach [b] X.env := by rfl) (hpl : (backTo pos (starEach [b] X.env)).any (·.1) = false := by rfl) : SE X (.Call (.Name "min" p) [a, b] [] pos) (eBlt cMin ms) :=
  se_blt (call_min2 hc) cs_min hg hm (by decide +kernel) ha (by decide) (by decide) he hpl
theorem se_max2 (hm : X.mg "max" = none) (hg : Gl X "max") (hc : X.calm = true) (ha : SA X [a, b] ms) (he : starEach [a, b] X.env = (false, eval a X.env) :: starEach [b] X.env := by rfl) (hpl : (backTo pos (starEach [b] X.env)).any (·.1) = false := by rfl) : SE X (.Call (.Name "max" p) [a, b] [] pos) (eBlt cMax ms) :=
  se_blt (call_max2 hc) cs_max hg hm (by decide +kernel) ha (by decide) (by decide) he hpl
/-! ### tuple(xs) -/
def cTup : List D → Option D
  | [.lst xs] => some (.tup xs)
  | [.tup xs] => some (.tup xs)
  | _ => none
theorem cs_tup : CallS K (fun xs H Q => ∃ p ys, xs = [.ref p] ∧ ((SqL K H p ys ∧ ∀ l, H l = none → Q (.ref l) (upd H l (.tup ys))) ∨ (SqT K H p ys ∧ Q (.ref p) H))) cTup := by
  intro H F vs xs z s hx e Q q
  unfold cTup at e
  split at e
  · cases e
    obtain ⟨v, rfl, a, us, rfl, h1, h2⟩ := vws1 hx
    refine ⟨a, us, rfl, .inl ⟨SqL.of h1, fun l hl => ?_⟩⟩
    have A := Alc.new (o := HO.tup us) s hl
    exact q _ _ _ A (.tup (SqT.of upd_same) (h2.mono A.ff))
  · cases e
    obtain ⟨v, rfl, hv⟩ := vws1 hx
    cases (show Rep K F v (.tup _) from hv) with
    | @tup a us _ h1 h2 => exact ⟨a, us, rfl, .inr ⟨same_t s h1, q _ H F (Alc.refl s) (.tup h1 h2)⟩⟩
  · cases e
theorem se_totup (hm : X.mg "tuple" = none) (hg : Gl X "tuple") (ha : SA X [e] ms) (he : starEach [e] X.env = (false, eval e X.env) :: starEach [] X.env := by rfl) (hpl : (backTo pos (starEach [] X.env)).any (·.1) = false := by rfl) : SE X (.Call (.Name "tuple" p) [e] [] pos) (eBlt cTup ms) :=
  se_ty call_tuple_of cs_tup hg hm (by decide +kernel) ha (by decide) (by decide) he hpl
/-! ### list(xs) -/
def itemsQ : D → Option (List D)
  | .lst xs => some xs
  | .tup xs => some xs
  | _ => none
def eNew (m : M Vl) : M Vl := fun ρ => (m ρ).bind fun p => (look p.2 (stl p.1)).bind fun x => (itemsQ x).bind fun xs => some (.fr xs, p.2)
theorem se_tolist (hm : X.mg "list" = none) (hg : Gl X "list") (ha : SE X e me) (he : starEach [e] X.env = (false, eval e X.env) :: starEach [] X.env := by rfl) (hpl : (backTo pos (starEach [] X.env)).any (·.1) = false := by rfl) : SE X (.Call (.Name "list" p) [e] [] pos) (eNew me) := by
  refine pe_weak (pe_callTy call_list_of hg hm (by decide +kernel) (pa_cons ha pa_nil he) (by decide) (by decide) he hpl) fun σ H Q ⟨G, ρ, F, r0, ρ', W, hm, q⟩ => ?_
  unfold eNew at hm
  obtain ⟨⟨x, ρ1⟩, e1, hm⟩ := Option.bind_eq_some_iff.mp hm
  obtain ⟨dx, e3, hm⟩ := Option.bind_eq_some_iff.mp hm
  obtain ⟨xs, e5, hm⟩ := Option.bind_eq_some_iff.mp hm
  cases hm
  refine tm_use W e1 fun v H1 F1 s1 R1 => ?_
  have hv := vw_of s1.wd R1 e3
  have fin : ∀ (us : List V), Reps X.K F1 us xs → ∀ l, H1 l = none → Q (.ref l) (upd H1 l (.lst us)) := fun us r l hl => by
    have A : Alc F1 H1 F1 (upd H1 l (.lst us)) := ⟨Same.refl _, s1.wd.sub.trans (same_upd hl), same_upd hl, fun _ h => .inl h⟩
    refine q _ _ _ (s1.trans (s1.wd.alc A)) ⟨l, us, rfl, upd_same, r, s1.wd.sub.free hl, s1.back l hl, fun i o => ?_⟩
    obtain ⟨_, z, _⟩ := s1.wd.ow_there o
    rw [hl] at z; cases z
  unfold itemsQ at e5
  split at e5
  · cases e5
    obtain ⟨a, us, rfl, h1, h2⟩ := hv
    exact ⟨a, us, rfl, .inl (SqL.of h1), fin us h2⟩
  · cases e5
    cases (show Rep X.K F1 v (.tup _) from hv) with
    | @tup a us _ h1 h2 => exact ⟨a, us, rfl, .inr (same_t s1.wd.sub h1), fin us h2⟩
  · cases e5
end
end Sw
/-! Sw14: small facts that the laws' mathematics share. -/
namespace Sw
open L2

abbrev AscL (cs : List Nat) : Prop := cs.Pairwise (· < ·)
theorem sgn_asc : AscL SGN := by decide
theorem ascl_nodup {cs : List Nat} (h : AscL cs) : cs.Nodup := List.Pairwise.imp (fun h => Nat.ne_of_lt h) h
theorem map_get {t : List Nat} {i : Nat} {x : D} (h : (t.map fun c => D.str [c])[i]? = some x) : ∃ c, t[i]? = some c ∧ x = .str [c] := by
  rw [List.getElem?_map] at h
  cases e : t[i]? with
  | none => rw [e] at h; cases h
  | some c => rw [e] at h; cases h; exact ⟨c, rfl, rfl⟩
theorem mapS_get {t : List (List Nat)} {i : Nat} {x : D} (h : (t.map D.str)[i]? = some x) : ∃ c, t[i]? = some c ∧ x = .str c := by
  rw [List.getElem?_map] at h
  cases e : t[i]? with
  | none => rw [e] at h; cases h
  | some c => rw [e] at h; cases h; exact ⟨c, rfl, rfl⟩
theorem take_s {α : Type} {t : List α} {i : Nat} {c : α} (h : t[i]? = some c) : t.take (i + 1) = t.take i ++ [c] := by rw [List.take_add_one, h]; rfl
theorem findC_in {s : List Nat} {c : Nat} (h : c ∈ s) : findC s c = (s.idxOf c : Int) := if_pos h
theorem findC_at {i : Nat} (h : i < SGN.length) : findC SGN (SGN[i]'h) = (i : Int) := by rw [findC_in (List.getElem_mem _), (ascl_nodup sgn_asc).idxOf_getElem i h]
def lastC (cs : List Nat) : Nat := cs.getD (cs.length - 1) 0
theorem lastC_app {cs : List Nat} {c : Nat} : lastC (cs ++ [c]) = c := by
  unfold lastC
  rw [List.length_append, List.getD_eq_getElem?_getD]
  simp
theorem atI_lastD {xs : List D} {x : D} : atI (xs ++ [x]) (-1) = some x := by
  unfold atI ixN
  rw [if_neg (by decide), if_pos (by rw [List.length_append, List.length_singleton]; omega)]
  show (xs ++ [x])[_]? = _
  rw [show (-1 + ((xs ++ [x]).length : Int)).toNat = xs.length by rw [List.length_append, List.length_singleton]; omega]
  simp
theorem atI_last {cs : List Nat} (hn : cs ≠ []) : atI cs (-1) = some (lastC cs) := by
  have hp : 0 < cs.length := List.length_pos_iff.mpr hn
  unfold atI ixN
  rw [if_neg (by decide), if_pos (by omega)]
  show cs[((cs.length : Int) + -1).toNat]? = _
  rw [show ((cs.length : Int) + -1).toNat = cs.length - 1 by omega, List.getElem?_eq_getElem (by omega), lastC, List.getD_eq_getElem?_getD, List.getElem?_eq_getElem (by omega)]
  rfl
theorem lastC_in {cs : List Nat} (hn : cs ≠ []) : lastC cs ∈ cs := by
  have hp : 0 < cs.length := List.length_pos_iff.mpr hn
  rw [lastC, List.getD_eq_getElem?_getD, List.getElem?_eq_getElem (by omega)]
  exact List.getElem_mem _
theorem atI_first {cs : List Nat} (hn : cs ≠ []) : atI cs 0 = some (cs.getD 0 0) := by
  have hp : 0 < cs.length := List.length_pos_iff.mpr hn
  rw [atI_int (by decide) (by omega), List.getD_eq_getElem?_getD, List.getElem?_eq_getElem hp]
  rfl
theorem cut_sub {α : Type} {t : List α} {l u : Option Int} : (cutL t l u).Sublist t := (List.take_sublist _ _).trans (List.drop_sublist _ _)
theorem cut_len {α : Type} {t : List α} {l u : Option Int} : (cutL t l u).length ≤ t.length := cut_sub.length_le
theorem sub_take {i c : Nat} {ts : List Nat} (h : ts.Sublist (SGN.take i)) (hi : SGN[i]? = some c) : (ts ++ [c]).Sublist (SGN.take (i + 1)) := by
  rw [take_s hi]
  exact h.append (List.Sublist.refl _)
theorem sub_take' {i c : Nat} {ts : List Nat} (h : ts.Sublist (SGN.take i)) (hi : SGN[i]? = some c) : ts.Sublist (SGN.take (i + 1)) := by
  rw [take_s hi]
  exact h.trans (List.sublist_append_left _ _)
theorem filter_sub : ∀ {l cs : List Nat}, cs.Sublist l → l.Nodup → l.filter (fun c => decide (c ∈ cs)) = cs
  | _, _, .slnil, _ => rfl
  | a :: l, cs, .cons _ h, nd => by
    obtain ⟨n1, n2⟩ := List.nodup_cons.mp nd
    rw [List.filter_cons, if_neg (by simpa using fun z => n1 (h.subset z))]
    exact filter_sub h n2
  | a :: l, _ :: cs, .cons_cons _ h, nd => by
    obtain ⟨n1, n2⟩ := List.nodup_cons.mp nd
    rw [List.filter_cons, if_pos (by simp)]
    congr 1
    have e : l.filter (fun c => decide (c ∈ a :: cs)) = l.filter (fun c => decide (c ∈ cs)) := List.filter_congr fun x hx => by
      have ne : x ≠ a := fun z => n1 (z ▸ hx)
      exact decide_eq_decide.mpr ⟨fun z => (List.mem_cons.mp z).resolve_left ne, List.mem_cons_of_mem _⟩
    rw [e]
    exact filter_sub h n2
section
variable {ρ : Rho} {a b : M Vl} {s : S} {QS : Fl → Rho → Prop} {i : Nat}
theorem sv_seti_l (h : Ev b ρ fun r ρ1 => ∃ z ρ2, frz ρ1 (stl r) = some (z, ρ2) ∧ (own? ρ2 i).isSome = true ∧ Ev a ρ2 fun r2 ρ3 => IsI r2 fun k => ∃ xs j, own? ρ3 i = some xs ∧ ixN xs.length k = some j ∧ QS .nx (put ρ3 i (xs.set j z))) : Sv (sSetI i a b) ρ QS := by
  obtain ⟨r, ρ1, e1, z, ρ2, e2, e3, r2, ρ3, e4, k, rfl, xs, j, e5, e6, q⟩ := h
  obtain ⟨y, ey⟩ := Option.isSome_iff_exists.mp e3
  refine ⟨.nx, _, ?_, q⟩
  show (b ρ).bind _ = _
  rw [e1]
  simp only [Option.bind_some, e2, ey, e4, e5, e6]
theorem sv_seti_s (h : Ev b ρ fun r ρ1 => ∃ z ρ2, frz ρ1 (stl r) = some (z, ρ2) ∧ (own? ρ2 i).isSome = true ∧ Ev a ρ2 fun r2 ρ3 => IsI r2 fun k => ∃ xs j, own? ρ3 i = some xs ∧ ixN xs.length k = some j ∧ Sv s (put ρ3 i (xs.set j z)) QS) : Sv (sSeq (sSetI i a b) s) ρ QS := sv_seq (sv_seti_l h)
end
theorem fv_letters {xs : List D} {Q : Vl → List (List D) → Prop} (h : Drw xs) (q : ∀ cs ys, cs.length = 3 → cs.Sublist SGN → Drw ys → Q (.fz (.str cs)) [ys]) : Fv lawLetters [.li xs] Q := by
  obtain ⟨cs, ys, e, h1, h2, h3⟩ := letters_sub h
  exact ⟨_, _, e, q cs ys h1 h2 h3⟩
/-- a join without anything between -/
theorem giv_join {cs : List (List Nat)} {Q : D → Prop} (h : (cs.map (·.length)).sum ≤ lim) (q : Q (.str cs.flatten)) : Giv (fJoin (.str []) [.lst (cs.map D.str)]) Q := giv (join_empty h) q
theorem sum_le {cs : List (List Nat)} {k : Nat} (h : ∀ c ∈ cs, c.length ≤ k) : (cs.map (·.length)).sum ≤ k * cs.length := by
  induction cs with
  | nil => simp
  | cons c cs ih =>
    have h1 := h c List.mem_cons_self
    have h2 := ih fun x hx => h x (List.mem_cons_of_mem _ hx)
    rw [List.map_cons, List.sum_cons, List.length_cons, Nat.mul_add, Nat.mul_one]
    omega
end Sw
/-! Sw15: == of nested data. -/
namespace Sw
open L2 PySem
mutual
theorem eqv_refl : ∀ d : PyData, d.canLay0 = true → PyData.eqv d d = true
  | .none, _ => by simp [PyData.eqv]
  | .bool b, _ => by simp [PyData.eqv]
  | .int i, _ => by simp [PyData.eqv]
  | .str x, _ => by simp [PyData.eqv]
  | .list xs, h => by simp only [PyData.eqv]; exact eqvAll_refl xs (by simpa [PyData.canLay0] using h)
  | .tuple xs, h => by simp only [PyData.eqv]; exact eqvAll_refl xs (by simpa [PyData.canLay0] using h)
  | .dict _, h => by simp [PyData.canLay0] at h
theorem eqvAll_refl : ∀ ds : List PyData, PyData.canLayAll0 ds = true → PyData.eqvAll ds ds = true
  | [], _ => by simp [PyData.eqvAll]
  | d :: ds, h => by
    simp only [PyData.canLayAll0, Bool.and_eq_true] at h
    simp only [PyData.eqvAll, Bool.and_eq_true]
    exact ⟨eqv_refl d h.1, eqvAll_refl ds h.2⟩
end
theorem eqD_same {x : D} (h : shD x = true) : fEqD x x = some (.bl true) := by
  unfold fEqD
  rw [h]
  show (if true = true then _ else _) = _
  rw [if_pos rfl, eqv_refl _ (SeqAt.canLay_of_shaped (shD_sh h))]
theorem eq_tup {xs : List D} (h : shD (.tup xs) = true) : fEq (.tup xs) (.tup xs) = some (.bl true) := by
  show orF fEqS fEqD _ _ = _
  unfold orF
  rw [show fEqS (.tup xs) (.tup xs) = none from rfl]
  exact eqD_same h
theorem eq_lst {xs : List D} (h : shD (.lst xs) = true) : fEq (.lst xs) (.lst xs) = some (.bl true) := by
  show orF fEqS fEqD _ _ = _
  unfold orF
  rw [show fEqS (.lst xs) (.lst xs) = none from rfl]
  exact eqD_same h
/-! what may be compared: texts of signs, at most 64 deep -/
mutual
def okD : D → Bool
  | .str s => s.all fun c => decide (c < 55296)
  | .lst xs => okDs xs
  | .tup xs => okDs xs
  | .obj _ _ _ => false
  | _ => true
def okDs : List D → Bool
  | [] => true
  | x :: xs => okD x && okDs xs
end
mutual
def dpD : D → Nat
  | .lst xs => dpDs xs + 1
  | .tup xs => dpDs xs + 1
  | .scr _ => 1
  | _ => 0
def dpDs : List D → Nat
  | [] => 0
  | x :: xs => max (dpD x) (dpDs xs)
end
theorem ints_can : ∀ xs : List Int, PyData.canLayAll0 (xs.map PyData.int) = true
  | [] => by simp [PyData.canLayAll0]
  | i :: xs => by simp only [List.map_cons, PyData.canLayAll0, PyData.canLay0, Bool.true_and]; exact ints_can xs
theorem ints_dp : ∀ xs : List Int, PyData.depthAll (xs.map PyData.int) = 0
  | [] => by simp [PyData.depthAll]
  | i :: xs => by simp only [List.map_cons, PyData.depthAll, PyData.depth, ints_dp xs]; rfl
mutual
theorem can_of : ∀ x : D, okD x = true → (toP x).canLay0 = true
  | .non, _ => by simp [toP, PyData.canLay0]
  | .bl b, _ => by simp [toP, PyData.canLay0]
  | .int i, _ => by simp [toP, PyData.canLay0]
  | .str t, h => by
    simp only [okD, List.all_eq_true, decide_eq_true_eq] at h
    simp only [toP, PyData.canLay0, PyData.strOk, List.all_toArray, List.all_eq_true, decide_eq_true_eq]
    intro c hc
    have := h c hc
    omega
  | .lst xs, h => by simp only [toP, PyData.canLay0]; exact cans_of xs (by simpa [okD] using h)
  | .tup xs, h => by simp only [toP, PyData.canLay0]; exact cans_of xs (by simpa [okD] using h)
  | .scr xs, _ => by simp only [toP, PyData.canLay0]; exact ints_can xs
  | .obj _ _ _, h => by simp [okD] at h
theorem cans_of : ∀ xs : List D, okDs xs = true → PyData.canLayAll0 (toPs xs) = true
  | [], _ => by simp [toPs, PyData.canLayAll0]
  | x :: xs, h => by
    simp only [okDs, Bool.and_eq_true] at h
    simp only [toPs, PyData.canLayAll0, Bool.and_eq_true]
    exact ⟨can_of x h.1, cans_of xs h.2⟩
end
mutual
theorem dep_of : ∀ x : D, (toP x).depth = dpD x
  | .non => by simp [toP, PyData.depth, dpD]
  | .bl b => by simp [toP, PyData.depth, dpD]
  | .int i => by simp [toP, PyData.depth, dpD]
  | .str t => by simp [toP, PyData.depth, dpD]
  | .lst xs => by simp only [toP, PyData.depth, dpD, deps_of xs]
  | .tup xs => by simp only [toP, PyData.depth, dpD, deps_of xs]
  | .scr xs => by simp only [toP, PyData.depth, dpD, ints_dp xs]
  | .obj _ _ _ => by simp [toP, PyData.depth, dpD]
theorem deps_of : ∀ xs : List D, PyData.depthAll (toPs xs) = dpDs xs
  | [] => by simp [toPs, PyData.depthAll, dpDs]
  | x :: xs => by simp only [toPs, PyData.depthAll, dpDs, dep_of x, deps_of xs]
end
mutual
theorem pln_of : ∀ x : D, okD x = true → plnD x = true
  | .non, _ => rfl
  | .bl b, _ => rfl
  | .int i, _ => rfl
  | .str t, _ => rfl
  | .lst xs, h => by unfold okD at h; unfold plnD; exact plns_of xs h
  | .tup xs, h => by unfold okD at h; unfold plnD; exact plns_of xs h
  | .scr xs, _ => rfl
  | .obj _ _ _, h => by simp [okD] at h
theorem plns_of : ∀ xs : List D, okDs xs = true → plnDs xs = true
  | [], _ => rfl
  | x :: xs, h => by
    unfold okDs at h
    rw [Bool.and_eq_true] at h
    unfold plnDs
    rw [pln_of x h.1, plns_of xs h.2]; rfl
end
theorem shD_of {x : D} (h : okD x = true) (hd : dpD x ≤ 64) : shD x = true := by
  unfold shD SeqAt.shaped
  rw [pln_of x h, can_of x h, dep_of x, decide_eq_true hd]
  rfl
end Sw
/-! Sw16: min of three. -/
namespace Sw
open PySem PySem.Spec PyProof.Rows L2
section
variable {X : Cx} {a b c e : Expr} {pos p : Pos} {es : List Expr} {ms : M (List Vl)} {K : PySem.W.Frag}
def cMin3 : List D → Option D
  | [.int i, .int j, .int k] => some (.int (min (min i j) k))
  | _ => none
theorem min_if (i j : Int) : (if j < i then j else i) = min i j := by
  split <;> omega
theorem nuMin_int (i j : Int) : nuMin2 (.int i) (.int j) = some (.int (min i j)) := by
  show some (if decide (j < i) = true then V.int j else V.int i) = _
  by_cases h : j < i
  · rw [decide_eq_true h, if_pos rfl, show min i j = j by omega]
  · rw [decide_eq_false h, if_neg (by decide), show min i j = i by omega]
theorem cs_min3 : CallS K (rNuC3 nuMin3) cMin3 := by
  intro H F vs xs z s hx e Q q
  unfold cMin3 at e
  split at e
  · rename_i i j k
    cases e
    match vs, hx with
    | [v, u, w], ⟨hv, hu, hw, _⟩ =>
      rw [vw_int hv, vw_int hu, vw_int hw]
      refine ⟨_, _, _, .int (min (min i j) k), rfl, ?_, q _ H F (Alc.refl s) (.int _)⟩
      unfold nuMin3
      rw [nuMin_int, Option.bind_some, nuMin_int]
  · cases e
theorem se_min3 (hm : X.mg "min" = none) (hg : Gl X "min") (hc : X.calm = true) (ha : SA X [a, b, c] ms) (he : starEach [a, b, c] X.env = (false, eval a X.env) :: starEach [b, c] X.env := by rfl) (hpl : (backTo pos (starEach [b, c] X.env)).any (·.1) = false := by rfl) : SE X (.Call (.Name "min" p) [a, b, c] [] pos) (eBlt cMin3 ms) :=
  se_blt (call_min3Nu hc) cs_min3 hg hm (by decide +kernel) ha (by decide) (by decide) he hpl
@[simp] theorem r_min2 {i j : Int} : cMin [.int i, .int j] = some (.int (min i j)) := by show some (D.int _) = _; rw [min_if]
theorem max_if (i j : Int) : (if j > i then j else i) = max i j := by
  split <;> omega
@[simp] theorem r_max2 {i j : Int} : cMax [.int i, .int j] = some (.int (max i j)) := by show some (D.int _) = _; rw [max_if]
@[simp] theorem r_min3 {i j k : Int} : cMin3 [.int i, .int j, .int k] = some (.int (min (min i j) k)) := rfl
/-! ### str of an int, a text, a bool, None -/
theorem call_str_any : CallR X (.type "str") (fun xs H Q => (∃ i, xs = [.int i] ∧ i.natAbs.log2 < 1920 ∧ Q (.str (toString i)) H) ∨ (∃ a, xs = [.str a] ∧ Q (.str a) H) ∨ (∃ b, xs = [.bl b] ∧ Q (.str (if b then "True" else "False")) H) ∨ (xs = [.non] ∧ Q (.str "None") H)) := by
  intro pins s σ H xs us Q I r h
  rcases h with ⟨i, rfl, hz, q⟩ | ⟨a, rfl, q⟩ | ⟨b, rfl, q⟩ | ⟨rfl, q⟩
  · obtain ⟨u, rfl, t, rfl⟩ := vals1 r
    exact PySem.P.str_of_int hz ⟨.str _, H, I.tok _, ⟨_, rfl⟩, q⟩
  · obtain ⟨u, rfl, t, rfl⟩ := vals1 r
    exact PySem.P.str_of_str ⟨.str a, H, I, ⟨t, rfl⟩, q⟩
  · obtain ⟨u, rfl, rfl⟩ := vals1 r
    exact PySem.P.str_of_bool ⟨.str _, H, I.tok _, ⟨_, rfl⟩, q⟩
  · obtain ⟨u, rfl, rfl⟩ := vals1 r
    exact PySem.P.str_of_none ⟨.str _, H, I.tok _, ⟨_, rfl⟩, q⟩
def cStrA : List D → Option D
  | [.int i] => if -1000000000 < i ∧ i < 1000000000 then some (.str (decS i)) else none
  | [.str s] => some (.str s)
  | [.bl b] => some (.str (if b then [84, 114, 117, 101] else [70, 97, 108, 115, 101]))
  | [.non] => some (.str [78, 111, 110, 101])
  | _ => none
theorem cs_strA : CallS K (fun xs H Q => (∃ i, xs = [.int i] ∧ i.natAbs.log2 < 1920 ∧ Q (.str (toString i)) H) ∨ (∃ a, xs = [.str a] ∧ Q (.str a) H) ∨ (∃ b, xs = [.bl b] ∧ Q (.str (if b then "True" else "False")) H) ∨ (xs = [.non] ∧ Q (.str "None") H)) cStrA := by
  intro H F vs xs z s hx e Q q
  unfold cStrA at e
  split at e
  · split at e
    · rename_i i hc
      cases e
      obtain ⟨v, rfl, hv⟩ := vws1 hx
      rw [vw_int hv]
      refine .inl ⟨_, rfl, ?_, q _ H F (Alc.refl s) (rep_str _)⟩
      by_cases z : i.natAbs = 0
      · rw [z]; decide
      · exact (Nat.log2_lt z).mpr (Nat.lt_of_lt_of_le (show i.natAbs < 2 ^ 30 by omega) (Nat.pow_le_pow_right (by decide) (by decide)))
    · cases e
  · rename_i t
    cases e
    obtain ⟨v, rfl, hv⟩ := vws1 hx
    cases (show Rep K F v (.str t) from hv)
    exact .inr (.inl ⟨_, rfl, q _ H F (Alc.refl s) (.str t)⟩)
  · rename_i b
    cases e
    obtain ⟨v, rfl, hv⟩ := vws1 hx
    cases (show Rep K F v (.bl b) from hv)
    refine .inr (.inr (.inl ⟨_, rfl, q _ H F (Alc.refl s) ?_⟩))
    cases b
    · exact rep_str (Str.ofString "False")
    · exact rep_str (Str.ofString "True")
  · cases e
    obtain ⟨v, rfl, hv⟩ := vws1 hx
    cases (show Rep K F v .non from hv)
    exact .inr (.inr (.inr ⟨rfl, q _ H F (Alc.refl s) (rep_str (Str.ofString "None"))⟩))
  · cases e
theorem se_tostrA (hm : X.mg "str" = none) (hg : Gl X "str") (ha : SA X [e] ms) (he : starEach [e] X.env = (false, eval e X.env) :: starEach [] X.env := by rfl) (hpl : (backTo pos (starEach [] X.env)).any (·.1) = false := by rfl) : SE X (.Call (.Name "str" p) [e] [] pos) (eBlt cStrA ms) :=
  se_ty call_str_any cs_strA hg hm (by decide +kernel) ha (by decide) (by decide) he hpl
end
end Sw
/-! Sw17: the draws with the fifth cell, items of written lists, the fifth cell read and stored. -/
namespace Sw
open L2
theorem fv_nextE {xs : List D} {m e : Int} {Q : Vl → List (List D) → Prop} (h : DrE e xs) (hm : 0 < m) (q : ∀ r ys, 0 ≤ r → r < m → DrE e ys → Q (.fz (.int r)) [ys]) : Fv lawNext [.li xs, .da (.int m)] Q := by
  obtain ⟨r, ys, e, h1, h2, h3⟩ := next_okE h hm
  exact ⟨_, _, e, q r ys h1 h2 h3⟩
theorem fv_drawE {ns : List Int} {Q : Vl → List (List D) → Prop} (h : ns.length ≤ 63) (q : ∀ xs, DrE 3 xs → Q (.fr xs) []) : Fv lawDraw [.da (.scr ns)] Q := by
  obtain ⟨xs, e, h⟩ := draw_okE h
  exact ⟨_, _, e, q xs h⟩
theorem atI_mem {α : Type} {xs : List α} {r : Int} (h0 : 0 ≤ r) (h1 : r < xs.length) : ∃ x, x ∈ xs ∧ atI xs r = some x := ⟨_, List.getElem_mem _, atI_int h0 h1⟩
theorem giv_ixl_all {xs : List D} {r : Int} {Q : D → Prop} (h0 : 0 ≤ r) (h1 : r < xs.length) (q : ∀ x ∈ xs, Q x) : Giv (fIx (.lst xs) (.int r)) Q := by
  obtain ⟨x, hx, e⟩ := atI_mem h0 h1
  exact giv_ixl e (q x hx)
theorem giv_ixt_all {xs : List D} {r : Int} {Q : D → Prop} (h0 : 0 ≤ r) (h1 : r < xs.length) (q : ∀ x ∈ xs, Q x) : Giv (fIx (.tup xs) (.int r)) Q := by
  obtain ⟨x, hx, e⟩ := atI_mem h0 h1
  exact giv_ixt e (q x hx)
theorem giv_ixs_all {xs : List Nat} {r : Int} {Q : D → Prop} (hl : xs.length ≤ lim) (h0 : 0 ≤ r) (h1 : r < xs.length) (q : ∀ c ∈ xs, Q (.str [c])) : Giv (fIx (.str xs) (.int r)) Q := by
  obtain ⟨x, hx, e⟩ := atI_mem h0 h1
  exact giv_ixs hl e (q x hx)
theorem all_nil {α : Type} {Q : α → Prop} : ∀ x ∈ ([] : List α), Q x := fun _ h => by cases h
theorem all_cons {α : Type} {Q : α → Prop} {a : α} {xs : List α} (h : Q a) (t : ∀ x ∈ xs, Q x) : ∀ x ∈ a :: xs, Q x := fun x hx => by
  rcases List.mem_cons.mp hx with rfl | hx
  · exact h
  · exact t x hx
theorem giv_dr4 {xs : List D} {e : Int} {Q : D → Prop} (h : DrE e xs) (q : Q (.int e)) : Giv (fIx (.lst xs) (.int 4)) Q := by
  obtain ⟨k, a, b, ds, rfl, hk⟩ := h.ex
  exact giv_ixl rfl q
theorem DrE.set4 {xs : List D} {e : Int} (h : DrE e xs) (e' : Int) : xs.length = 5 ∧ DrE e' (xs.set 4 (.int e')) := by
  obtain ⟨k, a, b, ds, rfl, hk⟩ := h.ex
  exact ⟨rfl, ⟨k, a, b, ds, rfl, hk⟩⟩
section
variable {ρ : Rho} {b : M Vl} {s : S} {QS : Fl → Rho → Prop} {i : Nat}
/-- the fifth cell is stored -/
theorem sv_set4_s (h : Ev b ρ fun r ρ1 => IsI r fun e' => ∃ xs, own? ρ1 i = some xs ∧ (∃ e, DrE e xs) ∧ ∀ ys, DrE e' ys → Sv s (put ρ1 i ys) QS) : Sv (sSeq (sSetI i (eC (.int 4)) b) s) ρ QS := by
  obtain ⟨r, ρ1, e1, e', rfl, xs, e5, ⟨e, hd⟩, q⟩ := h
  refine sv_seti_s ⟨_, ρ1, e1, .int e', ρ1, rfl, by rw [e5]; rfl, ?_⟩
  exact ev_c (isI ⟨xs, 4, e5, by rw [(hd.set4 e').1]; rfl, q _ (hd.set4 e').2⟩)
end
theorem own_at {ρ : Rho} {i : Nat} {xs : List D} {P : List D → Prop} (h : own? ρ i = some xs) (q : P xs) : ∃ xs, own? ρ i = some xs ∧ P xs := ⟨xs, h, q⟩
theorem giv_tup {xs : List D} {Q : D → Prop} (q : Q (.tup xs)) : Giv (cTup [.lst xs]) Q := ⟨_, rfl, q⟩
theorem giv_tupt {xs : List D} {Q : D → Prop} (q : Q (.tup xs)) : Giv (cTup [.tup xs]) Q := ⟨_, rfl, q⟩
theorem giv_str {i : Int} {Q : D → Prop} (h : -1000000000 < i ∧ i < 1000000000) (q : Q (.str (decS i))) : Giv (cStrA [.int i]) Q := ⟨_, by show (if _ then _ else _) = _; rw [if_pos h], q⟩
theorem giv_strN {Q : D → Prop} (q : Q (.str [78, 111, 110, 101])) : Giv (cStrA [.non]) Q := ⟨_, rfl, q⟩
theorem giv_strS {s : List Nat} {Q : D → Prop} (q : Q (.str s)) : Giv (cStrA [.str s]) Q := ⟨_, rfl, q⟩
@[simp] theorem r_isn1 {i : Int} : fIs (.int i) .non = some (.bl false) := rfl
@[simp] theorem r_isn2 : fIs .non .non = some (.bl true) := rfl
@[simp] theorem r_isn3 {s : List Nat} : fIs (.str s) .non = some (.bl false) := rfl
@[simp] theorem r_isn4 {s : List D} : fIs (.tup s) .non = some (.bl false) := rfl
@[simp] theorem r_isn5 {s : List D} : fIs (.lst s) .non = some (.bl false) := rfl
@[simp] theorem r_ntn1 {i : Int} : fNt (.int i) .non = some (.bl true) := rfl
@[simp] theorem r_ntn2 : fNt .non .non = some (.bl false) := rfl
@[simp] theorem r_ntn3 {s : List Nat} : fNt (.str s) .non = some (.bl true) := rfl
@[simp] theorem r_ntn4 {s : List D} : fNt (.tup s) .non = some (.bl true) := rfl
@[simp] theorem r_ntn5 {s : List D} : fNt (.lst s) .non = some (.bl true) := rfl
@[simp] theorem r_eqn1 {i : Int} : fEq (.int i) .non = some (.bl false) := rfl
@[simp] theorem r_eqn2 {i : Int} : fEq .non (.int i) = some (.bl false) := rfl
/-- the decimals of a small number are few -/
theorem decS_len {i : Int} (h0 : 0 ≤ i) (h1 : i < 1000) : (decS i).length ≤ 3 := by
  obtain ⟨n, rfl⟩ := Int.eq_ofNat_of_zero_le h0
  have hn : n < 1000 := by omega
  have all : (List.range 1000).all (fun n => decide ((decS (n : Int)).length ≤ 3)) = true := by decide +kernel
  rw [List.all_eq_true] at all
  exact of_decide_eq_true (all n (List.mem_range.mpr hn))
theorem gEv {α : Type} {m : M α} {ρ : Rho} {Q : α → Rho → Prop} (h : Ev m ρ Q) : Ev m ρ Q := h
theorem gSv {s : S} {ρ : Rho} {Q : Fl → Rho → Prop} (h : Sv s ρ Q) : Sv s ρ Q := h
theorem gGiv {o : Option D} {Q : D → Prop} (h : Giv o Q) : Giv o Q := h
theorem gFv {f : Fn} {gs : List Ag} {Q : Vl → List (List D) → Prop} (h : Fv f gs Q) : Fv f gs Q := h
theorem gBrn {c : Bool} {A B : Prop} (h : Brn c A B) : Brn c A B := h
theorem brn_c {c : Bool} {A B : Prop} (h1 : c = true → A) (h2 : c = false → B) : Brn c A B := ⟨h1, h2⟩
/-! ### comprehensions that change nothing -/
theorem set_back {ρ : Rho} {v : Nat} (hv : plainSl ρ[v]? = true) : (ρ.set v .no).set v ((ρ[v]?).getD .no) = ρ := by
  rw [List.set_set]
  cases e : ρ[v]? with
  | none => rw [e] at hv; cases hv
  | some s =>
    obtain ⟨h, rfl⟩ := List.getElem?_eq_some_iff.mp e
    exact List.set_getElem_self h
theorem plain_io {ρ : Rho} {v : Nat} (hv : plainSl ρ[v]? = true) : v < ρ.length := by
  cases e : ρ[v]? with
  | none => rw [e] at hv; cases hv
  | some s => exact (List.getElem?_eq_some_iff.mp e).1
theorem ev_lcf {α : Type} {ρ : Rho} {v : Nat} {src : M (List D)} {t : M Bool} {e : M Vl} {Q : Vl → Rho → Prop} (xs : List α) (d : α → D) (p : α → Bool) (h : α → D)
    (hv : plainSl ρ[v]? = true) (hl : xs.length ≤ lim) (hs : ∀ {Q' : List D → Rho → Prop}, Q' (xs.map d) ρ → Ev src ρ Q')
    (ht : ∀ x ∈ xs, ∀ {Q' : Bool → Rho → Prop}, Q' (p x) (ρ.set v (.d (d x))) → Ev t (ρ.set v (.d (d x))) Q')
    (he : ∀ x ∈ xs, p x = true → ∀ {Q' : Vl → Rho → Prop}, Q' (.fz (h x)) (ρ.set v (.d (d x))) → Ev e (ρ.set v (.d (d x))) Q')
    (q : Q (.fr ((xs.filter p).map h)) ρ) : Ev (eLc [v] src (gN v) t e) ρ Q := by
  have hvl := plain_io hv
  refine ev_lc (fun i acc ρ' => acc = ((xs.take i).filter p).map h ∧ ρ' = ρ.set v .no) (hs ?_)
  refine ⟨by simp only [List.all_cons, hv, List.all_nil]; rfl, ⟨by simp, rfl⟩, ?_, ?_⟩
  · rintro i y hy acc ρ' ⟨rfl, rfl⟩
    rw [List.getElem?_map] at hy
    cases hi : xs[i]? with
    | none => rw [hi] at hy; cases hy
    | some x =>
      rw [hi] at hy
      cases hy
      have hx := List.mem_of_getElem? hi
      have hi' : i < xs.length := (List.getElem?_eq_some_iff.mp hi).1
      refine ⟨ρ.set v (.d (d x)), ?_, ht x hx ?_⟩
      · show asg v (.fz (d x)) _ = _
        rw [asg_z (by rw [List.getElem?_set_self hvl]; rfl), List.set_set]
      · refine ⟨fun hp => he x hx hp ⟨h x, _, rfl, ?_, ?_, ?_⟩, fun hp => ⟨?_, ?_⟩⟩
        · rw [List.length_map]
          have := List.length_filter_le p (xs.take i)
          rw [List.length_take] at this
          omega
        · rw [take_s hi, List.filter_append, List.map_append]; simp [hp]
        · show (ρ.set v (.d (d x))).set v .no = _
          rw [List.set_set]
        · rw [take_s hi, List.filter_append, List.map_append]; simp [hp]
        · show (ρ.set v (.d (d x))).set v .no = _
          rw [List.set_set]
  · rintro acc ρ' ⟨rfl, rfl⟩
    rw [List.length_map, List.take_length]
    show Q _ ((ρ.set v .no).set v ((ρ[v]?).getD .no))
    rw [set_back hv]
    exact q
theorem ev_lcm {α : Type} {ρ : Rho} {v : Nat} {src : M (List D)} {e : M Vl} {Q : Vl → Rho → Prop} (xs : List α) (d : α → D) (h : α → D)
    (hv : plainSl ρ[v]? = true) (hl : xs.length ≤ lim) (hs : ∀ {Q' : List D → Rho → Prop}, Q' (xs.map d) ρ → Ev src ρ Q')
    (he : ∀ x ∈ xs, ∀ {Q' : Vl → Rho → Prop}, Q' (.fz (h x)) (ρ.set v (.d (d x))) → Ev e (ρ.set v (.d (d x))) Q')
    (q : Q (.fr (xs.map h)) ρ) : Ev (eLc [v] src (gN v) tYesM e) ρ Q :=
  ev_lcf xs d (fun _ => true) h hv hl hs (fun x _ Q' q => ev_tyes q) (fun x hx _ => he x hx) (by rw [List.filter_eq_self.mpr (fun _ _ => rfl)]; exact q)
/-- what is walked is a datum's items -/
theorem ev_isqd {ρ : Rho} {a : M Vl} {xs : List D} {Q : List D → Rho → Prop} (h : Ev a ρ fun r ρ1 => ∃ z, r = .fz z ∧ itemsOf z = some xs ∧ Q xs ρ1) : Ev (iSq a) ρ Q := by
  obtain ⟨r, ρ1, e1, z, rfl, e2, q⟩ := h
  exact ev_isq ⟨_, _, e1, z, ρ1, xs, rfl, e2, q⟩
theorem giv_joinb {cs : List (List Nat)} {s : List Nat} {Q : D → Prop} (h : (cs.map (·.length)).sum + cs.length * s.length ≤ lim) (q : Q (.str (TL.joinL s cs))) : Giv (fJoin (.str s) [.lst (cs.map D.str)]) Q := by
  refine giv ?_ q
  unfold fJoin
  dsimp only
  rw [strsOf_map]
  show (if _ then _ else _) = _
  rw [if_pos h]
theorem joinL_len {s : List Nat} : ∀ cs : List (List Nat), (TL.joinL s cs).length ≤ (cs.map (·.length)).sum + cs.length * s.length
  | [] => by simp [TL.joinL]
  | [c] => by simp [TL.joinL]
  | c :: d :: r => by
    have := joinL_len (s := s) (d :: r)
    simp only [TL.joinL, List.length_append, List.map_cons, List.sum_cons, List.length_cons, Nat.add_mul, Nat.one_mul] at this ⊢
    omega
/-! ### slices -/
theorem sIx_ge {n d : Nat} {r : Int} (h : 0 ≤ r) : HT.sIx n d (some r) = min r.toNat n := by
  obtain ⟨k, rfl⟩ := Int.eq_ofNat_of_zero_le h
  rw [HT.sIx_nat]; rfl
theorem cut_take {α : Type} {xs : List α} {r : Int} (h : 0 ≤ r) : cutL xs none (some r) = xs.take r.toNat := by
  unfold cutL
  rw [sIx_ge h]
  show (xs.drop 0).take (min r.toNat xs.length - 0) = _
  rw [List.drop_zero, Nat.sub_zero, Nat.min_comm, ← List.take_take]
  rw [List.take_take, Nat.min_comm]
  by_cases hl : r.toNat ≤ xs.length
  · rw [Nat.min_eq_left hl]
  · rw [Nat.min_eq_right (by omega), List.take_length, List.take_of_length_le (by omega)]
theorem cut_drop {α : Type} {xs : List α} {r : Int} (h : 0 ≤ r) : cutL xs (some r) none = xs.drop r.toNat := by
  unfold cutL
  rw [sIx_ge h]
  show (xs.drop (min r.toNat xs.length)).take (xs.length - min r.toNat xs.length) = _
  by_cases hl : r.toNat ≤ xs.length
  · rw [Nat.min_eq_left hl, List.take_of_length_le (by rw [List.length_drop]; omega)]
  · rw [Nat.min_eq_right (by omega), List.drop_length, List.drop_of_length_le (by omega), List.take_nil]
theorem cut_mid {α : Type} {xs : List α} {r u : Int} (h : 0 ≤ r) (h2 : 0 ≤ u) : cutL xs (some r) (some u) = (xs.drop r.toNat).take (u.toNat - r.toNat) := by
  unfold cutL
  rw [sIx_ge h, sIx_ge h2]
  by_cases hl : r.toNat ≤ xs.length
  · rw [Nat.min_eq_left hl]
    by_cases hu : u.toNat ≤ xs.length
    · rw [Nat.min_eq_left hu]
    · rw [Nat.min_eq_right (by omega), List.take_of_length_le (by rw [List.length_drop]; omega), List.take_of_length_le (by rw [List.length_drop]; omega)]
  · rw [show min r.toNat xs.length = xs.length by omega, List.drop_length, List.drop_of_length_le (by omega), List.take_nil, List.take_nil]
theorem cut_m1 {α : Type} {xs : List α} : cutL xs none (some (-1)) = xs.dropLast := by
  unfold cutL
  have e : HT.sIx xs.length xs.length (some (-1)) = xs.length - 1 := by
    unfold HT.sIx
    simp
    omega
  rw [e]
  show (xs.drop 0).take (xs.length - 1 - 0) = _
  rw [List.drop_zero, Nat.sub_zero, List.dropLast_eq_take]
theorem giv_slt {xs : List Nat} {r : Int} {Q : D → Prop} (hl : xs.length ≤ lim) (h : 0 ≤ r) (q : Q (.str (xs.take r.toNat))) : Giv (fSl (.str xs) none (some r)) Q := giv_sls hl (by rw [cut_take h]; exact q)
theorem giv_sld {xs : List Nat} {r : Int} {Q : D → Prop} (hl : xs.length ≤ lim) (h : 0 ≤ r) (q : Q (.str (xs.drop r.toNat))) : Giv (fSl (.str xs) (some r) none) Q := giv_sls hl (by rw [cut_drop h]; exact q)
theorem giv_slm {xs : List Nat} {r u : Int} {Q : D → Prop} (hl : xs.length ≤ lim) (h : 0 ≤ r) (h2 : 0 ≤ u) (q : Q (.str ((xs.drop r.toNat).take (u.toNat - r.toNat)))) : Giv (fSl (.str xs) (some r) (some u)) Q := giv_sls hl (by rw [cut_mid h h2]; exact q)
theorem giv_slm1 {xs : List Nat} {Q : D → Prop} (hl : xs.length ≤ lim) (q : Q (.str xs.dropLast)) : Giv (fSl (.str xs) none (some (-1))) Q := giv_sls hl (by rw [cut_m1]; exact q)
theorem giv_sltl {xs : List D} {r : Int} {Q : D → Prop} (h : 0 ≤ r) (q : Q (.lst (xs.take r.toNat))) : Giv (fSl (.lst xs) none (some r)) Q := giv_sll (by rw [cut_take h]; exact q)
theorem giv_sldl {xs : List D} {r : Int} {Q : D → Prop} (h : 0 ≤ r) (q : Q (.lst (xs.drop r.toNat))) : Giv (fSl (.lst xs) (some r) none) Q := giv_sll (by rw [cut_drop h]; exact q)
/-- what stands behind a return -/
theorem sv_rets {a : M Vl} {ρ : Rho} {s : S} {QS : Fl → Rho → Prop} (h : Sv (sRet a) ρ QS) : Sv (sSeq (sRet a) s) ρ QS := by
  obtain ⟨fl, ρ1, e, q⟩ := h
  have : ∃ v, fl = .rt v := by
    rw [r_sRet] at e
    obtain ⟨⟨r, ρ2⟩, e1, e2⟩ := Option.bind_eq_some_iff.mp e
    cases r with
    | fz x => cases e2; exact ⟨_, rfl⟩
    | fr x => cases e2; exact ⟨_, rfl⟩
    | bw i =>
      dsimp only at e2
      split at e2
      · cases e2; exact ⟨_, rfl⟩
      · cases e2
  obtain ⟨v, rfl⟩ := this
  exact sv_seq_rt e q
/-! ### tests that change nothing, as one question -/
theorem ev_tAnd_d {t u : M Bool} {ρ : Rho} {QB : Bool → Rho → Prop} {p q : Prop} {ip : Decidable p} {iq : Decidable q} (ht : ∀ Q : Bool → Rho → Prop, Q (@decide p ip) ρ → Ev t ρ Q) (hu : p → ∀ Q : Bool → Rho → Prop, Q (@decide q iq) ρ → Ev u ρ Q) (h : QB (decide (p ∧ q)) ρ) : Ev (tAnd t u) ρ QB := by
  refine ev_tAnd (ht _ ?_)
  refine brn_d (fun hp => hu hp _ ?_) (fun hp => ?_)
  · rw [show decide q = decide (p ∧ q) by simp [hp]]; exact h
  · rw [show false = decide (p ∧ q) by simp [hp]]; exact h
theorem ev_tOr_d {t u : M Bool} {ρ : Rho} {QB : Bool → Rho → Prop} {p q : Prop} {ip : Decidable p} {iq : Decidable q} (ht : ∀ Q : Bool → Rho → Prop, Q (@decide p ip) ρ → Ev t ρ Q) (hu : ¬ p → ∀ Q : Bool → Rho → Prop, Q (@decide q iq) ρ → Ev u ρ Q) (h : QB (decide (p ∨ q)) ρ) : Ev (tOr t u) ρ QB := by
  refine ev_tOr (ht _ ?_)
  refine brn_d (fun hp => ?_) (fun hp => hu hp _ ?_)
  · rw [show true = decide (p ∨ q) by simp [hp]]; exact h
  · rw [show decide q = decide (p ∨ q) by simp [hp]]; exact h
theorem toD_t {Q : Bool → Rho → Prop} {ρ : Rho} (q : Q (decide ((0 : Int) = 0)) ρ) : Q true ρ := q
theorem toD_f {Q : Bool → Rho → Prop} {ρ : Rho} (q : Q (decide ((0 : Int) = 1)) ρ) : Q false ρ := q
theorem toD_b {Q : Bool → Rho → Prop} {ρ : Rho} {o : Bool} (q : Q (decide (o = true)) ρ) : Q o ρ := by rw [Bool.decide_eq_true] at q; exact q
theorem toD_n {Q : Bool → Rho → Prop} {ρ : Rho} {p : Prop} {ip : Decidable p} (q : Q (decide (¬ p)) ρ) : Q (!@decide p ip) ρ := by rw [decide_not] at q; exact q
end Sw
/-! Sw18: any, all, sum, max, min of a list; pop, insert, reverse, extend, clear of a list of one's own; index. -/
namespace Sw
open PySem PySem.Spec PyProof.Rows L2
section
variable {X : Cx} {a b c e : Expr} {pos p : Pos} {es : List Expr} {ms : M (List Vl)} {me : M Vl} {K : PySem.W.Frag}
def bools : List D → Option (List Bool)
  | [] => some []
  | .bl b :: xs => (bools xs).bind fun r => some (b :: r)
  | _ => none
def intsD : List D → Option (List Int)
  | [] => some []
  | .int i :: xs => (intsD xs).bind fun r => some (i :: r)
  | _ => none
theorem bools_ok {F : Hp} : ∀ {vs : List V} {xs : List D} {bs : List Bool}, Reps K F vs xs → bools xs = some bs → vs = bs.map V.bl
  | _, _, _, .nil, e => by cases e; rfl
  | _, _, _, .cons r t, e => by
    cases r with
    | bl b =>
      unfold bools at e
      obtain ⟨zs, e1, e⟩ := Option.bind_eq_some_iff.mp e
      cases e
      rw [bools_ok t e1]; rfl
    | _ => cases e
theorem intsD_ok {F : Hp} : ∀ {vs : List V} {xs : List D} {bs : List Int}, Reps K F vs xs → intsD xs = some bs → vs = bs.map V.int
  | _, _, _, .nil, e => by cases e; rfl
  | _, _, _, .cons r t, e => by
    cases r with
    | int b =>
      unfold intsD at e
      obtain ⟨zs, e1, e⟩ := Option.bind_eq_some_iff.mp e
      cases e
      rw [intsD_ok t e1]; rfl
    | _ => cases e
theorem bools_map : ∀ bs : List Bool, bools (bs.map D.bl) = some bs
  | [] => rfl
  | b :: bs => by rw [List.map_cons, bools, bools_map bs]; rfl
theorem intsD_map : ∀ bs : List Int, intsD (bs.map D.int) = some bs
  | [] => rfl
  | b :: bs => by rw [List.map_cons, intsD, intsD_map bs]; rfl
def cAny : List D → Option D
  | [.lst xs] => (bools xs).bind fun bs => some (.bl (bs.any id))
  | _ => none
def cAll : List D → Option D
  | [.lst xs] => (bools xs).bind fun bs => some (.bl (bs.all id))
  | _ => none
def cSum : List D → Option D
  | [.lst xs] => (intsD xs).bind fun ns => some (.int ns.sum)
  | _ => none
def cMaxL : List D → Option D
  | [.lst xs] => (intsD xs).bind fun ns => ns.max?.bind fun m => some (.int m)
  | _ => none
def cMinL : List D → Option D
  | [.lst xs] => (intsD xs).bind fun ns => ns.min?.bind fun m => some (.int m)
  | _ => none
theorem cs_any : CallS K (rAny K) cAny := by
  intro H F vs xs z s hx e Q q
  unfold cAny at e
  split at e
  · obtain ⟨bs, e1, e⟩ := Option.bind_eq_some_iff.mp e
    cases e
    obtain ⟨v, rfl, a, us, rfl, h1, h2⟩ := vws1 hx
    refine ⟨a, bs, rfl, ?_, q _ H F (Alc.refl s) (.bl _)⟩
    rw [← bools_ok h2 e1]; exact SqL.of h1
  · cases e
theorem cs_all : CallS K (rAll K) cAll := by
  intro H F vs xs z s hx e Q q
  unfold cAll at e
  split at e
  · obtain ⟨bs, e1, e⟩ := Option.bind_eq_some_iff.mp e
    cases e
    obtain ⟨v, rfl, a, us, rfl, h1, h2⟩ := vws1 hx
    refine ⟨a, bs, rfl, ?_, q _ H F (Alc.refl s) (.bl _)⟩
    rw [← bools_ok h2 e1]; exact SqL.of h1
  · cases e
theorem cs_sum : CallS K (rSum K) cSum := by
  intro H F vs xs z s hx e Q q
  unfold cSum at e
  split at e
  · obtain ⟨bs, e1, e⟩ := Option.bind_eq_some_iff.mp e
    cases e
    obtain ⟨v, rfl, a, us, rfl, h1, h2⟩ := vws1 hx
    refine ⟨a, bs, rfl, ?_, q _ H F (Alc.refl s) (.int _)⟩
    rw [← intsD_ok h2 e1]; exact SqL.of h1
  · cases e
theorem max_uniq {ns : List Int} {m k : Int} (h : ns.max? = some m) (hk : k ∈ ns) (hle : ∀ y, y ∈ ns → y ≤ k) : k = m := by
  have h2 := (List.max?_eq_some_iff (xs := ns) (a := m)).mp h
  have := hle m h2.1
  have := h2.2 k hk
  omega
theorem min_uniq {ns : List Int} {m k : Int} (h : ns.min? = some m) (hk : k ∈ ns) (hle : ∀ y, y ∈ ns → k ≤ y) : k = m := by
  have h2 := (List.min?_eq_some_iff (xs := ns) (a := m)).mp h
  have := hle m h2.1
  have := h2.2 k hk
  omega
theorem cs_maxL : CallS K (rMax K) cMaxL := by
  intro H F vs xs z s hx e Q q
  unfold cMaxL at e
  split at e
  · obtain ⟨bs, e1, e⟩ := Option.bind_eq_some_iff.mp e
    obtain ⟨m, e2, e⟩ := Option.bind_eq_some_iff.mp e
    cases e
    obtain ⟨v, rfl, a, us, rfl, h1, h2⟩ := vws1 hx
    refine ⟨a, bs, rfl, ?_, ?_, fun k hk hle => ?_⟩
    · rw [← intsD_ok h2 e1]; exact SqL.of h1
    · cases bs with
      | nil => cases e2
      | cons x r => simp
    · rw [max_uniq e2 hk hle]; exact q _ H F (Alc.refl s) (.int _)
  · cases e
theorem cs_minL : CallS K (rMin K) cMinL := by
  intro H F vs xs z s hx e Q q
  unfold cMinL at e
  split at e
  · obtain ⟨bs, e1, e⟩ := Option.bind_eq_some_iff.mp e
    obtain ⟨m, e2, e⟩ := Option.bind_eq_some_iff.mp e
    cases e
    obtain ⟨v, rfl, a, us, rfl, h1, h2⟩ := vws1 hx
    refine ⟨a, bs, rfl, ?_, ?_, fun k hk hle => ?_⟩
    · rw [← intsD_ok h2 e1]; exact SqL.of h1
    · cases bs with
      | nil => cases e2
      | cons x r => simp
    · rw [min_uniq e2 hk hle]; exact q _ H F (Alc.refl s) (.int _)
  · cases e
theorem se_any (hm : X.mg "any" = none) (hg : Gl X "any") (hc : X.calm = true) (ha : SA X [e] ms) (he : starEach [e] X.env = (false, eval e X.env) :: starEach [] X.env := by rfl) (hpl : (backTo pos (starEach [] X.env)).any (·.1) = false := by rfl) : SE X (.Call (.Name "any" p) [e] [] pos) (eBlt cAny ms) :=
  se_blt (cr_any hc) cs_any hg hm (by decide +kernel) ha (by decide) (by decide) he hpl
theorem se_all (hm : X.mg "all" = none) (hg : Gl X "all") (hc : X.calm = true) (ha : SA X [e] ms) (he : starEach [e] X.env = (false, eval e X.env) :: starEach [] X.env := by rfl) (hpl : (backTo pos (starEach [] X.env)).any (·.1) = false := by rfl) : SE X (.Call (.Name "all" p) [e] [] pos) (eBlt cAll ms) :=
  se_blt (cr_all hc) cs_all hg hm (by decide +kernel) ha (by decide) (by decide) he hpl
theorem se_sum (hm : X.mg "sum" = none) (hg : Gl X "sum") (hc : X.calm = true) (ha : SA X [e] ms) (he : starEach [e] X.env = (false, eval e X.env) :: starEach [] X.env := by rfl) (hpl : (backTo pos (starEach [] X.env)).any (·.1) = false := by rfl) : SE X (.Call (.Name "sum" p) [e] [] pos) (eBlt cSum ms) :=
  se_blt (cr_sum hc) cs_sum hg hm (by decide +kernel) ha (by decide) (by decide) he hpl
theorem se_max1 (hm : X.mg "max" = none) (hg : Gl X "max") (hc : X.calm = true) (ha : SA X [e] ms) (he : starEach [e] X.env = (false, eval e X.env) :: starEach [] X.env := by rfl) (hpl : (backTo pos (starEach [] X.env)).any (·.1) = false := by rfl) : SE X (.Call (.Name "max" p) [e] [] pos) (eBlt cMaxL ms) :=
  se_blt (cr_max hc) cs_maxL hg hm (by decide +kernel) ha (by decide) (by decide) he hpl
theorem se_min1 (hm : X.mg "min" = none) (hg : Gl X "min") (hc : X.calm = true) (ha : SA X [e] ms) (he : starEach [e] X.env = (false, eval e X.env) :: starEach [] X.env := by rfl) (hpl : (backTo pos (starEach [] X.env)).any (·.1) = false := by rfl) : SE X (.Call (.Name "min" p) [e] [] pos) (eBlt cMinL ms) :=
  se_blt (cr_min hc) cs_minL hg hm (by decide +kernel) ha (by decide) (by decide) he hpl
/-! ### lists of one's own: methods that change them -/
def sMut (i : Nat) (f : List D → List D → Option (List D)) (m : M (List Vl)) : S := fun ρ => (own? ρ i).bind fun _ => (m ρ).bind fun p => (frzs p.2 p.1).bind fun q => (own? q.2 i).bind fun xs => (f xs q.1).bind fun ys => some (.nx, put q.2 i ys)
def MutS (K : PySem.W.Frag) (r : V → List V → Hp → VK → Prop) (f : List D → List D → Option (List D)) : Prop :=
  ∀ (H F : Hp) (a : Addr) (us vs : List V) (xs zs ys : List D), Same F H → H a = some (.lst us) → Reps K F us xs → Reps K F vs zs → f xs zs = some ys → ∀ Q : VK, (∀ us' w, Reps K F us' ys → Q w (upd H a (.lst us'))) → r (.ref a) vs H Q
theorem smut_of {i : Nat} {f : List D → List D → Option (List D)} {r : V → List V → Hp → VK → Prop} (hf : MutS X.K r f) {E : Ends} {σ : L2.St} {H : Hp} (h : tSW X.K Wx (sMut i f ms) E σ H) : ∃ v, σ[i]? = some (some v) ∧ tyV X.K "list" v H ∧ tMA X.K ms σ H fun vs H1 => r v vs H1 fun _ H2 => E.nx σ H2 := by
  obtain ⟨G, ρ, F, fl, ρ', W, hm, q⟩ := h
  unfold sMut at hm
  obtain ⟨xs0, e0, hm⟩ := Option.bind_eq_some_iff.mp hm
  obtain ⟨⟨rs, ρ1⟩, e1, hm⟩ := Option.bind_eq_some_iff.mp hm
  obtain ⟨⟨zs, ρ2⟩, e2, hm⟩ := Option.bind_eq_some_iff.mp hm
  obtain ⟨xs, e3, hm⟩ := Option.bind_eq_some_iff.mp hm
  obtain ⟨ys, e4, hm⟩ := Option.bind_eq_some_iff.mp hm
  cases hm
  obtain ⟨a, ha, vs0, hv0⟩ := W.own_at e0
  refine ⟨.ref a, ha, .inl ⟨rfl, _, SqL.of hv0⟩, G, ρ, F, rs, ρ1, W, e1, fun vs H1 F1 s1 R1 => ?_⟩
  obtain ⟨F2, s2, R2⟩ := frzs_ok s1.wd R1 e2
  obtain ⟨b, hb, us, hu, ru⟩ := s2.wd.own_at' e3
  rw [ha] at hb; cases hb
  refine hf H1 F2 a us vs xs zs ys s2.wd.sub hu ru R2 e4 _ fun us' w r' => ?_
  obtain ⟨W3, _⟩ := s2.wd.put (a := a) e3 ha r'
  exact q σ _ F2 W3 (s1.ff.trans s2.ff)
theorem ss_mut {i : Nat} {o : Expr} {name : Str} {id : String} {apos cpos : Pos} {f : List D → List D → Option (List D)} {r : V → List V → Hp → VK → Prop} (slot : Slot "list" name id) (hty : typeOf (.builtin id) = pure (.type "method_descriptor")) (hmt : MtR X id r) (hf : MutS X.K r f) (ho : PE X o (tVar i)) (ha : SA X (e :: es) ms)
    (hbase : attributeBase o name X.env (eval o X.env) = eval o X.env := by rfl)
    (hfew : ((backTo cpos (starEach (e :: es) X.env)).all (fun x => !x.1) && (backToKw cpos (keywordEach [] X.env)).all (fun x => x.1.isSome)
      && decide ((e :: es).length + ([] : List Keyword).length + (if ([] : List Keyword).isEmpty then 0 else 1) < 30)) = true := by rfl)
    (hline : (apos.endLine == cpos.line) = true := by rfl) (hst : starEach (e :: es) X.env = (false, eval e X.env) :: starEach es X.env := by rfl) (hplain : (backTo cpos (starEach es X.env)).any (·.1) = false := by rfl)
    (hs : swapsWith (.Call (.Attribute o name apos) (e :: es) [] cpos) none pos.line X.env = pure false := by rfl) :
    SSW X Wx (.Expr (.Call (.Attribute o name apos) (e :: es) [] cpos) pos) (sMut i f ms) := by
  refine ps_weak (ps_expr (pe_bm PySem.F.plainAttrs_list slot hty hmt ho ha hbase hfew hline hst hplain) hs) fun E σ H h => ?_
  obtain ⟨v, hv, ty, h⟩ := smut_of hf h
  exact ⟨v, hv, ty, h⟩
theorem ss_mut0 {i : Nat} {o : Expr} {name : Str} {id : String} {apos cpos : Pos} {f : List D → List D → Option (List D)} {r : V → List V → Hp → VK → Prop} (slot : Slot "list" name id) (hty : typeOf (.builtin id) = pure (.type "method_descriptor")) (hmt : MtR X id r) (hf : MutS X.K r f) (ho : PE X o (tVar i))
    (hbase : attributeBase o name X.env (eval o X.env) = eval o X.env := by rfl) (hline : (apos.endLine == cpos.line) = true := by rfl)
    (hs : swapsWith (.Call (.Attribute o name apos) [] [] cpos) none pos.line X.env = pure false := by rfl) :
    SSW X Wx (.Expr (.Call (.Attribute o name apos) [] [] cpos) pos) (sMut i f aNil) := by
  refine ps_weak (ps_expr (pe_bm0 PySem.F.plainAttrs_list slot hty hmt ho hbase hline) hs) fun E σ H h => ?_
  obtain ⟨v, hv, ty, G, ρ, F, rs, ρ1, W, e1, q⟩ := smut_of hf h
  cases e1
  exact ⟨v, hv, ty, q [] H F (Ste.refl W) trivial⟩
def mIns : List D → List D → Option (List D)
  | xs, [.int i, y] => if 0 ≤ i ∧ i ≤ 1000000000 ∧ xs.length < lim then some (xs.take i.toNat ++ [y] ++ xs.drop i.toNat) else none
  | _, _ => none
def mRev : List D → List D → Option (List D)
  | xs, [] => some xs.reverse
  | _, _ => none
def mClr : List D → List D → Option (List D)
  | _, [] => some []
  | _, _ => none
def mExt : List D → List D → Option (List D)
  | xs, [.lst ys] => if xs.length + ys.length ≤ lim then some (xs ++ ys) else none
  | _, _ => none
theorem mu_ins : MutS K (fun x vs H Q => ∃ (l : Addr) (xs : List V) (i : Int) (y : V), x = .ref l ∧ vs = [.int i, y] ∧ H l = some (.lst xs) ∧ xs.length < sizeLine ∧ 0 ≤ i ∧ i < 2 ^ 63 ∧ Q .non (upd H l (.lst (xs.take i.toNat ++ [y] ++ xs.drop i.toNat)))) mIns := by
  intro H F a us vs xs zs ys s h1 r1 r2 e Q q
  unfold mIns at e
  split at e
  · split at e
    · rename_i hc
      cases e
      cases r2 with
      | cons ri t => cases ri with
        | int i => cases t with
          | cons ry t2 => cases t2 with
            | nil => exact ⟨a, us, _, _, rfl, rfl, h1, lim_lt (by rw [r1.len]; exact hc.2.2), hc.1, by omega, q _ _ (((r1.take _).append (.cons ry .nil)).append (r1.drop _))⟩
    · cases e
  · cases e
theorem mu_rev : MutS K rReverse mRev := by
  intro H F a us vs xs zs ys s h1 r1 r2 e Q q
  unfold mRev at e
  split at e
  · cases e
    cases r2
    exact ⟨a, us, rfl, rfl, h1, q _ _ r1.reverse⟩
  · cases e
theorem mu_clr : MutS K rClear mClr := by
  intro H F a us vs xs zs ys s h1 r1 r2 e Q q
  unfold mClr at e
  split at e
  · cases e
    cases r2
    exact ⟨a, us, rfl, rfl, h1, q _ _ .nil⟩
  · cases e
theorem mu_ext : MutS K rExtend mExt := by
  intro H F a us vs xs zs ys s h1 r1 r2 e Q q
  unfold mExt at e
  split at e
  · split at e
    · rename_i hc
      cases e
      cases r2 with
      | cons ri t => cases t with
        | nil => cases ri with
          | lst h2 r3 => exact ⟨a, _, us, _, rfl, rfl, h1, s _ _ h2, lim_of (by rw [r1.len, r3.len]; exact hc), q _ _ (r1.append r3)⟩
    · cases e
  · cases e
/-- xs.pop() -/
def ePop (i : Nat) : M Vl := fun ρ => (own? ρ i).bind fun xs => (xs[xs.length - 1]?).bind fun z => some (.fz z, put ρ i xs.dropLast)
theorem reps_dl {F : Hp} {vs : List V} {xs : List D} (h : Reps K F vs xs) : Reps K F vs.dropLast xs.dropLast := by
  rw [List.dropLast_eq_take, List.dropLast_eq_take, h.len]; exact h.take _
theorem se_pop {i : Nat} {o : Expr} {apos cpos : Pos} (ho : PE X o (tVar i)) (hbase : attributeBase o "pop" X.env (eval o X.env) = eval o X.env := by rfl) (hline : (apos.endLine == cpos.line) = true := by rfl) :
    SE X (.Call (.Attribute o "pop" apos) [] [] cpos) (ePop i) := by
  refine pe_weak (pe_bm0 PySem.F.plainAttrs_list PySem.F.slot_list_pop PySem.F.type_list_pop mt_pop ho hbase hline) fun σ H Q ⟨G, ρ, F, r, ρ', W, hm, q⟩ => ?_
  unfold ePop at hm
  obtain ⟨xs, e0, hm⟩ := Option.bind_eq_some_iff.mp hm
  obtain ⟨z, e1, hm⟩ := Option.bind_eq_some_iff.mp hm
  cases hm
  obtain ⟨a, ha, us, hu, ru⟩ := W.own_at' e0
  obtain ⟨v, hv, rv⟩ := ru.get' e1
  refine ⟨.ref a, ha, .inl ⟨rfl, _, SqL.of hu⟩, a, us, v, rfl, rfl, hu, by rw [ru.len]; exact hv, ?_⟩
  have sl := own_sl e0
  have s := after_call (K := X.K) (G := G) (σ := σ) (H := H) (ρ := ρ) (F := F) (F' := F) (H' := upd H a (.lst us.dropLast)) (is := [i]) (as := [a]) (os := [xs.dropLast]) W (by simp) rfl (fun k j b e1 e2 => by
    cases k with
    | zero => simp at e1 e2; subst e1; subst e2; exact ⟨⟨xs, sl⟩, ha⟩
    | succ k => simp at e1) (Same.refl _) (fun b x e => by
      have nb : b ≠ a := fun z => by
        obtain ⟨vs0, h1, h2⟩ := W.ow_there ⟨⟨xs, sl⟩, ha⟩
        rw [z, h2] at e; cases e
      rw [upd_ne nb]; exact W.sub _ _ e) (fun b o e hb => by
      have nb : b ≠ a := fun z => hb (by rw [z]; simp)
      rw [upd_ne nb]; exact e) (fun _ h => .inl h) ⟨⟨_, upd_same, reps_dl ru, (W.ow_there ⟨⟨xs, sl⟩, ha⟩).choose_spec.2⟩, trivial⟩
  exact q v _ F s rv
end
end Sw
/-! Sw19: for i, x in enumerate(xs), xs a list or a tuple. -/
namespace Sw
open PySem PySem.Spec PyProof.Rows L2
set_option maxHeartbeats 8000000 in
/-- enumerate of anything whose iterator is one new object -/
theorem meetsEnum1 {v : Value} {ob : Obj} {P : Heap → Prop} (B : Begins v ob P) : Meets (Builtin.«enumerate.__new__» ⟨[.type "enumerate", v], []⟩) (fun _ R s => P s.heap ∧ R (.ok (.ret (.ref (s.heap.push ob).objs.size)))
    { s with heap := (s.heap.push ob).push { cls := .type "enumerate", data := .fields #[.none, .bool false, .ref s.heap.objs.size, rawInt 0, .none, .none] } }) := by
  refine .of_wp fun prog w A R s h => ?_
  obtain ⟨hp, gs, dr, tk, os⟩ := s
  obtain ⟨hP, hR⟩ := h
  have su := sub_enumerate
  have it1 : ∀ {A' : Around} {E' : Value → Shared → Prop} {Q' : Value → Shared → Prop}, Q' (.ref hp.objs.size) ⟨hp.push ob, gs, dr, tk, os⟩ → wpAny (model prog w) A' (pyIter v) Q' E' ⟨hp, gs, dr, tk, os⟩ := fun q' => B.iter prog w _ _ ⟨hp, gs, dr, tk, os⟩ _ hP q'
  wp_walk using it1
  refine wpAny_stack_any fun stk => wpAny_pure ?_
  split
  · rename_i cc _ _ _ _ _
    cases (cc == Value.type "enumerate") <;> (wp_walk using it1; exact ⟨_, rfl, hR⟩)
  · wp_walk using it1; exact ⟨_, rfl, hR⟩
theorem callEnum1 {prog : Program} {w : World} {A : Around} {E : Value → Shared → Prop} {s : Shared} {v : Value} {ob : Obj} {P : Heap → Prop} {Q : Value → Shared → Prop} (B : Begins v ob P) (hP : P s.heap)
    (q : ∀ h', IsEnum h' (s.heap.objs.size + 1) s.heap.objs.size 0 .none → h'.get? s.heap.objs.size = some ob → h'.objs.size = s.heap.objs.size + 2 → (∀ b o, s.heap.get? b = some o → h'.get? b = some o) → Q (.ref (s.heap.objs.size + 1)) { s with heap := h' }) :
    wpAny (model prog w) A (call (.type "enumerate") [v]) Q E s := by
  refine callType_new F.called_enumerate (by decide) (F.typeCall_enumerate_1 _) (F.newCall_enumerate_1 _) (fun _ => F.args_object_init_2 _ _) F.entry_enumerate_new (meetsEnum1 B) ⟨hP, ?_⟩
  have sz : (s.heap.push ob).objs.size = s.heap.objs.size + 1 := Heap.size_push ..
  show _ ∧ _
  rw [sz]
  have en : IsEnum ((s.heap.push ob).push { cls := .type "enumerate", data := .fields #[.none, .bool false, .ref s.heap.objs.size, rawInt 0, .none, .none] }) (s.heap.objs.size + 1) s.heap.objs.size 0 .none := by
    have z := Heap.get?_push_size (s.heap.push ob) (o := { cls := .type "enumerate", data := .fields #[.none, .bool false, .ref s.heap.objs.size, rawInt 0, .none, .none] }) rfl
    rwa [sz] at z
  exact ⟨⟨_, en, rfl⟩, q _ en (Heap.get?_push_of_some _ (Heap.get?_push_size _ B.free)) (by rw [Heap.size_push, sz]) fun b o z => Heap.get?_push_of_some _ (Heap.get?_push_of_some _ z)⟩
/-- the tuple at a as it stands, each item in a new pair -/
def IteT (K : PySem.W.Frag) (a : Addr) : It :=
  ⟨fun i H => ∃ (xs : List V) (x : V), SqT K H a xs ∧ xs[i]? = some x, fun i H v H' => ∃ t x, v = .ref t ∧ H t = none ∧ H' = upd H t (.tup [.int (i : Nat), x]) ∧ ∀ xs, SqT K H a xs → xs[i]? = some x, fun i H => ∃ xs : List V, SqT K H a xs ∧ xs.length ≤ i⟩
theorem turnEnumT {P : Program} {w : World} {K : PySem.W.Frag} {elts : List Expr} {kk : Nat} {tpos : Pos} (a e it : Addr) :
    Turn P w K (.Tuple elts kk tpos) (IteT K a) [e, it] e (fun i h => (∃ old, IsEnum h e it ((i : Nat) : Int) old) ∧ h.IsTupleIter it a i ∧ e ≠ it ∧ a ≠ it ∧ a ≠ e) where
  mem := List.mem_cons_self
  obj := fun i h st b hb => by
    obtain ⟨⟨old, he⟩, ⟨o, ho, _, hd⟩, _⟩ := st
    rcases List.mem_cons.mp hb with rfl | hb
    · exact ⟨_, he, fun v z => nomatch z⟩
    · rw [List.mem_singleton.mp hb]
      exact ⟨o, ho, fun v z => by rw [hd] at z; cases z⟩
  keep := fun i h h' st k => by
    obtain ⟨⟨old, he⟩, hi, n1⟩ := st
    exact ⟨⟨old, k e List.mem_cons_self _ he⟩, hi.at fun o z => k it (by simp) o z, n1⟩
  item := by
    intro X hP hw hK hc i pins s σ H E I hf st hg
    subst hP hw hK
    obtain ⟨⟨old, he⟩, hit, n1, n2, n3⟩ := st
    obtain ⟨xs, x, hq, hx⟩ := hg
    obtain ⟨its, rv, tp, hz⟩ := I.tuple hq
    obtain ⟨u, hu, ru⟩ := rv.get hx
    have le : e < s.heap.objs.size := Heap.lt_size he
    have li : it < s.heap.objs.size := by obtain ⟨_, z, _⟩ := hit; exact Heap.lt_size z
    have il : i < its.toArray.size := by
      have := (List.getElem?_eq_some_iff.mp hu).1
      simpa using this
    refine wpAny_pyNext_enum_itemD (Draws.tuple (A := X.A.in1) (show X.A.in1.handled = none from I.ok.hd hc) it a n2 its.toArray) he ⟨hit, tp⟩ il n1 (by simp [n1, Ne.symm n3]) fun y h' tk hy ho st' hT hsz hk => ?_
    have ey : y = u := by
      have hy' : its[i]? = some y := by simpa using hy
      rw [hu] at hy'; exact (Option.some.inj hy').symm
    subst ey
    refine ⟨_, rfl, wpAny_letOwnedTupleGo_enum (s := { s with heap := h', toks := tk + 1 }) ho fun h2 he2 sb => ?_⟩
    have hT2 : h2.get? s.heap.objs.size = some { cls := .type "tuple", data := .seq #[.int i tk, y] } := (sb.2 _ (Nat.ne_of_gt le)).trans hT
    have new : ObjOk X.prog X.w (upd H s.heap.objs.size (.tup [.int (i : Nat), x])) h2 s.heap.objs.size (.tup [.int (i : Nat), x]) := ⟨by show 2 ≤ sizeLine; decide, [.int i tk, y], .cons ⟨_, rfl⟩ (.cons ru .nil), ⟨_, hT2, rfl, _, rfl⟩⟩
    have I1 : Inv X pins σ (upd H s.heap.objs.size (.tup [.int (i : Nat), x])) { s with heap := h2, toks := tk + 1 } :=
      I.turnedNew (ch := [e, it]) (fun b ob hb z => (sb.2 b (fun w => hb (by simp [w]))).trans (hk b ob (fun w => hb (by simp [w])) (fun w => hb (by simp [w])) z)) hf (Nat.le_refl _) new
    refine ⟨.ref s.heap.objs.size, _, I1, rfl, ⟨_, x, rfl, I.hok.fresh (Nat.le_refl _), rfl, fun ys hy => by rw [I.tuple_inj hy hq]; exact hx⟩, ⟨⟨y, ?_⟩, st'.1.at fun o z => (sb.2 it (Ne.symm n1)).trans z, n1, n2, n3⟩, fun b hb => ?_⟩
    · rw [show ((i + 1 : Nat) : Int) = (i : Int) + 1 by omega]; exact he2
    · have lb : b < s.heap.objs.size := by
        rcases List.mem_cons.mp hb with rfl | hb
        · exact le
        · rw [List.mem_singleton.mp hb]; exact li
      rw [upd_ne (Nat.ne_of_lt lb)]
      exact (hf b hb).1
  done := by
    intro X hP hw hK hc i pins s σ H E I hf st hg
    subst hP hw hK
    obtain ⟨⟨old, he⟩, hit, n1, n2, n3⟩ := st
    obtain ⟨xs, hq, hx⟩ := hg
    obtain ⟨its, rv, tp, hz⟩ := I.tuple hq
    obtain ⟨f0, f1, f2, f3, f4, f5⟩ := hf it (by simp)
    have hl := rv.length
    have dr : Draws X.prog X.w X.A.in1 it [it, a] i (fun _ _ => True) (fun j h => j = i ∧ h.IsTupleIter it a i ∧ h.IsTuple a its.toArray) :=
      { live := fun _ _ z => let ⟨o, ho, _⟩ := z.2.1; ⟨o, ho⟩
        frame := fun _ _ _ z k => ⟨z.1, z.2.1.at fun o w => k it (by simp) o w, z.2.2.at fun o w => k a (by simp) o w⟩
        item := fun j _ _ _ hj z _ => absurd z.1 (Nat.ne_of_lt hj)
        done := fun s2 Q2 E2 z hE => wpAny_nextOf_tuple_end (show X.A.in1.handled = none from I.ok.hd hc) z.2.1 z.2.2 (by simp; omega) hE }
    exact wpAny_pyNext_enum_endD dr he ⟨rfl, hit, tp⟩ fun h' eb => ⟨rfl, I.turned (t' := s.toks) (fun b o hb z => eb b o hb z) f0 f1 f3 f4 f5⟩
  self := fun A i s Q E st h => let ⟨⟨_, he⟩, _⟩ := st; wpAny_pyIter_enum he h
def iEnumT (K : PySem.W.Frag) (ta : TA) : TI := fun σ H R => ta σ H fun vs H1 => ∃ a xs, vs = [.ref a] ∧ SqT K H1 a xs ∧ R (IteT K a) H1
theorem pi_enumT {X : Cx} {e : Expr} {ta : TA} {p pos tpos : Pos} {elts : List Expr} {kk : Nat} (hg : Gl X "enumerate") (hm : X.mg "enumerate" = none) (ha : PA X [e] ta) (hs : starEach [e] X.env = [(false, eval e X.env)] := by rfl) :
    PI X (.Tuple elts kk tpos) (.Call (.Name "enumerate" p) [e] [] pos) (iEnumT X.K ta) := by
  refine ⟨fun pins s σ H R I h => ?_⟩
  refine Call_ (ld_blt I hg hm boot_enumerate (PyProof.Rows.callWith_type1 (thn (ha.run pos pins s σ H _ I h) fun us s1 z => ?_) hs rfl))
  obtain ⟨vs, H1, I1, r1, a, xs, ex, hq, q⟩ := z
  subst ex
  cases r1 with
  | cons r rr =>
    cases rr
    cases r
    obtain ⟨its, rv, tp, hz⟩ := I1.tuple hq
    refine callEnum1 (begins_tuple a its.toArray) tp fun h' he hit hsz hk => wpAny_pyIter_enum he ?_
    have I2 : Inv X pins σ H1 { s1 with heap := h' } := I1.kept (t' := s1.toks) hk
    have la : a < s1.heap.objs.size := by obtain ⟨_, z, _⟩ := tp; exact Heap.lt_size z
    refine ⟨s1.heap.objs.size + 1, [s1.heap.objs.size + 1, s1.heap.objs.size], _, _, H1, rfl, I2, turnEnumT a (s1.heap.objs.size + 1) s1.heap.objs.size, ⟨⟨.none, he⟩, ⟨_, hit, rfl, rfl⟩, Nat.succ_ne_self _, Nat.ne_of_lt la, Nat.ne_of_lt (Nat.lt_succ_of_lt la)⟩, fun b hb => ?_, q⟩
    have hle : s1.heap.objs.size ≤ b := by
      rcases List.mem_cons.mp hb with rfl | hb
      · omega
      · rw [List.mem_singleton.mp hb]; exact Nat.le_refl _
    exact I1.fpOk hle (I1.hok.fresh hle)
/-! ### in the layer -/
def enumL (xs : List D) : List D := xs.zipIdx.map fun p => .tup [.int (p.2 : Nat), p.1]
theorem enumL_get {xs : List D} {i : Nat} : (enumL xs)[i]? = (xs[i]?).map fun x => .tup [.int (i : Nat), x] := by
  unfold enumL
  rw [List.getElem?_map, List.getElem?_zipIdx]
  cases xs[i]? with
  | none => rfl
  | some x => simp
theorem enumL_len {xs : List D} : (enumL xs).length = xs.length := by unfold enumL; simp
def iEn (m : M (List Vl)) : M (List D) := fun ρ => (m ρ).bind fun p => match p.1 with
  | [r] => (frz p.2 r).bind fun q => match q.1 with
    | .lst xs => some (enumL xs, q.2)
    | .tup xs => some (enumL xs, q.2)
    | _ => none
  | _ => none
theorem jr_enT {K : PySem.W.Frag} {F : Hp} {a : Addr} {vs : List V} {xs : List D} (h : SqT K F a vs) (r : Reps K F vs xs) : JR K (IteT K a) F (enumL xs) where
  go := fun i H s hi => ⟨vs, vs[i]'(by rw [r.len]; rw [enumL_len] at hi; exact hi), same_t s h, List.getElem?_eq_getElem _⟩
  yl := fun i H F1 x H' hi s1 s2 y => by
    obtain ⟨t, z, rfl, hn, rfl, y⟩ := y
    have e := y vs (same_t s2 (same_t s1 h))
    obtain ⟨d, h1, h2⟩ := r.get e
    have A := Alc.new (o := HO.tup [.int (i : Nat), z]) s2 hn
    exact ⟨_, _, A, by rw [enumL_get, h1]; rfl, .tup (SqT.of upd_same) (.cons (.int _) (.cons (h2.mono (s1.trans A.ff)) .nil))⟩
  st := fun i H s hi => ⟨vs, same_t s h, by rw [r.len]; rw [enumL_len] at hi; exact hi⟩
theorem jr_enL {K : PySem.W.Frag} {F : Hp} {a : Addr} {vs : List V} {xs : List D} (h : SqL K F a vs) (r : Reps K F vs xs) : JR K (Ite K a) F (enumL xs) where
  go := fun i H s hi => ⟨vs, vs[i]'(by rw [r.len]; rw [enumL_len] at hi; exact hi), s.seq h, List.getElem?_eq_getElem _⟩
  yl := fun i H F1 x H' hi s1 s2 y => by
    obtain ⟨t, z, rfl, hn, rfl, y⟩ := y
    have e := y vs (s2.seq (s1.seq h))
    obtain ⟨d, h1, h2⟩ := r.get e
    have A := Alc.new (o := HO.tup [.int (i : Nat), z]) s2 hn
    exact ⟨_, _, A, by rw [enumL_get, h1]; rfl, .tup (SqT.of upd_same) (.cons (.int _) (.cons (h2.mono (s1.trans A.ff)) .nil))⟩
  st := fun i H s hi => ⟨vs, s.seq h, by rw [r.len]; rw [enumL_len] at hi; exact hi⟩
theorem si_enum {X : Cx} {e : Expr} {ms : M (List Vl)} {p pos tpos : Pos} {elts : List Expr} {kk : Nat} (hm : X.mg "enumerate" = none) (hg : Gl X "enumerate") (ha : SA X [e] ms) (hs : starEach [e] X.env = [(false, eval e X.env)] := by rfl) :
    SI X (.Tuple elts kk tpos) (.Call (.Name "enumerate" p) [e] [] pos) (iEn ms) := by
  refine pi_weak (pi_or (pi_enum hg hm ha hs) (pi_enumT hg hm ha hs)) fun σ H R ⟨G, ρ, F, xs, ρ', W, hm, q⟩ => ?_
  unfold iEn at hm
  obtain ⟨⟨rs, ρ1⟩, e1, hm⟩ := Option.bind_eq_some_iff.mp hm
  split at hm
  · rename_i r hr
    dsimp only at hr
    subst hr
    obtain ⟨⟨x, ρ2⟩, e2, hm⟩ := Option.bind_eq_some_iff.mp hm
    split at hm
    · rename_i zs hz
      dsimp only at hz
      subst hz
      cases hm
      refine .inl ⟨G, ρ, F, [r], ρ1, W, e1, fun vs H1 F1 s1 R1 => ?_⟩
      obtain ⟨v, rfl, Rv⟩ : ∃ v, vs = [v] ∧ VlS X.K σ F1 v r := by
        match vs, R1 with
        | [v], z => exact ⟨v, rfl, z.1⟩
      obtain ⟨F2, s2, R2⟩ := frz_ok s1.wd Rv e2
      cases R2 with
      | lst h1 h2 => exact ⟨_, _, rfl, SqL.of (s2.wd.sub _ _ h1), q _ _ F2 (s1.trans s2) (jr_enL (SqL.of h1) h2)⟩
    · rename_i zs hz
      dsimp only at hz
      subst hz
      cases hm
      refine .inr ⟨G, ρ, F, [r], ρ1, W, e1, fun vs H1 F1 s1 R1 => ?_⟩
      obtain ⟨v, rfl, Rv⟩ : ∃ v, vs = [v] ∧ VlS X.K σ F1 v r := by
        match vs, R1 with
        | [v], z => exact ⟨v, rfl, z.1⟩
      obtain ⟨F2, s2, R2⟩ := frz_ok s1.wd Rv e2
      cases R2 with
      | tup h1 h2 => exact ⟨_, _, rfl, same_t s2.wd.sub h1, q _ _ F2 (s1.trans s2) (jr_enT h1 h2)⟩
    · cases hm
  · cases hm
end Sw
/-! Sw20: xs.index(y) of a list of flat things. -/
namespace Sw
open PySem PySem.Spec PyProof.Rows L2
section
variable {X : Cx} {o e : Expr} {es : List Expr} {mo : M Vl} {ms : M (List Vl)} {K : PySem.W.Frag}
/-- a method of a list that changes nothing -/
def lstQ : D → Bool
  | .lst _ => true
  | _ => false
def eMetL (f : D → List D → Option D) (o : M Vl) (a : M (List Vl)) : M Vl := fun ρ => (o ρ).bind fun p => (look p.2 (stl p.1)).bind fun x0 => if lstQ x0 = true then (a p.2).bind fun q => (look q.2 (stl p.1)).bind fun x => (looks q.2 q.1).bind fun xs => (f x xs).bind fun z => some (.fz z, q.2) else none
theorem tmetL_of {r : V → List V → Hp → VK → Prop} {f : D → List D → Option D} (hf : MetS K r f) {σ : L2.St} {H : Hp} {Q : VK} (h : tM K (eMetL f mo ms) σ H Q) :
    tM K mo σ H fun x H1 => tyV K "list" x H1 ∧ tMA K ms σ H1 fun xs H2 => r x xs H2 Q := by
  obtain ⟨G, ρ, F, r0, ρ', W, hm, q⟩ := h
  unfold eMetL at hm
  obtain ⟨⟨x, ρ1⟩, e1, hm⟩ := Option.bind_eq_some_iff.mp hm
  obtain ⟨x0, e0, hm⟩ := Option.bind_eq_some_iff.mp hm
  split at hm
  · rename_i hx0
    obtain ⟨⟨y, ρ2⟩, e2, hm⟩ := Option.bind_eq_some_iff.mp hm
    obtain ⟨dx, e3, hm⟩ := Option.bind_eq_some_iff.mp hm
    obtain ⟨dxs, e4, hm⟩ := Option.bind_eq_some_iff.mp hm
    obtain ⟨dz, e5, hm⟩ := Option.bind_eq_some_iff.mp hm
    cases hm
    refine tm_use W e1 fun v H1 F1 s1 R1 => ⟨?_, G, ρ1, F1, y, ρ2, s1.wd, e2, fun vs H2 F2 s2 R2 => ?_⟩
    · have hv := vw_of s1.wd R1 e0
      cases x0 <;> first | cases hx0 | skip
      obtain ⟨a, us, rfl, h1, h2⟩ := hv
      exact .inl ⟨rfl, _, SqL.of h1⟩
    · refine hf H2 F2 v vs dx dxs dz s2.wd.sub (vw_of s2.wd (R1.ste s2) e3) (vws_of s2.wd R2 e4) e5 Q fun w H' F' A R => ?_
      exact q w H' F' ((s1.trans s2).trans (s2.wd.alc A)) R
  · cases hm
def fIdx : D → List D → Option D
  | .lst xs, [y] => if (flatD y && xs.all flatD) = true then (xs.findIdx? fun x => eqF x y).bind fun j => some (.int (j : Nat)) else none
  | _, _ => none
theorem all_flat {F : Hp} : ∀ {vs : List V} {xs : List D}, Reps K F vs xs → xs.all flatD = true → vs.all flatV = true
  | _, _, .nil, _ => rfl
  | _, _, .cons r t, h => by
    rw [List.all_cons, Bool.and_eq_true] at h ⊢
    exact ⟨flat_rep r h.1, all_flat t h.2⟩
theorem ms_idx : MetS K (rIndex K) fIdx := by
  intro H F v vs x xs z s hx hxs e Q q
  unfold fIdx at e
  split at e
  · rename_i l y
    split at e
    · rename_i hc
      rw [Bool.and_eq_true] at hc
      obtain ⟨j, e1, e⟩ := Option.bind_eq_some_iff.mp e
      cases e
      obtain ⟨a, us, rfl, h1, h2⟩ := hx
      obtain ⟨u, rfl, hu⟩ := vws1 hxs
      have ry := vw_flat hu hc.1
      obtain ⟨hj, hp, hmin⟩ := List.findIdx?_eq_some_iff_getElem.mp e1
      have hju : j < us.length := by rw [h2.len]; exact hj
      obtain ⟨d, hd, rd⟩ := h2.get (List.getElem?_eq_getElem hju)
      rw [List.getElem?_eq_getElem hj] at hd
      cases hd
      have fl : ∀ k (hk : k < l.length), flatD l[k] = true := fun k hk => List.all_eq_true.mp hc.2 _ (List.getElem_mem hk)
      refine ⟨a, us, u, j, us[j], rfl, rfl, SqL.of h1, flat_rep ry hc.1, all_flat h2 hc.2, List.getElem?_eq_getElem hju, by rw [eqF_rep rd ry (fl j hj) hc.1]; exact hp, fun m w hm hw => ?_, q _ H F (Alc.refl s) (.int _)⟩
      have hml : m < l.length := Nat.lt_trans hm hj
      obtain ⟨d2, hd2, rd2⟩ := h2.get hw
      rw [List.getElem?_eq_getElem hml] at hd2
      cases hd2
      rw [eqF_rep rd2 ry (fl m hml) hc.1]
      have := hmin m hm
      simpa using this
    · cases e
  · cases e
theorem se_index {apos cpos : Pos} (ho : SE X o mo) (ha : SA X [e] ms)
    (hbase : attributeBase o "index" X.env (eval o X.env) = eval o X.env := by rfl)
    (hfew : ((backTo cpos (starEach [e] X.env)).all (fun x => !x.1) && (backToKw cpos (keywordEach [] X.env)).all (fun x => x.1.isSome)
      && decide ([e].length + ([] : List Keyword).length + (if ([] : List Keyword).isEmpty then 0 else 1) < 30)) = true := by rfl)
    (hline : (apos.endLine == cpos.line) = true := by rfl) (hs : starEach [e] X.env = (false, eval e X.env) :: starEach [] X.env := by rfl) (hplain : (backTo cpos (starEach [] X.env)).any (·.1) = false := by rfl) :
    SE X (.Call (.Attribute o "index" apos) [e] [] cpos) (eMetL fIdx mo ms) :=
  pe_weak (pe_bm PySem.F.plainAttrs_list PySem.F.slot_list_index PySem.F.type_list_index mt_index ho ha hbase hfew hline hs hplain) fun _ _ _ h => tmetL_of ms_idx h
end
end Sw
/-! Sw21: slices of tuples; xs + ys of lists is a new list. -/
namespace Sw
open PySem PySem.Spec PyProof.Rows L2
section
variable {X : Cx} {a b e : Expr} {ma mb me : M Vl} {pos : Pos} {K : PySem.W.Frag}
/-- a part of a tuple that is not the whole one -/
def fSlT : D → Option Int → Option Int → Option D
  | .tup s, lo, hi => if HT.sIx s.length 0 lo ≠ 0 ∨ HT.sIx s.length s.length hi ≠ s.length then some (.tup (cutL s lo hi)) else none
  | _, _, _ => none
theorem sls_tup : SlS K (rSlT K) fSlT := by
  intro H F v x z lo hi s hx e Q q
  unfold fSlT at e
  split at e
  · split at e
    · rename_i hc
      cases e
      cases (show Rep K F v (.tup _) from hx) with
      | @tup a vs _ h1 h2 =>
        refine ⟨a, vs, rfl, same_t s h1, ?_, fun p hp => ?_⟩
        · rw [h2.len]; rintro ⟨z1, z2⟩; rcases hc with hc | hc
          · exact hc z1
          · exact hc z2
        · have A := Alc.new (o := HO.tup (cutV vs lo hi)) s hp
          exact q _ _ _ A (.tup (SqT.of upd_same) ((cutV_reps h2).mono A.ff))
    · cases e
  · cases e
def fSlA : D → Option Int → Option Int → Option D := orSl (orSl fSlL fSlS) fSlT
theorem oSlA : ∃ r, L2.SlR X r ∧ SlS X.K r fSlA := ⟨_, (sl_list.or sl_str).or sl_tup, (sls_list.or sls_str).or sls_tup⟩
theorem se_slcA {lo hi : Option Expr} {ml mu : M (Option Int)} {p2 : Pos} (he : SE X e me) (hl : SO X lo ml) (hu : SO X hi mu) : SE X (.Subscript e (.Slice lo hi none p2) pos) (eSl fSlA me ml mu) := by
  obtain ⟨r, h1, h2⟩ := oSlA (X := X)
  exact se_sl h1 h2 he hl hu
theorem giv_A {x : D} {l u : Option Int} {Q : D → Prop} (h : Giv (fSl x l u) Q) : Giv (fSlA x l u) Q := by
  obtain ⟨z, h, q⟩ := h
  refine ⟨z, ?_, q⟩
  show (match fSl x l u with | some z => some z | none => fSlT x l u) = _
  rw [h]
theorem giv_tA {xs : List D} {l u : Option Int} {Q : D → Prop} (hc : HT.sIx xs.length 0 l ≠ 0 ∨ HT.sIx xs.length xs.length u ≠ xs.length) (q : Q (.tup (cutL xs l u))) : Giv (fSlA (.tup xs) l u) Q := by
  refine ⟨_, ?_, q⟩
  show (if HT.sIx xs.length 0 l ≠ 0 ∨ HT.sIx xs.length xs.length u ≠ xs.length then some (D.tup (cutL xs l u)) else none) = _
  rw [if_pos hc]
theorem giv_sldT {xs : List D} {r : Int} {Q : D → Prop} (h : 0 < r) (h2 : 0 < xs.length) (q : Q (.tup (xs.drop r.toNat))) : Giv (fSlA (.tup xs) (some r) none) Q := by
  refine giv_tA (.inl ?_) (by rw [cut_drop (by omega)]; exact q)
  rw [sIx_ge (by omega)]; omega
theorem giv_sltT {xs : List D} {r : Int} {Q : D → Prop} (h : 0 ≤ r) (h2 : r < xs.length) (q : Q (.tup (xs.take r.toNat))) : Giv (fSlA (.tup xs) none (some r)) Q := by
  refine giv_tA (.inr ?_) (by rw [cut_take h]; exact q)
  rw [sIx_ge h]; omega
/-! ### a + b -/
def addV (x y : D) : Option Vl := match x, y with
  | .lst xs, .lst ys => if xs.length + ys.length ≤ lim then some (.fr (xs ++ ys)) else none
  | x, y => (fAdd x y).bind fun z => some (.fz z)
def eAdd (a b : M Vl) : M Vl := fun ρ => (a ρ).bind fun p => (b p.2).bind fun q => (look q.2 (stl p.1)).bind fun x => (look q.2 (stl q.1)).bind fun y => (addV x y).bind fun z => some (z, q.2)
theorem addV_cases {x y : D} {z : Vl} (h : addV x y = some z) : (∃ xs ys, x = .lst xs ∧ y = .lst ys ∧ xs.length + ys.length ≤ lim ∧ z = .fr (xs ++ ys)) ∨ ∃ w, fAdd x y = some w ∧ z = .fz w := by
  unfold addV at h
  split at h
  · split at h
    · rename_i hl; cases h; exact .inl ⟨_, _, rfl, rfl, hl, rfl⟩
    · cases h
  · obtain ⟨w, e1, e2⟩ := Option.bind_eq_some_iff.mp h
    cases e2
    exact .inr ⟨w, e1, rfl⟩
theorem se_add (ha : SE X a ma) (hb : SE X b mb) : SE X (.BinOp a .Add b pos) (eAdd ma mb) := by
  obtain ⟨r, h1, h2⟩ := oAdd (X := X)
  refine pe_weak (pe_op (op_cat.or h1) ha hb) fun σ H Q ⟨G, ρ, F, r0, ρ', W, hm, q⟩ => ?_
  unfold eAdd at hm
  obtain ⟨⟨x, ρ1⟩, e1, hm⟩ := Option.bind_eq_some_iff.mp hm
  obtain ⟨⟨y, ρ2⟩, e2, hm⟩ := Option.bind_eq_some_iff.mp hm
  obtain ⟨dx, e3, hm⟩ := Option.bind_eq_some_iff.mp hm
  obtain ⟨dy, e4, hm⟩ := Option.bind_eq_some_iff.mp hm
  obtain ⟨dz, e5, hm⟩ := Option.bind_eq_some_iff.mp hm
  cases hm
  refine tm_use W e1 fun v H1 F1 s1 R1 => ?_
  refine tm_use s1.wd e2 fun u H2 F2 s2 R2 => ?_
  have V1 := vw_of s2.wd (R1.ste s2) e3
  have V2 := vw_of s2.wd R2 e4
  have s12 := s1.trans s2
  rcases addV_cases e5 with ⟨xs, ys, rfl, rfl, hl, rfl⟩ | ⟨w, ew, rfl⟩
  · obtain ⟨c, vs, rfl, g1, g2⟩ := V1
    obtain ⟨d, us, rfl, g3, g4⟩ := V2
    refine .inl ⟨c, d, vs, us, rfl, rfl, g1, g3, lim_of (by rw [g2.len, g4.len]; exact hl), fun p hp => ?_⟩
    have A : Alc F2 H2 F2 (upd H2 p (.lst (vs ++ us))) := ⟨Same.refl _, s2.wd.sub.trans (same_upd hp), same_upd hp, fun _ h => .inl h⟩
    refine q _ _ _ (s12.trans (s2.wd.alc A)) ⟨p, vs ++ us, rfl, upd_same, g2.append g4, s2.wd.sub.free hp, s12.back p hp, fun i o => ?_⟩
    obtain ⟨_, z, _⟩ := s12.wd.ow_there o
    rw [hp] at z; cases z
  · refine .inr (h2 H2 F2 v u dx dy w s2.wd.sub V1 V2 ew Q fun w' H' F' A R => ?_)
    exact q w' H' F' (s12.trans (s2.wd.alc A)) R
/-! rules -/
def Add2 (x y : D) (P : Vl → Prop) : Prop := ∃ z, addV x y = some z ∧ P z
theorem ev_add {ρ : Rho} {m1 m2 : M Vl} {Q : Vl → Rho → Prop} (h : Ev m1 ρ fun r ρ1 => Ev m2 ρ1 fun r2 ρ2 => See2 ρ2 r r2 fun x y => Add2 x y fun v => Q v ρ2) : Ev (eAdd m1 m2) ρ Q := by
  obtain ⟨r, ρ1, e1, r2, ρ2, e2, x, y, e3, e4, z, e5, q⟩ := h
  refine ⟨_, ρ2, ?_, q⟩
  show (m1 ρ).bind _ = _
  rw [e1]
  simp only [Option.bind_some, e2, e3, e4, e5]
theorem add2_i {i j : Int} {P : Vl → Prop} (q : P (.fz (.int (i + j)))) : Add2 (.int i) (.int j) P := ⟨_, rfl, q⟩
theorem add2_s {s t : List Nat} {P : Vl → Prop} (h : s.length + t.length ≤ lim) (q : P (.fz (.str (s ++ t)))) : Add2 (.str s) (.str t) P := by
  refine ⟨_, ?_, q⟩
  show (fAdd (.str s) (.str t)).bind _ = _
  rw [r_add2, if_pos h]; rfl
theorem add2_l {xs ys : List D} {P : Vl → Prop} (h : xs.length + ys.length ≤ lim) (q : P (.fr (xs ++ ys))) : Add2 (.lst xs) (.lst ys) P := by
  refine ⟨_, ?_, q⟩
  show (if _ then _ else _) = _
  rw [if_pos h]
theorem add2_t {xs ys : List D} {P : Vl → Prop} (h : xs.length + ys.length ≤ lim) (q : P (.fz (.tup (xs ++ ys)))) : Add2 (.tup xs) (.tup ys) P := by
  refine ⟨_, ?_, q⟩
  have e : fAdd (.tup xs) (.tup ys) = some (.tup (xs ++ ys)) := by
    show (if xs.length + ys.length ≤ lim then some (D.tup (xs ++ ys)) else none) = _
    rw [if_pos h]
  show (fAdd (.tup xs) (.tup ys)).bind _ = _
  rw [e]; rfl
end
end Sw
/-! Sw22: isinstance of data, told. -/
namespace Sw
open L2
theorem q_isi_tuple_non : fIsi "tuple" .non = some (.bl false) := by unfold fIsi; rw [show kitB (tyN .non) "tuple" = some false by show kitB "NoneType" "tuple" = _; decide +kernel]; rfl
theorem q_isi_tuple_bl {b : Bool} : fIsi "tuple" (.bl b) = some (.bl false) := by unfold fIsi; rw [show kitB (tyN (.bl b)) "tuple" = some false by show kitB "bool" "tuple" = _; decide +kernel]; rfl
theorem q_isi_tuple_int {i : Int} : fIsi "tuple" (.int i) = some (.bl false) := by unfold fIsi; rw [show kitB (tyN (.int i)) "tuple" = some false by show kitB "int" "tuple" = _; decide +kernel]; rfl
theorem q_isi_tuple_str {s : List Nat} : fIsi "tuple" (.str s) = some (.bl false) := by unfold fIsi; rw [show kitB (tyN (.str s)) "tuple" = some false by show kitB "str" "tuple" = _; decide +kernel]; rfl
theorem q_isi_tuple_lst {l : List D} : fIsi "tuple" (.lst l) = some (.bl false) := by unfold fIsi; rw [show kitB (tyN (.lst l)) "tuple" = some false by show kitB "list" "tuple" = _; decide +kernel]; rfl
theorem q_isi_tuple_tup {l : List D} : fIsi "tuple" (.tup l) = some (.bl true) := by unfold fIsi; rw [show kitB (tyN (.tup l)) "tuple" = some true by show kitB "tuple" "tuple" = _; decide +kernel]; rfl
theorem q_isi_list_non : fIsi "list" .non = some (.bl false) := by unfold fIsi; rw [show kitB (tyN .non) "list" = some false by show kitB "NoneType" "list" = _; decide +kernel]; rfl
theorem q_isi_list_bl {b : Bool} : fIsi "list" (.bl b) = some (.bl false) := by unfold fIsi; rw [show kitB (tyN (.bl b)) "list" = some false by show kitB "bool" "list" = _; decide +kernel]; rfl
theorem q_isi_list_int {i : Int} : fIsi "list" (.int i) = some (.bl false) := by unfold fIsi; rw [show kitB (tyN (.int i)) "list" = some false by show kitB "int" "list" = _; decide +kernel]; rfl
theorem q_isi_list_str {s : List Nat} : fIsi "list" (.str s) = some (.bl false) := by unfold fIsi; rw [show kitB (tyN (.str s)) "list" = some false by show kitB "str" "list" = _; decide +kernel]; rfl
theorem q_isi_list_lst {l : List D} : fIsi "list" (.lst l) = some (.bl true) := by unfold fIsi; rw [show kitB (tyN (.lst l)) "list" = some true by show kitB "list" "list" = _; decide +kernel]; rfl
theorem q_isi_list_tup {l : List D} : fIsi "list" (.tup l) = some (.bl false) := by unfold fIsi; rw [show kitB (tyN (.tup l)) "list" = some false by show kitB "tuple" "list" = _; decide +kernel]; rfl
theorem q_isi_str_non : fIsi "str" .non = some (.bl false) := by unfold fIsi; rw [show kitB (tyN .non) "str" = some false by show kitB "NoneType" "str" = _; decide +kernel]; rfl
theorem q_isi_str_bl {b : Bool} : fIsi "str" (.bl b) = some (.bl false) := by unfold fIsi; rw [show kitB (tyN (.bl b)) "str" = some false by show kitB "bool" "str" = _; decide +kernel]; rfl
theorem q_isi_str_int {i : Int} : fIsi "str" (.int i) = some (.bl false) := by unfold fIsi; rw [show kitB (tyN (.int i)) "str" = some false by show kitB "int" "str" = _; decide +kernel]; rfl
theorem q_isi_str_str {s : List Nat} : fIsi "str" (.str s) = some (.bl true) := by unfold fIsi; rw [show kitB (tyN (.str s)) "str" = some true by show kitB "str" "str" = _; decide +kernel]; rfl
theorem q_isi_str_lst {l : List D} : fIsi "str" (.lst l) = some (.bl false) := by unfold fIsi; rw [show kitB (tyN (.lst l)) "str" = some false by show kitB "list" "str" = _; decide +kernel]; rfl
theorem q_isi_str_tup {l : List D} : fIsi "str" (.tup l) = some (.bl false) := by unfold fIsi; rw [show kitB (tyN (.tup l)) "str" = some false by show kitB "tuple" "str" = _; decide +kernel]; rfl
theorem q_isi_int_non : fIsi "int" .non = some (.bl false) := by unfold fIsi; rw [show kitB (tyN .non) "int" = some false by show kitB "NoneType" "int" = _; decide +kernel]; rfl
theorem q_isi_int_bl {b : Bool} : fIsi "int" (.bl b) = some (.bl true) := by unfold fIsi; rw [show kitB (tyN (.bl b)) "int" = some true by show kitB "bool" "int" = _; decide +kernel]; rfl
theorem q_isi_int_int {i : Int} : fIsi "int" (.int i) = some (.bl true) := by unfold fIsi; rw [show kitB (tyN (.int i)) "int" = some true by show kitB "int" "int" = _; decide +kernel]; rfl
theorem q_isi_int_str {s : List Nat} : fIsi "int" (.str s) = some (.bl false) := by unfold fIsi; rw [show kitB (tyN (.str s)) "int" = some false by show kitB "str" "int" = _; decide +kernel]; rfl
theorem q_isi_int_lst {l : List D} : fIsi "int" (.lst l) = some (.bl false) := by unfold fIsi; rw [show kitB (tyN (.lst l)) "int" = some false by show kitB "list" "int" = _; decide +kernel]; rfl
theorem q_isi_int_tup {l : List D} : fIsi "int" (.tup l) = some (.bl false) := by unfold fIsi; rw [show kitB (tyN (.tup l)) "int" = some false by show kitB "tuple" "int" = _; decide +kernel]; rfl
theorem q_isi_bool_non : fIsi "bool" .non = some (.bl false) := by unfold fIsi; rw [show kitB (tyN .non) "bool" = some false by show kitB "NoneType" "bool" = _; decide +kernel]; rfl
theorem q_isi_bool_bl {b : Bool} : fIsi "bool" (.bl b) = some (.bl true) := by unfold fIsi; rw [show kitB (tyN (.bl b)) "bool" = some true by show kitB "bool" "bool" = _; decide +kernel]; rfl
theorem q_isi_bool_int {i : Int} : fIsi "bool" (.int i) = some (.bl false) := by unfold fIsi; rw [show kitB (tyN (.int i)) "bool" = some false by show kitB "int" "bool" = _; decide +kernel]; rfl
theorem q_isi_bool_str {s : List Nat} : fIsi "bool" (.str s) = some (.bl false) := by unfold fIsi; rw [show kitB (tyN (.str s)) "bool" = some false by show kitB "str" "bool" = _; decide +kernel]; rfl
theorem q_isi_bool_lst {l : List D} : fIsi "bool" (.lst l) = some (.bl false) := by unfold fIsi; rw [show kitB (tyN (.lst l)) "bool" = some false by show kitB "list" "bool" = _; decide +kernel]; rfl
theorem q_isi_bool_tup {l : List D} : fIsi "bool" (.tup l) = some (.bl false) := by unfold fIsi; rw [show kitB (tyN (.tup l)) "bool" = some false by show kitB "tuple" "bool" = _; decide +kernel]; rfl
end Sw
/-! Sw23: instances that do not change: made, their attributes read. -/
namespace Sw
open PySem PySem.Spec PyProof.Rows L2

/-! ### o.f -/
def fAt (c f : PySem.Str) : D → Option D
  | .obj c' ks xs => if c' = c then (ks.zip xs).lookup f else none
  | _ => none
theorem Reps.lookup {K : PySem.W.Frag} {F : Hp} {f : PySem.Str} : ∀ {ks : List PySem.Str} {vs : List V} {xs : List D} {d : D}, Reps K F vs xs → (ks.zip xs).lookup f = some d → ∃ v, (ks.zip vs).lookup f = some v ∧ Rep K F v d
  | [], _, _, _, _, h => by simp at h
  | k :: ks, _, _, _, .nil, h => by simp at h
  | k :: ks, _, _, d, .cons (v := v) (d := x) (vs := vs) (ds := xs) r t, h => by
    rw [List.zip_cons_cons, List.lookup_cons] at h ⊢
    cases e : f == k with
    | true => rw [e] at h; cases h; exact ⟨v, rfl, r⟩
    | false => rw [e] at h; exact Reps.lookup t h
section
variable {X : Cx} {e : Expr} {me : M Vl} {pos p : Pos} {es : List Expr} {ms : M (List Vl)}
theorem se_fld {c f : PySem.Str} {C : Addr} (hC : ClsN X.K c C) (cl : Cls X.K C) (na : NoAttr X.K C f) (he : SE X e me) (hb : attributeBase e f X.env (eval e X.env) = eval e X.env) : SE X (.Attribute e f pos) (eUn (fAt c f) me) := by
  refine pe_weak (pe_fld he hb) fun σ H Q ⟨G, ρ, F, r0, ρ', W, hm, q⟩ => ?_
  unfold eUn at hm
  obtain ⟨⟨x, ρ1⟩, e1, hm⟩ := Option.bind_eq_some_iff.mp hm
  obtain ⟨dx, e3, hm⟩ := Option.bind_eq_some_iff.mp hm
  obtain ⟨dz, e5, hm⟩ := Option.bind_eq_some_iff.mp hm
  cases hm
  refine tm_use W e1 fun v H1 F1 s1 R1 => ?_
  have hv := vw_of s1.wd R1 e3
  cases dx with
  | obj c' ks xs =>
    cases (show Rep X.K F1 v (.obj c' ks xs) from hv) with
    | obj h1 h2 h3 h4 =>
      have e6 : (if c' = c then (ks.zip xs).lookup f else none) = some dz := e5
      split at e6
      · rename_i ec
        subst ec
        obtain ⟨w, l1, l2⟩ := h4.lookup e6
        have := hC.uniq h1
        subst this
        exact ⟨_, _, _, _, w, rfl, s1.wd.sub _ _ h2, cl, na, l1, q _ H1 F1 s1 l2⟩
      · cases e6
  | _ => cases e5
end
/-! ### C(..) -/
def eMake (c : PySem.Str) (g : List D → Option (List PySem.Str × List D)) (ms : M (List Vl)) : M Vl := fun ρ => (ms ρ).bind fun p => (frzs p.2 p.1).bind fun q => (g q.1).bind fun z => some (.fz (.obj c z.1 z.2), q.2)
/-- the promise of an __init__ that stores the attributes ks with the values xs -/
def spI (K : PySem.W.Frag) (C : Addr) (n : Nat) (g : List D → Option (List PySem.Str × List D)) : Sp := fun vs H Q _ => vs.length = n + 1 ∧ ∃ (F : Hp) (x dx : Addr) (us : List V) (ds : List D) (ks : List PySem.Str) (xs : List D),
  vs = .ref x :: us ∧ Same F H ∧ F x = none ∧ H x = some (.ins C dx []) ∧ Reps K F us ds ∧ g ds = some (ks, xs) ∧ ∀ H' F' ws, Same F F' → Same F' H' → (∀ b o, H b = some o → b ≠ x → H' b = some o) → (∀ b, F' b ≠ none → F b ≠ none ∨ H b = none) →
    F' x = none → H' x = some (.ins C dx (ks.zip ws)) → ws.length = ks.length → Reps K F' ws xs → Q .non H'
section
variable {X : Cx} {e : Expr} {pos p : Pos} {es : List Expr} {ms : M (List Vl)} {c x : PySem.Str} {C fi : Addr} {fd : FuncData} {ps : List Str} {n k : Nat} {g : List D → Option (List PySem.Str × List D)}
theorem tmake_of {K : PySem.W.Frag} {E : XK} (hC : ClsN K c C) (hn : ∀ ds z, g ds = some z → ds.length = n) {σ : L2.St} {H : Hp} {Q : VK} (h : tM K (eMake c g ms) σ H Q) : tMake C (spI K C n g) [] E (tMA K ms) σ H Q := by
  obtain ⟨G, ρ, F, r0, ρ', W, hm, q⟩ := h
  unfold eMake at hm
  obtain ⟨⟨rs, ρ1⟩, e1, hm⟩ := Option.bind_eq_some_iff.mp hm
  obtain ⟨⟨ds, ρ2⟩, e2, hm⟩ := Option.bind_eq_some_iff.mp hm
  obtain ⟨⟨ks, xs⟩, e3, hm⟩ := Option.bind_eq_some_iff.mp hm
  cases hm
  refine ⟨G, ρ, F, rs, ρ1, W, e1, fun vs H1 F1 s1 R1 => ?_⟩
  obtain ⟨F2, s2, R2⟩ := frzs_ok s1.wd R1 e2
  intro y dy hy hdy hne
  rw [List.append_nil]
  have sub2 := s2.wd.sub
  have fy : F2 y = none := sub2.free hy
  have k1 : ∀ b o, H1 b = some o → upd (upd H1 dy (.own y)) y (.ins C dy []) b = some o := fun b o hb => by
    have n1 : b ≠ y := fun z => by rw [z, hy] at hb; cases hb
    have n2 : b ≠ dy := fun z => by rw [z, hdy] at hb; cases hb
    rw [upd_ne n1, upd_ne n2]; exact hb
  refine ⟨by rw [List.length_cons, R2.len, hn _ _ e3], F2, y, dy, vs, ds, ks, xs, rfl, fun b o hb => k1 b o (sub2 _ _ hb), fy, upd_same, R2, e3, fun H' F' ws ff sub kp nf fy' hx hl R => ⟨rfl, ?_⟩⟩
  have A : Alc F2 H1 (upd F' y (.ins C dy (ks.zip ws))) H' := by
    refine ⟨fun b o hb => ?_, fun b o hb => ?_, fun b o hb => ?_, fun b hb => ?_⟩
    · have : b ≠ y := fun z => by rw [z, fy] at hb; cases hb
      rw [upd_ne this]; exact ff _ _ hb
    · by_cases z : b = y
      · subst z; rw [upd_same] at hb; cases hb; exact hx
      · rw [upd_ne z] at hb; exact sub _ _ hb
    · exact kp b o (k1 b o hb) fun z => by rw [z, hy] at hb; cases hb
    · by_cases z : b = y
      · subst z; exact .inr hy
      · rw [upd_ne z] at hb
        rcases nf b hb with h | h
        · exact .inl h
        · cases e : H1 b with
          | none => exact .inr rfl
          | some o => rw [k1 b o e] at h; cases h
  have sF : Same F' (upd F' y (.ins C dy (ks.zip ws))) := same_upd fy'
  exact q _ H' _ ((s1.trans s2).trans (s2.wd.alc A)) (Rep.obj hC upd_same hl (R.mono sF))
theorem se_make (M : Mk X.K C fi) (hC : ClsN X.K c C) (F : FnOk X.prog X.w X.K X.mg X.base CX0 k fi fd ps (spI X.K C n g)) (hn : ∀ ds z, g ds = some z → ds.length = n) (hr : Room (k + 1) X.A) (hg : Gl X x) (hm : X.mg x = some (.ref C)) (hb : Binds X.K fd ps [])
    (ha : SA X (e :: es) ms) (hdb : (x == ("__debug__" : Str)) = false := by decide) (he : starEach (e :: es) X.env = (false, eval e X.env) :: starEach es X.env := by rfl) (hpl : (backTo pos (starEach es X.env)).any (·.1) = false := by rfl) :
    SE X (.Call (.Name x p) (e :: es) [] pos) (eMake c g ms) := pe_weak (pe_make M F hr hg hm hb .nil pass0 ha hdb he hpl) fun _ _ _ h => tmake_of hC hn h
end
/-! ### the body of an __init__ -/
abbrev SI0 := Rho × List PySem.Str × List D → Option (Rho × List PySem.Str × List D)
def iNx : SI0 := fun r => some r
def iSeq (a b : SI0) : SI0 := fun r => (a r).bind b
/-- self.f = e -/
def iFld (f : PySem.Str) (m : M Vl) : SI0 := fun r => (m r.1).bind fun p => (frz p.2 (stl p.1)).bind fun q => if r.2.1.contains f = false ∧ r.2.1.length < 100 then some (q.2, r.2.1 ++ [f], r.2.2 ++ [q.1]) else none
structure Mid (K : PySem.W.Frag) (G : Gd) (C y dy : Addr) (r : Rho × List PySem.Str × List D) (σ : L2.St) (H F : Hp) : Prop where
  wd : Wd K G r.1 σ H F
  s0 : σ[0]? = some (some (.ref y))
  h0 : G.H0 y = none
  fy : F y = none
  at_ : ∃ ws, H y = some (.ins C dy (r.2.1.zip ws)) ∧ ws.length = r.2.1.length ∧ Reps K F ws r.2.2
def tIn (K : PySem.W.Frag) (C : Addr) (m : SI0) : TS := fun D σ H => ∃ G y dy r F r', Mid K G C y dy r σ H F ∧ m r = some r' ∧ ∀ σ' H' F', Mid K G C y dy r' σ' H' F' → Same F F' → D.nx σ' H'
theorem putF_new {f : PySem.Str} {v : V} : ∀ {ks : List PySem.Str} {ws : List V}, ws.length = ks.length → ks.contains f = false → putF f v (ks.zip ws) = (ks ++ [f]).zip (ws ++ [v])
  | [], [], _, _ => rfl
  | k :: ks, [], h, _ => by simp at h
  | [], w :: ws, h, _ => by simp at h
  | k :: ks, w :: ws, h, n => by
    rw [List.contains_cons, Bool.or_eq_false_iff] at n
    have nk : k ≠ f := fun e => by have := n.1; rw [e, beq_self_eq_true] at this; cases this
    rw [List.zip_cons_cons, List.cons_append, List.cons_append, List.zip_cons_cons]
    show (if k = f then _ else _) = _
    rw [if_neg nk, putF_new (by simpa using h) n.2]
theorem Wd.updx {K : PySem.W.Frag} {G : Gd} {ρ : Rho} {σ : L2.St} {H F : Hp} {y C dy : Addr} {fs : List (Str × V)} {o : HO} (W : Wd K G ρ σ H F) (hy : H y = some (.ins C dy fs)) (fy : F y = none) (h0 : G.H0 y = none) : Wd K G ρ σ (upd H y o) F := by
  refine ⟨W.len, W.gl, fun b x e => ?_, W.f0, fun b x e h => ?_, W.nw, fun b h => ?_, fun i s h => ?_, W.ap, W.ai⟩
  · rw [upd_ne (fun z => by rw [z, fy] at e; cases e)]; exact W.sub _ _ e
  · rw [upd_ne (fun z => by rw [z, h0] at e; cases e)]; exact W.kp b x e h
  · by_cases z : b = y
    · subst z; rw [upd_same]; exact fun z => by cases z
    · rw [upd_ne z]; exact W.it b h
  · have q := W.sl i s h
    cases s with
    | no => trivial
    | xa b dx f => exact q
    | d x => exact q
    | ow xs => obtain ⟨a, vs, e, h1, h2⟩ := q; exact ⟨a, vs, e, by rw [upd_ne (fun z => by rw [z, hy] at h1; cases h1)]; exact h1, h2⟩
    | io xs => obtain ⟨a, vs, e, h1, h2⟩ := q; exact ⟨a, vs, e, by rw [upd_ne (fun z => by rw [z, hy] at h1; cases h1)]; exact h1, h2⟩
section
variable {X : Cx} {e o : Expr} {me : M Vl} {pos p pos' : Pos} {st : Stmt} {rest : List Stmt} {C : Addr} {m1 m2 : SI0} {f : PySem.Str}
theorem si0_nil : PSs X [] (tIn X.K C iNx) := pss_weak pss_nil fun D σ H ⟨G, y, dy, r, F, r', I, hm, q⟩ => by
  cases hm
  exact q σ H F I (Same.refl _)
theorem si0_one (h : PS X st (tIn X.K C m1)) : PSs X [st] (tIn X.K C m1) := pss_one h
theorem si0_cons (h1 : PS X st (tIn X.K C m1)) (h2 : PSs X rest (tIn X.K C m2)) : PSs X (st :: rest) (tIn X.K C (iSeq m1 m2)) := by
  refine pss_weak (pss_cons h1 h2) fun D σ H ⟨G, y, dy, r, F, r', I, hm, q⟩ => ?_
  unfold iSeq at hm
  obtain ⟨r1, e1, hm⟩ := Option.bind_eq_some_iff.mp hm
  exact ⟨G, y, dy, r, F, r1, I, e1, fun σ' H' F' I' ff => ⟨G, y, dy, r1, F', r', I', hm, fun σ2 H2 F2 I2 f2 => q σ2 H2 F2 I2 (ff.trans f2)⟩⟩
theorem si0_doc {x j pos pos'} : PS X (.Expr (.Constant (.str x) j pos) pos') (tIn X.K C iNx) := ps_weak ps_doc fun D σ H ⟨G, y, dy, r, F, r', I, hm, q⟩ => by
  cases hm
  exact q σ H F I (Same.refl _)
theorem si0_fld (cl : Cls X.K C) (na : NoAttr X.K C f) (ho : PE X o (tVar 0)) (he : SE X e me) (hs : swapsWith e (some (.Attribute o f pos')) pos.line X.env = pure false) : PS X (.Assign [.Attribute o f pos'] e pos) (tIn X.K C (iFld f me)) := by
  refine ps_weak (ps_fld ho he hs) fun D σ H ⟨G, y, dy, ⟨ρ, ks, xs⟩, F, r', I, hm, q⟩ => ?_
  unfold iFld at hm
  obtain ⟨⟨r, ρ1⟩, e1, hm⟩ := Option.bind_eq_some_iff.mp hm
  obtain ⟨⟨z, ρ2⟩, e2, hm⟩ := Option.bind_eq_some_iff.mp hm
  split at hm
  · rename_i hc
    cases hm
    refine tm_use I.wd e1 fun v H1 F1 s1 R1 => ?_
    obtain ⟨F2, s2, R2⟩ := frz_ok s1.wd R1 e2
    have s12 := s1.trans s2
    obtain ⟨ws, a1, a2, a3⟩ := I.at_
    have now : ∀ i, ¬ Ow ρ σ i y := fun i ow => by
      obtain ⟨us, z, _⟩ := I.wd.ow_there ow
      rw [a1] at z; cases z
    have hy := s12.kk y _ a1 now
    have fy2 : F2 y = none := by
      cases e : F2 y with
      | none => rfl
      | some o =>
        rcases s12.nf y (by rw [e]; simp) with h | h | ⟨i, h⟩
        · exact absurd I.fy h
        · rw [a1] at h; cases h
        · exact absurd h (now i)
    refine ⟨.ref y, I.s0, y, C, dy, _, rfl, hy, cl, na, ?_, ?_⟩
    · rw [List.length_zip]
      have := hc.2
      dsimp only at this
      omega
    · rw [putF_new a2 hc.1]
      refine q σ _ F2 ⟨s12.wd.updx hy fy2 I.h0, I.s0, I.h0, fy2, ⟨ws ++ [v], upd_same, by simp [a2], (a3.mono s12.ff).append (.cons R2 .nil)⟩⟩ s12.ff
  · cases hm
end
theorem fn_init {P : Program} {w : World} {K : PySem.W.Frag} {mg : Str → Option Value} {base : Heap} {x qual : Str} {st : Stmt} {f C : Addr} {fd : FuncData} {N ps : List Str} {k n nl : Nat} {m : SI0} (Fu : FunG K x qual st f fd) (Sc : FnScope N ps (defScope st)) (hn : ps.length = n + 1) (hl : N.length = nl) (hle : n + 1 ≤ nl)
    (hb : ∀ (cdv : Value) (A : Around) (outer : List Env) (s : Shared) (H : Hp) (E : XK), Room k (A.deeper (envOfC qual (defScope st) s.heap.objs.size f cdv)) → PSs (cxOf CX0 P w K mg base N qual (defScope st) f cdv A outer s H E).nox (defBody st) (tIn K C m)) :
    FnOk P w K mg base CX0 (k + 1) f fd ps (spI K C n fun ds => if ds.length = n then (m (.no :: (ds.map .d ++ List.replicate (nl - (n + 1)) .no), [], [])).bind fun r => some r.2 else none) := by
  refine Fu.ok Sc (fun vs H Q E h => by rw [h.1, hn]) (fun cdv A outer s H vs Q E hr h => ?_)
  obtain ⟨hv, F, y, dy, us, ds, ks, xs, rfl, sub, fy, hy, R, hg, q⟩ := h
  refine ⟨_, hb cdv A outer s H E hr, ?_⟩
  dsimp only at hg
  split at hg
  · rename_i hd
    obtain ⟨⟨ρ', ks', xs'⟩, e1, hg⟩ := Option.bind_eq_some_iff.mp hg
    cases hg
    have lu : us.length = n := by rw [R.len, hd]
    have get : ∀ (i : Nat) (s : Sl), (Sl.no :: (ds.map Sl.d ++ List.replicate (nl - (n + 1)) Sl.no))[i]? = some s → s = .no ∨ ∃ j d v, i = j + 1 ∧ ds[j]? = some d ∧ us[j]? = some v ∧ s = .d d ∧ Rep K F v d := fun i s h => by
      cases i with
      | zero => left; simpa using h.symm
      | succ j =>
        rw [List.getElem?_cons_succ] at h
        by_cases hj : j < n
        · rw [List.getElem?_append_left (by rw [List.length_map, hd]; exact hj), List.getElem?_map] at h
          cases e : ds[j]? with
          | none => rw [e] at h; cases h
          | some d =>
            rw [e] at h; cases h
            obtain ⟨v, e2, r⟩ := R.get' e
            exact .inr ⟨j, d, v, rfl, e, e2, rfl, r⟩
        · rw [List.getElem?_append_right (by rw [List.length_map, hd]; omega), List.getElem?_replicate] at h
          split at h
          · cases h; exact .inl rfl
          · cases h
    have no : ∀ i a, ¬ Ow (Sl.no :: (ds.map Sl.d ++ List.replicate (nl - (n + 1)) Sl.no)) (start N (.ref y :: us)) i a := fun i a o => by
      obtain ⟨⟨zs, o1 | o1⟩, _⟩ := o
      · rcases get i _ o1 with e | ⟨_, _, _, _, _, _, e, _⟩ <;> cases e
      · rcases get i _ o1 with e | ⟨_, _, _, _, _, _, e, _⟩ <;> cases e
    have lst : (start N (.ref y :: us)).length = nl := by
      unfold L2.start
      rw [List.length_append, List.length_map, List.length_replicate, List.length_cons, lu, hl]
      omega
    have W : Wd K ⟨fun b => if b = y then none else H b, F, [], nl⟩ (Sl.no :: (ds.map Sl.d ++ List.replicate (nl - (n + 1)) Sl.no)) (start N (.ref y :: us)) H F := by
      refine ⟨?_, lst, sub, Same.refl _, fun b o h _ => ?_, fun b h => .inl h, fun b h => absurd h List.not_mem_nil, fun i s h => ?_, fun i j a o1 o2 => absurd o1 (no i a), fun i a h => absurd h List.not_mem_nil⟩
      · rw [lst, List.length_cons, List.length_append, List.length_map, List.length_replicate, hd]; omega
      · dsimp only at h
        split at h
        · cases h
        · exact h
      · rcases get i s h with rfl | ⟨j, d, v, rfl, _, e2, rfl, r⟩
        · trivial
        · refine ⟨v, ?_, r⟩
          unfold L2.start
          rw [List.map_cons, List.cons_append, List.getElem?_cons_succ, List.getElem?_append_left (by rw [List.length_map]; exact (List.getElem?_eq_some_iff.mp e2).1), List.getElem?_map, e2]
          rfl
    refine ⟨_, y, dy, (_, [], []), F, _, ⟨W, rfl, by simp, fy, ⟨[], hy, rfl, .nil⟩⟩, e1, fun σ' H' F' I ff => ?_⟩
    obtain ⟨ws, a1, a2, a3⟩ := I.at_
    refine q H' F' ws ff I.wd.sub (fun b o h hb => I.wd.kp b o ?_ (fun z => absurd z List.not_mem_nil)) (fun b h => ?_) I.fy a1 a2 a3
    · dsimp only
      rw [if_neg hb]; exact h
    · rcases I.wd.nw b h with h1 | h1
      · exact .inl h1
      · dsimp only at h1
        split at h1
        · rename_i hb
          subst hb
          exact absurd I.fy h
        · exact .inr h1
  · cases hg
end Sw
/-! Sw24: zip of two lists or tuples, sorted of ints and of texts. -/
namespace Sw
open PySem PySem.Spec PyProof.Rows L2

def zipD (xs ys : List D) : List D := (xs.zip ys).map fun p => .tup [p.1, p.2]
theorem zipD_get {xs ys : List D} {i : Nat} {x y : D} (h1 : xs[i]? = some x) (h2 : ys[i]? = some y) : (zipD xs ys)[i]? = some (.tup [x, y]) := by
  unfold zipD
  rw [List.getElem?_map, (List.getElem?_zip_eq_some (z := (x, y))).mpr ⟨h1, h2⟩]
  rfl
theorem zipD_len {xs ys : List D} : (zipD xs ys).length = min xs.length ys.length := by unfold zipD; rw [List.length_map, List.length_zip]
def iZp (m : M (List Vl)) : M (List D) := fun ρ => (m ρ).bind fun p => (frzs p.2 p.1).bind fun q => match q.1 with
  | [.lst xs, .lst ys] => some (zipD xs ys, q.2)
  | [.tup xs, .tup ys] => some (zipD xs ys, q.2)
  | _ => none
theorem jr_zpT {K : PySem.W.Frag} {F : Hp} {a b : Addr} {vs us : List V} {xs ys : List D} (h : SqT K F a vs) (r : Reps K F vs xs) (h' : SqT K F b us) (r' : Reps K F us ys) : JR K (RZ.ItzT K a b) F (zipD xs ys) where
  go := fun i H s hi => by
    rw [zipD_len] at hi
    have l1 := r.len
    have l2 := r'.len
    exact ⟨vs, us, vs[i]'(by omega), us[i]'(by omega), same_t s h, same_t s h', List.getElem?_eq_getElem _, List.getElem?_eq_getElem _⟩
  yl := fun i H F1 x H' hi s1 s2 y => by
    obtain ⟨t, z, z', rfl, hn, rfl, y, y'⟩ := y
    obtain ⟨d, h1, h2⟩ := r.get (y vs (same_t s2 (same_t s1 h)))
    obtain ⟨d', h1', h2'⟩ := r'.get (y' us (same_t s2 (same_t s1 h')))
    have A := Alc.new (o := HO.tup [z, z']) s2 hn
    exact ⟨_, _, A, zipD_get h1 h1', .tup (SqT.of upd_same) (.cons (h2.mono (s1.trans A.ff)) (.cons (h2'.mono (s1.trans A.ff)) .nil))⟩
  st := fun i H s hi => by
    rw [zipD_len] at hi
    have l1 := r.len
    have l2 := r'.len
    exact ⟨vs, us, same_t s h, same_t s h', by omega⟩
theorem jr_zpL {K : PySem.W.Frag} {F : Hp} {a b : Addr} {vs us : List V} {xs ys : List D} (h : SqL K F a vs) (r : Reps K F vs xs) (h' : SqL K F b us) (r' : Reps K F us ys) : JR K (Itz K a b) F (zipD xs ys) where
  go := fun i H s hi => by
    rw [zipD_len] at hi
    have l1 := r.len
    have l2 := r'.len
    exact ⟨vs, us, vs[i]'(by omega), us[i]'(by omega), s.seq h, s.seq h', List.getElem?_eq_getElem _, List.getElem?_eq_getElem _⟩
  yl := fun i H F1 x H' hi s1 s2 y => by
    obtain ⟨t, z, z', rfl, hn, rfl, y, y'⟩ := y
    obtain ⟨d, h1, h2⟩ := r.get (y vs (s2.seq (s1.seq h)))
    obtain ⟨d', h1', h2'⟩ := r'.get (y' us (s2.seq (s1.seq h')))
    have A := Alc.new (o := HO.tup [z, z']) s2 hn
    exact ⟨_, _, A, zipD_get h1 h1', .tup (SqT.of upd_same) (.cons (h2.mono (s1.trans A.ff)) (.cons (h2'.mono (s1.trans A.ff)) .nil))⟩
  st := fun i H s hi => by
    rw [zipD_len] at hi
    have l1 := r.len
    have l2 := r'.len
    exact ⟨vs, us, s.seq h, s.seq h', by omega⟩
theorem reps2 {K : PySem.W.Frag} {F : Hp} {vs : List V} {x y : D} (h : Reps K F vs [x, y]) : ∃ v u, vs = [v, u] ∧ Rep K F v x ∧ Rep K F u y := by
  cases h with
  | cons r t => cases t with
    | cons r' t' => cases t'; exact ⟨_, _, rfl, r, r'⟩
theorem si_zip {X : Cx} {e e2 : Expr} {ms : M (List Vl)} {p pos tpos : Pos} {elts : List Expr} {kk : Nat} (hm : X.mg "zip" = none) (hg : Gl X "zip") (ha : SA X [e, e2] ms)
    (hs : starEach [e, e2] X.env = (false, eval e X.env) :: starEach [e2] X.env := by rfl) (hpl : (backTo pos (starEach [e2] X.env)).any (·.1) = false := by rfl) :
    SI X (.Tuple elts kk tpos) (.Call (.Name "zip" p) [e, e2] [] pos) (iZp ms) := by
  refine pi_weak (RZ.pi_zipA hg hm ha hs hpl) fun σ H R ⟨G, ρ, F, xs, ρ', W, hm, q⟩ => ?_
  unfold iZp at hm
  obtain ⟨⟨rs, ρ1⟩, e1, hm⟩ := Option.bind_eq_some_iff.mp hm
  obtain ⟨⟨ds, ρ2⟩, e2, hm⟩ := Option.bind_eq_some_iff.mp hm
  refine ⟨G, ρ, F, rs, ρ1, W, e1, fun vs H1 F1 s1 R1 => ?_⟩
  obtain ⟨F2, s2, R2⟩ := frzs_ok s1.wd R1 e2
  split at hm
  · rename_i zs ys hz
    dsimp only at hz
    subst hz
    cases hm
    obtain ⟨v, u, rfl, r1, r2⟩ := reps2 R2
    cases r1 with
    | lst h1 h2 => cases r2 with
      | lst h3 h4 => exact ⟨_, _, _, _, rfl, .inl ⟨SqL.of (s2.wd.sub _ _ h1), SqL.of (s2.wd.sub _ _ h3), q _ _ F2 (s1.trans s2) (jr_zpL (SqL.of h1) h2 (SqL.of h3) h4)⟩⟩
  · rename_i zs ys hz
    dsimp only at hz
    subst hz
    cases hm
    obtain ⟨v, u, rfl, r1, r2⟩ := reps2 R2
    cases r1 with
    | tup h1 h2 => cases r2 with
      | tup h3 h4 => exact ⟨_, _, _, _, rfl, .inr ⟨same_t s2.wd.sub h1, same_t s2.wd.sub h3, q _ _ F2 (s1.trans s2) (jr_zpT h1 h2 h3 h4)⟩⟩
  · cases hm
/-! ### sorted -/
theorem ltc_asymm : ∀ a b : List Nat, ltCps b a = false → ltCps a b = false → a = b
  | [], [], _, _ => rfl
  | [], _ :: _, _, h => by cases h
  | _ :: _, [], h, _ => by cases h
  | a :: r, b :: t, h, h' => by
    simp only [ltCps, Bool.or_eq_false_iff, decide_eq_false_iff_not, Bool.and_eq_false_iff, beq_eq_false_iff_ne] at h h'
    have e : a = b := by omega
    subst e
    rw [ltc_asymm r t (h.2.resolve_left (by simp)) (h'.2.resolve_left (by simp))]
theorem ltc_total : ∀ a b : List Nat, ltCps b a = true → ltCps a b = false
  | [], [], h => by cases h
  | [], _ :: _, h => by cases h
  | _ :: _, [], h => rfl
  | a :: r, b :: t, h => by
    simp only [ltCps, Bool.or_eq_true, decide_eq_true_eq, Bool.and_eq_true, beq_iff_eq] at h
    simp only [ltCps, Bool.or_eq_false_iff, decide_eq_false_iff_not, Bool.and_eq_false_iff, beq_eq_false_iff_ne]
    rcases h with h | ⟨h1, h2⟩
    · exact ⟨by omega, .inl (by omega)⟩
    · exact ⟨by omega, .inr (ltc_total r t h2)⟩
theorem ltc_trans : ∀ a b c : List Nat, ltCps b a = false → ltCps c b = false → ltCps c a = false
  | [], _, [], _, _ => rfl
  | [], _, _ :: _, _, _ => rfl
  | _ :: _, [], _, h, _ => by cases h
  | _ :: _, _ :: _, [], _, h => by cases h
  | a :: r, b :: t, c :: u, h, h' => by
    simp only [ltCps, Bool.or_eq_false_iff, decide_eq_false_iff_not, Bool.and_eq_false_iff, beq_eq_false_iff_ne] at h h' ⊢
    refine ⟨by omega, ?_⟩
    by_cases e : c = a
    · right
      have e1 : b = a := by omega
      have e2 : c = b := by omega
      exact ltc_trans r t u (h.2.resolve_left (fun z => z e1)) (h'.2.resolve_left (fun z => z e2))
    · exact .inl e
def leT (a b : List Nat) : Bool := !ltCps b a
def sortT (xs : List (List Nat)) : List (List Nat) := xs.mergeSort leT
theorem leT_trans (a b c : List Nat) (h : leT a b = true) (h' : leT b c = true) : leT a c = true := by
  unfold leT at *
  rw [Bool.not_eq_true'] at *
  exact ltc_trans a b c h h'
theorem leT_total (a b : List Nat) : (leT a b || leT b a) = true := by
  unfold leT
  cases h : ltCps b a with
  | false => rfl
  | true => rw [ltc_total a b h]; rfl
theorem sortT_perm (xs : List (List Nat)) : (sortT xs).Perm xs := List.mergeSort_perm _ _
theorem sortT_pair (xs : List (List Nat)) : (sortT xs).Pairwise fun a b => leT a b = true := List.pairwise_mergeSort leT_trans leT_total xs
theorem rising_pair : ∀ (p : Str) (l : List Str), risingS p l = true → (∀ x ∈ l, leT p.cps.toList x.cps.toList = true) ∧ (l.map fun s : Str => s.cps.toList).Pairwise fun a b => leT a b = true
  | p, [], _ => ⟨fun _ h => absurd h List.not_mem_nil, List.Pairwise.nil⟩
  | p, x :: r, h => by
    unfold risingS at h
    rw [Bool.and_eq_true, Bool.not_eq_true'] at h
    obtain ⟨h1, h2⟩ := rising_pair x r h.2
    have px : leT p.cps.toList x.cps.toList = true := by unfold leT; rw [h.1]; rfl
    refine ⟨fun y hy => ?_, ?_⟩
    · rcases List.mem_cons.mp hy with rfl | hy
      · exact px
      · exact leT_trans _ _ _ px (h1 y hy)
    · rw [List.map_cons, List.pairwise_cons]
      refine ⟨fun y hy => ?_, h2⟩
      obtain ⟨z, hz, rfl⟩ := List.mem_map.mp hy
      exact h1 z hz
theorem sorted_pair : ∀ (l : List Str), sortedS l = true → (l.map fun s : Str => s.cps.toList).Pairwise fun a b => leT a b = true
  | [], _ => List.Pairwise.nil
  | x :: r, h => by
    obtain ⟨h1, h2⟩ := rising_pair x r h
    rw [List.map_cons, List.pairwise_cons]
    refine ⟨fun y hy => ?_, h2⟩
    obtain ⟨z, hz, rfl⟩ := List.mem_map.mp hy
    exact h1 z hz
theorem sortT_uniq {xs ys : List (List Nat)} (hp : ys.Perm xs) (hs : ys.Pairwise fun a b => leT a b = true) : ys = sortT xs := by
  refine List.Perm.eq_of_pairwise (le := fun a b => leT a b = true) (fun a b _ _ h h' => ?_) hs (sortT_pair xs) (hp.trans (sortT_perm xs).symm)
  unfold leT at h h'
  rw [Bool.not_eq_true'] at h h'
  exact ltc_asymm a b h h'
def sortI (xs : List Int) : List Int := xs.mergeSort fun a b => decide (a ≤ b)
theorem sortI_perm (xs : List Int) : (sortI xs).Perm xs := List.mergeSort_perm _ _
theorem sortI_pair (xs : List Int) : (sortI xs).Pairwise fun a b => a ≤ b := by
  have := List.pairwise_mergeSort (le := fun a b : Int => decide (a ≤ b)) (fun a b c h h' => by simp only [decide_eq_true_eq] at *; omega) (fun a b => by simp only [Bool.or_eq_true, decide_eq_true_eq]; omega) xs
  exact this.imp fun h => of_decide_eq_true h
theorem sortI_uniq {xs ys : List Int} (hp : ys.Perm xs) (hs : ys.Pairwise fun a b => a ≤ b) : ys = sortI xs :=
  List.Perm.eq_of_pairwise (le := fun a b : Int => a ≤ b) (fun a b _ _ h h' => by omega) hs (sortI_pair xs) (hp.trans (sortI_perm xs).symm)
def sortD (xs : List D) : Option (List D) := match intsD xs with
  | some ns => some ((sortI ns).map .int)
  | none => (strsOf xs).bind fun ts => if ts.length < 64 then some ((sortT ts).map .str) else none
def eSorted (ms : M (List Vl)) : M Vl := fun ρ => (ms ρ).bind fun p => match p.1 with
  | [r] => (look p.2 r).bind fun x => match x with
    | .lst xs => (sortD xs).bind fun ys => some (.fr ys, p.2)
    | _ => none
  | _ => none
section
variable {X : Cx} {e : Expr} {ms : M (List Vl)} {p pos : Pos}
theorem reps_ints {K : PySem.W.Frag} {F : Hp} : ∀ ns : List Int, Reps K F (ns.map V.int) (ns.map D.int)
  | [] => .nil
  | n :: ns => .cons (.int n) (reps_ints ns)
theorem reps_strs {K : PySem.W.Frag} {F : Hp} : ∀ ss : List Str, Reps K F (ss.map V.str) ((ss.map fun s : Str => s.cps.toList).map D.str)
  | [] => .nil
  | s :: ss => .cons (rep_str s) (reps_strs ss)
theorem new_fr {G : Gd} {K : PySem.W.Frag} {ρ ρ1 : Rho} {σ : L2.St} {H H1 F F1 : Hp} {vs : List V} {xs : List D} {Q : VK} {q : Addr} (s1 : Ste K G ρ σ H F ρ1 H1 F1) (R : Reps K F1 vs xs) (hq : H1 q = none) (Qk : ∀ v H' F', Ste K G ρ σ H F ρ1 H' F' → VlR K G H ρ1 σ H' F' v (.fr xs) → Q v H') : Q (.ref q) (upd H1 q (.lst vs)) := by
  have f1 : F1 q = none := s1.wd.sub.free hq
  have A : Alc F1 H1 F1 (upd H1 q (.lst vs)) := ⟨Same.refl _, fun b o e => by rw [upd_ne (ne_of_none (s1.wd.sub _ _ e) hq)]; exact s1.wd.sub _ _ e, same_upd hq, fun _ h => .inl h⟩
  refine Qk _ _ F1 (s1.trans (s1.wd.alc A)) ⟨q, vs, rfl, upd_same, R, f1, ?_, fun i o => ?_⟩
  · cases e : H q with
    | none => rfl
    | some o => exact absurd hq (s1.tr q (by rw [e]; simp))
  · obtain ⟨us, z, _⟩ := s1.wd.ow_there o
    rw [hq] at z; cases z
theorem pe_alt {t t' : TE} (h : PE X e t) (h' : PE X e t') : PE X e (fun σ H Q => t σ H Q ∨ t' σ H Q) := ⟨fun pins s σ H Q I q => q.elim (h.run pins s σ H Q I) (h'.run pins s σ H Q I)⟩
theorem se_sorted (hm : X.mg "sorted" = none) (hg : Gl X "sorted") (ha : SA X [e] ms) (he : starEach [e] X.env = (false, eval e X.env) :: starEach [] X.env := by rfl) (hpl : (backTo pos (starEach [] X.env)).any (·.1) = false := by rfl) :
    SE X (.Call (.Name "sorted" p) [e] [] pos) (eSorted ms) := by
  refine pe_weak (pe_alt (pe_callB cr_sortedI hg hm (by decide +kernel) ha (by decide) (by decide) he hpl) (pe_callB cr_sortedS hg hm (by decide +kernel) ha (by decide) (by decide) he hpl)) fun σ H Q ⟨G, ρ, F, r0, ρ', W, hm, q⟩ => ?_
  unfold eSorted at hm
  obtain ⟨⟨rs, ρ1⟩, e1, hm⟩ := Option.bind_eq_some_iff.mp hm
  split at hm
  · rename_i r hr
    dsimp only at hr
    subst hr
    obtain ⟨x, e2, hm⟩ := Option.bind_eq_some_iff.mp hm
    split at hm
    · rename_i xs
      obtain ⟨ys, e3, hm⟩ := Option.bind_eq_some_iff.mp hm
      cases hm
      unfold sortD at e3
      split at e3
      · rename_i ns hn
        cases e3
        refine .inl ⟨G, ρ, F, [r], ρ1, W, e1, fun vs H1 F1 s1 R1 => ?_⟩
        obtain ⟨v, rfl, Rv⟩ : ∃ v, vs = [v] ∧ VlS X.K σ F1 v r := by
          match vs, R1 with
          | [v], z => exact ⟨v, rfl, z.1⟩
        obtain ⟨a, us, rfl, h1, h2⟩ := vw_of s1.wd Rv e2
        have hu := intsD_ok h2 hn
        subst hu
        refine ⟨a, ns, rfl, SqL.of h1, fun ns' p hp hs hq => ?_⟩
        rw [sortI_uniq hp hs]
        exact new_fr s1 (reps_ints _) hq q
      · obtain ⟨ts, hn, e3⟩ := Option.bind_eq_some_iff.mp e3
        split at e3
        · rename_i hl
          cases e3
          refine .inr ⟨G, ρ, F, [r], ρ1, W, e1, fun vs H1 F1 s1 R1 => ?_⟩
          obtain ⟨v, rfl, Rv⟩ : ∃ v, vs = [v] ∧ VlS X.K σ F1 v r := by
            match vs, R1 with
            | [v], z => exact ⟨v, rfl, z.1⟩
          obtain ⟨a, us, rfl, h1, h2⟩ := vw_of s1.wd Rv e2
          have hu := strsOf_ok h2 hn
          subst hu
          refine ⟨a, _, rfl, SqL.of h1, by rw [List.length_map]; exact hl, fun ss p hp hs hq => ?_⟩
          have e4 : (ss.map fun s : Str => s.cps.toList) = sortT ts := by
            refine sortT_uniq ?_ (sorted_pair ss hs)
            have := hp.map fun s : Str => s.cps.toList
            rw [List.map_map] at this
            have id' : ((fun s : Str => s.cps.toList) ∘ fun y : List Nat => (⟨y.toArray⟩ : Str)) = id := by funext y; simp
            rw [id', List.map_id] at this
            exact this
          rw [← e4] at q
          exact new_fr s1 (reps_strs ss) hq q
        · cases e3
    · cases hm
  · cases hm
end
end Sw
/-! Sw25: further steps: methods that change a list, list.index, lists of texts, zip, sorted, instances; the three letters. -/
namespace Sw
open L2
--HDR
local macro_rules | `(tactic| walk_at "fn") => `(tactic| (fail))
local macro_rules | `(tactic| walk_at "s1") => `(tactic| (first | ((with_reducible refine gEv ?_); (first | ((with_reducible refine' ev_tAnd_d ?s0 ?s1 ?_); (case s0 => (intro Q q; walk_at "g"; (first | exact q | exact toD_n q | exact toD_t q | exact toD_f q | exact toD_b q))); (case s1 => (intro hp Q q; walk_at "g"; (first | exact q | exact toD_n q | exact toD_t q | exact toD_f q | exact toD_b q)))) | ((with_reducible refine' ev_tOr_d ?s0 ?s1 ?_); (case s0 => (intro Q q; walk_at "g"; (first | exact q | exact toD_n q | exact toD_t q | exact toD_f q | exact toD_b q))); (case s1 => (intro hp Q q; walk_at "g"; (first | exact q | exact toD_n q | exact toD_t q | exact toD_f q | exact toD_b q)))) | with_reducible refine ev_c ?_ | ((with_reducible refine' ev_vd ?s0 ?_); (case s0 => (rfl))) | ((with_reducible refine' ev_vo ?s0 ?_); (case s0 => (rfl))) | ((with_reducible refine' ev_vi ?s0 ?_); (case s0 => (rfl))) | with_reducible refine ev_bin ?_ | with_reducible refine ev_add ?_ | with_reducible refine ev_un ?_ | with_reducible refine ev_anil ?_ | with_reducible refine ev_acons ?_ | with_reducible refine ev_blt ?_ | with_reducible refine ev_met ?_ | with_reducible refine ev_ono ?_ | with_reducible refine ev_osome ?_ | with_reducible refine ev_sl ?_ | with_reducible refine ev_tup ?_ | with_reducible refine ev_lst ?_ | with_reducible refine ev_tE ?_ | with_reducible refine ev_tyes ?_ | with_reducible refine ev_tAnd ?_ | with_reducible refine ev_tOr ?_ | with_reducible refine ev_tNot ?_ | with_reducible refine ev_eAnd ?_ | with_reducible refine ev_eOr ?_ | with_reducible refine ev_eNot ?_ | with_reducible refine ev_eIf ?_ | with_reducible refine ev_chain ?_ | with_reducible refine ev_call ?_)) | ((with_reducible refine gGiv ?_); (first | ((with_reducible refine' giv_mod ?s0 ?_); (case s0 => (first | assumption | decide | omega | (show _ ≤ 16777216; omega) | (show _ < 16777216; omega) | (simp only [List.length_append, List.length_cons, List.length_nil, List.length_replicate, List.length_map, List.length_take, List.length_drop, List.length_dropLast]; first | omega | (show _ ≤ 16777216; omega))))) | ((with_reducible refine' giv_div ?s0 ?_); (case s0 => (first | assumption | decide | omega | (show _ ≤ 16777216; omega) | (show _ < 16777216; omega) | (simp only [List.length_append, List.length_cons, List.length_nil, List.length_replicate, List.length_map, List.length_take, List.length_drop, List.length_dropLast]; first | omega | (show _ ≤ 16777216; omega))))) | ((with_reducible refine' giv_mul ?s0 ?_); (case s0 => (first | assumption | exact cMul_r (by decide) | exact cMul_r (by omega)))) | ((with_reducible refine' giv_muls ?s0 ?_); (case s0 => (first | assumption | decide | omega | (show _ ≤ 16777216; omega) | (show _ < 16777216; omega) | (simp only [List.length_append, List.length_cons, List.length_nil, List.length_replicate, List.length_map, List.length_take, List.length_drop, List.length_dropLast]; first | omega | (show _ ≤ 16777216; omega))))) | ((with_reducible refine' giv_adds ?s0 ?_); (case s0 => (first | assumption | decide | omega | (show _ ≤ 16777216; omega) | (show _ < 16777216; omega) | (simp only [List.length_append, List.length_cons, List.length_nil, List.length_replicate, List.length_map, List.length_take, List.length_drop, List.length_dropLast]; first | omega | (show _ ≤ 16777216; omega))))) | ((with_reducible refine' giv_addl ?s0 ?_); (case s0 => (first | assumption | decide | omega | (show _ ≤ 16777216; omega) | (show _ < 16777216; omega) | (simp only [List.length_append, List.length_cons, List.length_nil, List.length_replicate, List.length_map, List.length_take, List.length_drop, List.length_dropLast]; first | omega | (show _ ≤ 16777216; omega))))) | ((with_reducible refine' giv_ixl ?s0 ?_); (case s0 => (first | assumption | rfl | exact atI_zero))) | ((with_reducible refine' giv_ixt ?s0 ?_); (case s0 => (first | assumption | rfl | exact atI_zero))) | ((with_reducible refine' giv_ixs ?s0 ?s1 ?_); (case s0 => (first | assumption | decide | omega | (show _ ≤ 16777216; omega) | (show _ < 16777216; omega) | (simp only [List.length_append, List.length_cons, List.length_nil, List.length_replicate, List.length_map, List.length_take, List.length_drop, List.length_dropLast]; first | omega | (show _ ≤ 16777216; omega)))); (case s1 => (first | assumption | rfl))) | ((with_reducible refine' giv_dr4 ?s0 ?_); (case s0 => (assumption))) | ((with_reducible refine' giv_slm1 ?s0 ?_); (case s0 => (first | assumption | decide | omega | (show _ ≤ 16777216; omega) | (show _ < 16777216; omega) | (simp only [List.length_append, List.length_cons, List.length_nil, List.length_replicate, List.length_map, List.length_take, List.length_drop, List.length_dropLast]; first | omega | (show _ ≤ 16777216; omega))))) | ((with_reducible refine' giv_slt ?s0 ?s1 ?_); (case s0 => (first | assumption | decide | omega | (show _ ≤ 16777216; omega) | (show _ < 16777216; omega) | (simp only [List.length_append, List.length_cons, List.length_nil, List.length_replicate, List.length_map, List.length_take, List.length_drop, List.length_dropLast]; first | omega | (show _ ≤ 16777216; omega)))); (case s1 => (first | assumption | decide | omega))) | ((with_reducible refine' giv_sld ?s0 ?s1 ?_); (case s0 => (first | assumption | decide | omega | (show _ ≤ 16777216; omega) | (show _ < 16777216; omega) | (simp only [List.length_append, List.length_cons, List.length_nil, List.length_replicate, List.length_map, List.length_take, List.length_drop, List.length_dropLast]; first | omega | (show _ ≤ 16777216; omega)))); (case s1 => (first | assumption | decide | omega))) | ((with_reducible refine' giv_slm ?s0 ?s1 ?s2 ?_); (case s0 => (first | assumption | decide | omega | (show _ ≤ 16777216; omega) | (show _ < 16777216; omega) | (simp only [List.length_append, List.length_cons, List.length_nil, List.length_replicate, List.length_map, List.length_take, List.length_drop, List.length_dropLast]; first | omega | (show _ ≤ 16777216; omega)))); (case s1 => (first | assumption | decide | omega)); (case s2 => (first | assumption | decide | omega))) | ((with_reducible refine' giv_sltl ?s0 ?_); (case s0 => (first | assumption | decide | omega))) | ((with_reducible refine' giv_sldl ?s0 ?_); (case s0 => (first | assumption | decide | omega))) | ((with_reducible refine' giv_sls ?s0 ?_); (case s0 => (first | assumption | decide | omega | (show _ ≤ 16777216; omega) | (show _ < 16777216; omega) | (simp only [List.length_append, List.length_cons, List.length_nil, List.length_replicate, List.length_map, List.length_take, List.length_drop, List.length_dropLast]; first | omega | (show _ ≤ 16777216; omega))))) | with_reducible refine giv_sll ?_ | ((with_reducible refine' giv_lens ?s0 ?_); (case s0 => (first | assumption | decide | omega | (show _ ≤ 16777216; omega) | (show _ < 16777216; omega) | (simp only [List.length_append, List.length_cons, List.length_nil, List.length_replicate, List.length_map, List.length_take, List.length_drop, List.length_dropLast]; first | omega | (show _ ≤ 16777216; omega))))) | ((with_reducible refine' giv_revs ?s0 ?_); (case s0 => (first | assumption | decide | omega | (show _ ≤ 16777216; omega) | (show _ < 16777216; omega) | (simp only [List.length_append, List.length_cons, List.length_nil, List.length_replicate, List.length_map, List.length_take, List.length_drop, List.length_dropLast]; first | omega | (show _ ≤ 16777216; omega))))) | ((with_reducible refine' giv_sldT ?s0 ?s1 ?_); (case s0 => (first | assumption | decide | omega)); (case s1 => (first | assumption | decide | omega))) | ((with_reducible refine' giv_sltT ?s0 ?s1 ?_); (case s0 => (first | assumption | decide | omega)); (case s1 => (first | assumption | decide | omega))) | with_reducible refine giv_A ?_ | with_reducible refine giv_tup ?_ | with_reducible refine giv_tupt ?_ | ((with_reducible refine' giv_str ?s0 ?_); (case s0 => (first | assumption | decide | omega))) | with_reducible refine giv_strN ?_ | with_reducible refine giv_strS ?_ | ((with_reducible refine' giv_at ?s0 ?_); (case s0 => (rfl))) | with_reducible refine giv r_add1 ?_ | with_reducible refine giv r_sub ?_ | with_reducible refine giv r_lt ?_ | with_reducible refine giv r_lts ?_ | with_reducible refine giv r_le ?_ | with_reducible refine giv r_gt ?_ | with_reducible refine giv r_ge ?_ | with_reducible refine giv r_eqi ?_ | with_reducible refine giv r_eqs ?_ | with_reducible refine giv r_eqb ?_ | with_reducible refine giv r_nei ?_ | with_reducible refine giv r_nes ?_ | with_reducible refine giv r_neb ?_ | with_reducible refine giv r_isb ?_ | with_reducible refine giv r_ntb ?_ | with_reducible refine giv r_ins ?_ | with_reducible refine giv r_nis ?_ | with_reducible refine giv r_neg ?_ | with_reducible refine giv r_len2 ?_ | with_reducible refine giv r_len3 ?_ | with_reducible refine giv r_int1 ?_ | with_reducible refine giv r_fFind ?_ | with_reducible refine giv r_rev1 ?_ | with_reducible refine giv r_fIsi1 ?_ | with_reducible refine giv r_fIsi2 ?_ | with_reducible refine giv r_fIsi3 ?_ | with_reducible refine giv r_fIsi4 ?_ | with_reducible refine giv r_fIsi5 ?_ | with_reducible refine giv r_fIsi6 ?_ | with_reducible refine giv r_min2 ?_ | with_reducible refine giv r_max2 ?_ | with_reducible refine giv r_min3 ?_ | with_reducible refine giv r_isn1 ?_ | with_reducible refine giv r_isn2 ?_ | with_reducible refine giv r_isn3 ?_ | with_reducible refine giv r_isn4 ?_ | with_reducible refine giv r_isn5 ?_ | with_reducible refine giv r_ntn1 ?_ | with_reducible refine giv r_ntn2 ?_ | with_reducible refine giv r_ntn3 ?_ | with_reducible refine giv r_ntn4 ?_ | with_reducible refine giv r_ntn5 ?_ | with_reducible refine giv r_eqn1 ?_ | with_reducible refine giv r_eqn2 ?_ | with_reducible refine giv q_isi_tuple_non ?_ | with_reducible refine giv q_isi_tuple_bl ?_ | with_reducible refine giv q_isi_tuple_int ?_ | with_reducible refine giv q_isi_tuple_str ?_ | with_reducible refine giv q_isi_tuple_lst ?_ | with_reducible refine giv q_isi_tuple_tup ?_ | with_reducible refine giv q_isi_list_non ?_ | with_reducible refine giv q_isi_list_bl ?_ | with_reducible refine giv q_isi_list_int ?_ | with_reducible refine giv q_isi_list_str ?_ | with_reducible refine giv q_isi_list_lst ?_ | with_reducible refine giv q_isi_list_tup ?_ | with_reducible refine giv q_isi_str_non ?_ | with_reducible refine giv q_isi_str_bl ?_ | with_reducible refine giv q_isi_str_int ?_ | with_reducible refine giv q_isi_str_str ?_ | with_reducible refine giv q_isi_str_lst ?_ | with_reducible refine giv q_isi_str_tup ?_ | with_reducible refine giv q_isi_int_non ?_ | with_reducible refine giv q_isi_int_bl ?_ | with_reducible refine giv q_isi_int_int ?_ | with_reducible refine giv q_isi_int_str ?_ | with_reducible refine giv q_isi_int_lst ?_ | with_reducible refine giv q_isi_int_tup ?_ | with_reducible refine giv q_isi_bool_non ?_ | with_reducible refine giv q_isi_bool_bl ?_ | with_reducible refine giv q_isi_bool_int ?_ | with_reducible refine giv q_isi_bool_str ?_ | with_reducible refine giv q_isi_bool_lst ?_ | with_reducible refine giv q_isi_bool_tup ?_ | ((with_reducible refine' giv ?s0 ?_); (case s0 => (first | exact (rfl : _ = some (D.bl true)) | exact (rfl : _ = some (D.bl false))))) | ((with_reducible refine' giv_ixs_all ?s0 ?s1 ?s2 ?_); (case s0 => (first | assumption | decide | omega | (show _ ≤ 16777216; omega) | (show _ < 16777216; omega) | (simp only [List.length_append, List.length_cons, List.length_nil, List.length_replicate, List.length_map, List.length_take, List.length_drop, List.length_dropLast]; first | omega | (show _ ≤ 16777216; omega)))); (case s1 => (first | assumption | decide | omega)); (case s2 => (first | assumption | (refine Int.lt_of_lt_of_le (by assumption) ?_; decide) | (show _ < (_ : Int); omega) | (simp only [List.length_append, List.length_cons, List.length_nil]; omega))); intro _ _))) | ((with_reducible refine gBrn ?_); (first | with_reducible refine brn_t ?_ | with_reducible refine brn_f ?_ | with_reducible refine brn_nT ?_ | with_reducible refine brn_nF ?_ | with_reducible refine brn_nn ?_ | ((with_reducible refine' brn_dt ?s0 ?_); (case s0 => decide)) | ((with_reducible refine' brn_df ?s0 ?_); (case s0 => decide)) | ((with_reducible refine' brn_nt ?s0 ?_); (case s0 => decide)) | ((with_reducible refine' brn_nf ?s0 ?_); (case s0 => decide)))) | ((with_reducible refine gFv ?_); (first | ((with_reducible refine' fv_nextE ?s0 ?s1 ?_); (case s0 => assumption); (case s1 => (first | assumption | decide | omega)); intro _ _ _ _ _; (try dsimp only [puts, put, agI, outsOf, slOf, List.set_cons_zero, List.set_cons_succ, List.getElem?_cons_zero, List.getElem?_cons_succ, wipeR, backR, Option.getD_some, stl])) | ((with_reducible refine' fv_drawE ?s0 ?_); (case s0 => assumption); intro _ _) | with_reducible refine fv_signs ?_ | (walk_at "fn"))) | with_reducible refine ret_z ?_ | with_reducible refine ret_r ?_ | ((with_reducible refine' ret_b ?s0 ?_); (case s0 => (rfl))) | ((with_reducible refine' see2 ?s0 ?s1 ?_); (case s0 => (rfl)); (case s1 => (rfl))) | ((with_reducible refine' see1 ?s0 ?_); (case s0 => (rfl))) | ((with_reducible refine' sees ?s0 ?_); (case s0 => (rfl))) | with_reducible refine isI ?_ | with_reducible refine isB ?_ | with_reducible refine isBD ?_ | ((with_reducible refine' frzs' ?s0 (And.intro ?s1 ?_)); (case s0 => rfl); (case s1 => (first | decide | simp)); (try dsimp only [puts, put, agI, outsOf, slOf, List.set_cons_zero, List.set_cons_succ, List.getElem?_cons_zero, List.getElem?_cons_succ, wipeR, backR, Option.getD_some, stl])) | ((with_reducible refine' arg ?s0 ?s1 ?s2 ?_); (case s0 => (rfl)); (case s1 => (rfl)); (case s2 => (first | exact List.nodup_nil | exact nodup1 | simp [agI])); (try dsimp only [puts, put, agI, outsOf, slOf, List.set_cons_zero, List.set_cons_succ, List.getElem?_cons_zero, List.getElem?_cons_succ, wipeR, backR, Option.getD_some, stl])) | ((with_reducible refine' ex_asg ?s0 ?_); (case s0 => (first | rfl | assumption)); (try dsimp only [puts, put, agI, outsOf, slOf, List.set_cons_zero, List.set_cons_succ, List.getElem?_cons_zero, List.getElem?_cons_succ, wipeR, backR, Option.getD_some, stl])) | ((with_reducible refine' ex_asg' ?s0 ?_); (case s0 => (first | rfl | assumption)); (try dsimp only [puts, put, agI, outsOf, slOf, List.set_cons_zero, List.set_cons_succ, List.getElem?_cons_zero, List.getElem?_cons_succ, wipeR, backR, Option.getD_some, stl])) | ((with_reducible refine' ex_asg'' ?s0 ?_); (case s0 => (rfl)); (try dsimp only [puts, put, agI, outsOf, slOf, List.set_cons_zero, List.set_cons_succ, List.getElem?_cons_zero, List.getElem?_cons_succ, wipeR, backR, Option.getD_some, stl])) | ((with_reducible refine' ex_asgT ?s0 ?_); (case s0 => (rfl)); (try dsimp only [puts, put, agI, outsOf, slOf, List.set_cons_zero, List.set_cons_succ, List.getElem?_cons_zero, List.getElem?_cons_succ, wipeR, backR, Option.getD_some, stl])) | ((with_reducible refine' nbw_z ?_); (try dsimp only [puts, put, agI, outsOf, slOf, List.set_cons_zero, List.set_cons_succ, List.getElem?_cons_zero, List.getElem?_cons_succ, wipeR, backR, Option.getD_some, stl])) | ((with_reducible refine' nbw_r ?_); (try dsimp only [puts, put, agI, outsOf, slOf, List.set_cons_zero, List.set_cons_succ, List.getElem?_cons_zero, List.getElem?_cons_succ, wipeR, backR, Option.getD_some, stl])) | with_reducible refine add2_i ?_ | ((with_reducible refine' add2_s ?s0 ?_); (case s0 => (first | assumption | decide | omega | (show _ ≤ 16777216; omega) | (show _ < 16777216; omega) | (simp only [List.length_append, List.length_cons, List.length_nil, List.length_replicate, List.length_map, List.length_take, List.length_drop, List.length_dropLast]; first | omega | (show _ ≤ 16777216; omega))))) | ((with_reducible refine' add2_l ?s0 ?_); (case s0 => (first | assumption | decide | omega | (show _ ≤ 16777216; omega) | (show _ < 16777216; omega) | (simp only [List.length_append, List.length_cons, List.length_nil, List.length_replicate, List.length_map, List.length_take, List.length_drop, List.length_dropLast]; first | omega | (show _ ≤ 16777216; omega))))) | ((with_reducible refine' add2_t ?s0 ?_); (case s0 => (first | assumption | decide | omega | (show _ ≤ 16777216; omega) | (show _ < 16777216; omega) | (simp only [List.length_append, List.length_cons, List.length_nil, List.length_replicate, List.length_map, List.length_take, List.length_drop, List.length_dropLast]; first | omega | (show _ ≤ 16777216; omega))))) | ((with_reducible refine' own_at ?s0 (And.intro ?s1 ?_)); (case s0 => rfl); (case s1 => exact ⟨_, by assumption⟩); intro _ _; (try dsimp only [puts, put, agI, outsOf, slOf, List.set_cons_zero, List.set_cons_succ, List.getElem?_cons_zero, List.getElem?_cons_succ, wipeR, backR, Option.getD_some, stl])) | ((with_reducible refine gSv ?_); (first | with_reducible refine sv_asg_s ?_ | with_reducible refine sv_nx_s ?_ | with_reducible refine sv_if_s ?_ | with_reducible refine sv_ret_s ?_ | with_reducible refine sv_seq_s ?_ | with_reducible refine sv_drop_s ?_ | ((with_reducible refine' sv_app_s ?s0 ?_); (case s0 => (rfl))) | ((with_reducible refine' sv_app_l ?s0 ?_); (case s0 => (rfl))) | with_reducible refine sv_asg_l ?_ | with_reducible refine sv_if_l ?_ | with_reducible refine sv_ret_l ?_ | with_reducible refine sv_nx ?_ | with_reducible refine sv_asgT_s ?_ | with_reducible refine sv_asgT_l ?_ | with_reducible refine sv_set4_s ?_))))
local macro_rules | `(tactic| walk_at "s2") => `(tactic| (first | ((with_reducible refine gEv ?_); (first | ((with_reducible refine' ev_tAnd_d ?s0 ?s1 ?_); (case s0 => (intro Q q; walk_at "g"; (first | exact q | exact toD_n q | exact toD_t q | exact toD_f q | exact toD_b q))); (case s1 => (intro hp Q q; walk_at "g"; (first | exact q | exact toD_n q | exact toD_t q | exact toD_f q | exact toD_b q)))) | ((with_reducible refine' ev_tOr_d ?s0 ?s1 ?_); (case s0 => (intro Q q; walk_at "g"; (first | exact q | exact toD_n q | exact toD_t q | exact toD_f q | exact toD_b q))); (case s1 => (intro hp Q q; walk_at "g"; (first | exact q | exact toD_n q | exact toD_t q | exact toD_f q | exact toD_b q)))) | with_reducible refine ev_c ?_ | ((with_reducible refine' ev_vd ?s0 ?_); (case s0 => (rfl))) | ((with_reducible refine' ev_vo ?s0 ?_); (case s0 => (rfl))) | ((with_reducible refine' ev_vi ?s0 ?_); (case s0 => (rfl))) | with_reducible refine ev_bin ?_ | with_reducible refine ev_add ?_ | with_reducible refine ev_un ?_ | with_reducible refine ev_anil ?_ | with_reducible refine ev_acons ?_ | with_reducible refine ev_blt ?_ | with_reducible refine ev_met ?_ | with_reducible refine ev_ono ?_ | with_reducible refine ev_osome ?_ | with_reducible refine ev_sl ?_ | with_reducible refine ev_tup ?_ | with_reducible refine ev_lst ?_ | with_reducible refine ev_tE ?_ | with_reducible refine ev_tyes ?_ | with_reducible refine ev_tAnd ?_ | with_reducible refine ev_tOr ?_ | with_reducible refine ev_tNot ?_ | with_reducible refine ev_eAnd ?_ | with_reducible refine ev_eOr ?_ | with_reducible refine ev_eNot ?_ | with_reducible refine ev_eIf ?_ | with_reducible refine ev_chain ?_ | with_reducible refine ev_call ?_)) | ((with_reducible refine gGiv ?_); (first | ((with_reducible refine' giv_mod ?s0 ?_); (case s0 => (first | assumption | decide | omega | (show _ ≤ 16777216; omega) | (show _ < 16777216; omega) | (simp only [List.length_append, List.length_cons, List.length_nil, List.length_replicate, List.length_map, List.length_take, List.length_drop, List.length_dropLast]; first | omega | (show _ ≤ 16777216; omega))))) | ((with_reducible refine' giv_div ?s0 ?_); (case s0 => (first | assumption | decide | omega | (show _ ≤ 16777216; omega) | (show _ < 16777216; omega) | (simp only [List.length_append, List.length_cons, List.length_nil, List.length_replicate, List.length_map, List.length_take, List.length_drop, List.length_dropLast]; first | omega | (show _ ≤ 16777216; omega))))) | ((with_reducible refine' giv_mul ?s0 ?_); (case s0 => (first | assumption | exact cMul_r (by decide) | exact cMul_r (by omega)))) | ((with_reducible refine' giv_muls ?s0 ?_); (case s0 => (first | assumption | decide | omega | (show _ ≤ 16777216; omega) | (show _ < 16777216; omega) | (simp only [List.length_append, List.length_cons, List.length_nil, List.length_replicate, List.length_map, List.length_take, List.length_drop, List.length_dropLast]; first | omega | (show _ ≤ 16777216; omega))))) | ((with_reducible refine' giv_adds ?s0 ?_); (case s0 => (first | assumption | decide | omega | (show _ ≤ 16777216; omega) | (show _ < 16777216; omega) | (simp only [List.length_append, List.length_cons, List.length_nil, List.length_replicate, List.length_map, List.length_take, List.length_drop, List.length_dropLast]; first | omega | (show _ ≤ 16777216; omega))))) | ((with_reducible refine' giv_addl ?s0 ?_); (case s0 => (first | assumption | decide | omega | (show _ ≤ 16777216; omega) | (show _ < 16777216; omega) | (simp only [List.length_append, List.length_cons, List.length_nil, List.length_replicate, List.length_map, List.length_take, List.length_drop, List.length_dropLast]; first | omega | (show _ ≤ 16777216; omega))))) | ((with_reducible refine' giv_ixl ?s0 ?_); (case s0 => (first | assumption | rfl | exact atI_zero))) | ((with_reducible refine' giv_ixt ?s0 ?_); (case s0 => (first | assumption | rfl | exact atI_zero))) | ((with_reducible refine' giv_ixs ?s0 ?s1 ?_); (case s0 => (first | assumption | decide | omega | (show _ ≤ 16777216; omega) | (show _ < 16777216; omega) | (simp only [List.length_append, List.length_cons, List.length_nil, List.length_replicate, List.length_map, List.length_take, List.length_drop, List.length_dropLast]; first | omega | (show _ ≤ 16777216; omega)))); (case s1 => (first | assumption | rfl))) | ((with_reducible refine' giv_dr4 ?s0 ?_); (case s0 => (assumption))) | ((with_reducible refine' giv_slm1 ?s0 ?_); (case s0 => (first | assumption | decide | omega | (show _ ≤ 16777216; omega) | (show _ < 16777216; omega) | (simp only [List.length_append, List.length_cons, List.length_nil, List.length_replicate, List.length_map, List.length_take, List.length_drop, List.length_dropLast]; first | omega | (show _ ≤ 16777216; omega))))) | ((with_reducible refine' giv_slt ?s0 ?s1 ?_); (case s0 => (first | assumption | decide | omega | (show _ ≤ 16777216; omega) | (show _ < 16777216; omega) | (simp only [List.length_append, List.length_cons, List.length_nil, List.length_replicate, List.length_map, List.length_take, List.length_drop, List.length_dropLast]; first | omega | (show _ ≤ 16777216; omega)))); (case s1 => (first | assumption | decide | omega))) | ((with_reducible refine' giv_sld ?s0 ?s1 ?_); (case s0 => (first | assumption | decide | omega | (show _ ≤ 16777216; omega) | (show _ < 16777216; omega) | (simp only [List.length_append, List.length_cons, List.length_nil, List.length_replicate, List.length_map, List.length_take, List.length_drop, List.length_dropLast]; first | omega | (show _ ≤ 16777216; omega)))); (case s1 => (first | assumption | decide | omega))) | ((with_reducible refine' giv_slm ?s0 ?s1 ?s2 ?_); (case s0 => (first | assumption | decide | omega | (show _ ≤ 16777216; omega) | (show _ < 16777216; omega) | (simp only [List.length_append, List.length_cons, List.length_nil, List.length_replicate, List.length_map, List.length_take, List.length_drop, List.length_dropLast]; first | omega | (show _ ≤ 16777216; omega)))); (case s1 => (first | assumption | decide | omega)); (case s2 => (first | assumption | decide | omega))) | ((with_reducible refine' giv_sltl ?s0 ?_); (case s0 => (first | assumption | decide | omega))) | ((with_reducible refine' giv_sldl ?s0 ?_); (case s0 => (first | assumption | decide | omega))) | ((with_reducible refine' giv_sls ?s0 ?_); (case s0 => (first | assumption | decide | omega | (show _ ≤ 16777216; omega) | (show _ < 16777216; omega) | (simp only [List.length_append, List.length_cons, List.length_nil, List.length_replicate, List.length_map, List.length_take, List.length_drop, List.length_dropLast]; first | omega | (show _ ≤ 16777216; omega))))) | with_reducible refine giv_sll ?_ | ((with_reducible refine' giv_lens ?s0 ?_); (case s0 => (first | assumption | decide | omega | (show _ ≤ 16777216; omega) | (show _ < 16777216; omega) | (simp only [List.length_append, List.length_cons, List.length_nil, List.length_replicate, List.length_map, List.length_take, List.length_drop, List.length_dropLast]; first | omega | (show _ ≤ 16777216; omega))))) | ((with_reducible refine' giv_revs ?s0 ?_); (case s0 => (first | assumption | decide | omega | (show _ ≤ 16777216; omega) | (show _ < 16777216; omega) | (simp only [List.length_append, List.length_cons, List.length_nil, List.length_replicate, List.length_map, List.length_take, List.length_drop, List.length_dropLast]; first | omega | (show _ ≤ 16777216; omega))))) | ((with_reducible refine' giv_sldT ?s0 ?s1 ?_); (case s0 => (first | assumption | decide | omega)); (case s1 => (first | assumption | decide | omega))) | ((with_reducible refine' giv_sltT ?s0 ?s1 ?_); (case s0 => (first | assumption | decide | omega)); (case s1 => (first | assumption | decide | omega))) | with_reducible refine giv_A ?_ | with_reducible refine giv_tup ?_ | with_reducible refine giv_tupt ?_ | ((with_reducible refine' giv_str ?s0 ?_); (case s0 => (first | assumption | decide | omega))) | with_reducible refine giv_strN ?_ | with_reducible refine giv_strS ?_ | ((with_reducible refine' giv_at ?s0 ?_); (case s0 => (rfl))) | with_reducible refine giv r_add1 ?_ | with_reducible refine giv r_sub ?_ | with_reducible refine giv r_lt ?_ | with_reducible refine giv r_lts ?_ | with_reducible refine giv r_le ?_ | with_reducible refine giv r_gt ?_ | with_reducible refine giv r_ge ?_ | with_reducible refine giv r_eqi ?_ | with_reducible refine giv r_eqs ?_ | with_reducible refine giv r_eqb ?_ | with_reducible refine giv r_nei ?_ | with_reducible refine giv r_nes ?_ | with_reducible refine giv r_neb ?_ | with_reducible refine giv r_isb ?_ | with_reducible refine giv r_ntb ?_ | with_reducible refine giv r_ins ?_ | with_reducible refine giv r_nis ?_ | with_reducible refine giv r_neg ?_ | with_reducible refine giv r_len2 ?_ | with_reducible refine giv r_len3 ?_ | with_reducible refine giv r_int1 ?_ | with_reducible refine giv r_fFind ?_ | with_reducible refine giv r_rev1 ?_ | with_reducible refine giv r_fIsi1 ?_ | with_reducible refine giv r_fIsi2 ?_ | with_reducible refine giv r_fIsi3 ?_ | with_reducible refine giv r_fIsi4 ?_ | with_reducible refine giv r_fIsi5 ?_ | with_reducible refine giv r_fIsi6 ?_ | with_reducible refine giv r_min2 ?_ | with_reducible refine giv r_max2 ?_ | with_reducible refine giv r_min3 ?_ | with_reducible refine giv r_isn1 ?_ | with_reducible refine giv r_isn2 ?_ | with_reducible refine giv r_isn3 ?_ | with_reducible refine giv r_isn4 ?_ | with_reducible refine giv r_isn5 ?_ | with_reducible refine giv r_ntn1 ?_ | with_reducible refine giv r_ntn2 ?_ | with_reducible refine giv r_ntn3 ?_ | with_reducible refine giv r_ntn4 ?_ | with_reducible refine giv r_ntn5 ?_ | with_reducible refine giv r_eqn1 ?_ | with_reducible refine giv r_eqn2 ?_ | with_reducible refine giv q_isi_tuple_non ?_ | with_reducible refine giv q_isi_tuple_bl ?_ | with_reducible refine giv q_isi_tuple_int ?_ | with_reducible refine giv q_isi_tuple_str ?_ | with_reducible refine giv q_isi_tuple_lst ?_ | with_reducible refine giv q_isi_tuple_tup ?_ | with_reducible refine giv q_isi_list_non ?_ | with_reducible refine giv q_isi_list_bl ?_ | with_reducible refine giv q_isi_list_int ?_ | with_reducible refine giv q_isi_list_str ?_ | with_reducible refine giv q_isi_list_lst ?_ | with_reducible refine giv q_isi_list_tup ?_ | with_reducible refine giv q_isi_str_non ?_ | with_reducible refine giv q_isi_str_bl ?_ | with_reducible refine giv q_isi_str_int ?_ | with_reducible refine giv q_isi_str_str ?_ | with_reducible refine giv q_isi_str_lst ?_ | with_reducible refine giv q_isi_str_tup ?_ | with_reducible refine giv q_isi_int_non ?_ | with_reducible refine giv q_isi_int_bl ?_ | with_reducible refine giv q_isi_int_int ?_ | with_reducible refine giv q_isi_int_str ?_ | with_reducible refine giv q_isi_int_lst ?_ | with_reducible refine giv q_isi_int_tup ?_ | with_reducible refine giv q_isi_bool_non ?_ | with_reducible refine giv q_isi_bool_bl ?_ | with_reducible refine giv q_isi_bool_int ?_ | with_reducible refine giv q_isi_bool_str ?_ | with_reducible refine giv q_isi_bool_lst ?_ | with_reducible refine giv q_isi_bool_tup ?_ | ((with_reducible refine' giv ?s0 ?_); (case s0 => (first | exact (rfl : _ = some (D.bl true)) | exact (rfl : _ = some (D.bl false))))) | ((with_reducible refine' giv_ixs_all ?s0 ?s1 ?s2 ?_); (case s0 => (first | assumption | decide | omega | (show _ ≤ 16777216; omega) | (show _ < 16777216; omega) | (simp only [List.length_append, List.length_cons, List.length_nil, List.length_replicate, List.length_map, List.length_take, List.length_drop, List.length_dropLast]; first | omega | (show _ ≤ 16777216; omega)))); (case s1 => (first | assumption | decide | omega)); (case s2 => (first | assumption | (refine Int.lt_of_lt_of_le (by assumption) ?_; decide) | (show _ < (_ : Int); omega) | (simp only [List.length_append, List.length_cons, List.length_nil]; omega))); intro _ _))) | ((with_reducible refine gBrn ?_); (first | with_reducible refine brn_t ?_ | with_reducible refine brn_f ?_ | with_reducible refine brn_nT ?_ | with_reducible refine brn_nF ?_ | with_reducible refine brn_nn ?_ | ((with_reducible refine' brn_dt ?s0 ?_); (case s0 => decide)) | ((with_reducible refine' brn_df ?s0 ?_); (case s0 => decide)) | ((with_reducible refine' brn_nt ?s0 ?_); (case s0 => decide)) | ((with_reducible refine' brn_nf ?s0 ?_); (case s0 => decide)))) | ((with_reducible refine gFv ?_); (first | ((with_reducible refine' fv_nextE ?s0 ?s1 ?_); (case s0 => assumption); (case s1 => (first | assumption | decide | omega)); intro _ _ _ _ _; (try dsimp only [puts, put, agI, outsOf, slOf, List.set_cons_zero, List.set_cons_succ, List.getElem?_cons_zero, List.getElem?_cons_succ, wipeR, backR, Option.getD_some, stl])) | ((with_reducible refine' fv_drawE ?s0 ?_); (case s0 => assumption); intro _ _) | with_reducible refine fv_signs ?_ | (walk_at "fn"))) | with_reducible refine ret_z ?_ | with_reducible refine ret_r ?_ | ((with_reducible refine' ret_b ?s0 ?_); (case s0 => (rfl))) | ((with_reducible refine' see2 ?s0 ?s1 ?_); (case s0 => (rfl)); (case s1 => (rfl))) | ((with_reducible refine' see1 ?s0 ?_); (case s0 => (rfl))) | ((with_reducible refine' sees ?s0 ?_); (case s0 => (rfl))) | with_reducible refine isI ?_ | with_reducible refine isB ?_ | with_reducible refine isBD ?_ | ((with_reducible refine' frzs' ?s0 (And.intro ?s1 ?_)); (case s0 => rfl); (case s1 => (first | decide | simp)); (try dsimp only [puts, put, agI, outsOf, slOf, List.set_cons_zero, List.set_cons_succ, List.getElem?_cons_zero, List.getElem?_cons_succ, wipeR, backR, Option.getD_some, stl])) | ((with_reducible refine' arg ?s0 ?s1 ?s2 ?_); (case s0 => (rfl)); (case s1 => (rfl)); (case s2 => (first | exact List.nodup_nil | exact nodup1 | simp [agI])); (try dsimp only [puts, put, agI, outsOf, slOf, List.set_cons_zero, List.set_cons_succ, List.getElem?_cons_zero, List.getElem?_cons_succ, wipeR, backR, Option.getD_some, stl])) | ((with_reducible refine' ex_asg ?s0 ?_); (case s0 => (first | rfl | assumption)); (try dsimp only [puts, put, agI, outsOf, slOf, List.set_cons_zero, List.set_cons_succ, List.getElem?_cons_zero, List.getElem?_cons_succ, wipeR, backR, Option.getD_some, stl])) | ((with_reducible refine' ex_asg' ?s0 ?_); (case s0 => (first | rfl | assumption)); (try dsimp only [puts, put, agI, outsOf, slOf, List.set_cons_zero, List.set_cons_succ, List.getElem?_cons_zero, List.getElem?_cons_succ, wipeR, backR, Option.getD_some, stl])) | ((with_reducible refine' ex_asg'' ?s0 ?_); (case s0 => (rfl)); (try dsimp only [puts, put, agI, outsOf, slOf, List.set_cons_zero, List.set_cons_succ, List.getElem?_cons_zero, List.getElem?_cons_succ, wipeR, backR, Option.getD_some, stl])) | ((with_reducible refine' ex_asgT ?s0 ?_); (case s0 => (rfl)); (try dsimp only [puts, put, agI, outsOf, slOf, List.set_cons_zero, List.set_cons_succ, List.getElem?_cons_zero, List.getElem?_cons_succ, wipeR, backR, Option.getD_some, stl])) | ((with_reducible refine' nbw_z ?_); (try dsimp only [puts, put, agI, outsOf, slOf, List.set_cons_zero, List.set_cons_succ, List.getElem?_cons_zero, List.getElem?_cons_succ, wipeR, backR, Option.getD_some, stl])) | ((with_reducible refine' nbw_r ?_); (try dsimp only [puts, put, agI, outsOf, slOf, List.set_cons_zero, List.set_cons_succ, List.getElem?_cons_zero, List.getElem?_cons_succ, wipeR, backR, Option.getD_some, stl])) | with_reducible refine add2_i ?_ | ((with_reducible refine' add2_s ?s0 ?_); (case s0 => (first | assumption | decide | omega | (show _ ≤ 16777216; omega) | (show _ < 16777216; omega) | (simp only [List.length_append, List.length_cons, List.length_nil, List.length_replicate, List.length_map, List.length_take, List.length_drop, List.length_dropLast]; first | omega | (show _ ≤ 16777216; omega))))) | ((with_reducible refine' add2_l ?s0 ?_); (case s0 => (first | assumption | decide | omega | (show _ ≤ 16777216; omega) | (show _ < 16777216; omega) | (simp only [List.length_append, List.length_cons, List.length_nil, List.length_replicate, List.length_map, List.length_take, List.length_drop, List.length_dropLast]; first | omega | (show _ ≤ 16777216; omega))))) | ((with_reducible refine' add2_t ?s0 ?_); (case s0 => (first | assumption | decide | omega | (show _ ≤ 16777216; omega) | (show _ < 16777216; omega) | (simp only [List.length_append, List.length_cons, List.length_nil, List.length_replicate, List.length_map, List.length_take, List.length_drop, List.length_dropLast]; first | omega | (show _ ≤ 16777216; omega))))) | ((with_reducible refine' own_at ?s0 (And.intro ?s1 ?_)); (case s0 => rfl); (case s1 => exact ⟨_, by assumption⟩); intro _ _; (try dsimp only [puts, put, agI, outsOf, slOf, List.set_cons_zero, List.set_cons_succ, List.getElem?_cons_zero, List.getElem?_cons_succ, wipeR, backR, Option.getD_some, stl])) | ((with_reducible refine gSv ?_); (first | with_reducible refine sv_asg_s ?_ | with_reducible refine sv_nx_s ?_ | with_reducible refine sv_ret_s ?_ | with_reducible refine sv_seq_s ?_ | with_reducible refine sv_drop_s ?_ | ((with_reducible refine' sv_app_s ?s0 ?_); (case s0 => (rfl))) | ((with_reducible refine' sv_app_l ?s0 ?_); (case s0 => (rfl))) | with_reducible refine sv_asg_l ?_ | with_reducible refine sv_if_l ?_ | with_reducible refine sv_ret_l ?_ | with_reducible refine sv_nx ?_ | with_reducible refine sv_asgT_s ?_ | with_reducible refine sv_asgT_l ?_ | with_reducible refine sv_set4_s ?_))))
local macro_rules | `(tactic| walk_at "b") => `(tactic| (first | ((with_reducible refine' giv_ixl_all ?s0 ?s1 ?_); (case s0 => (first | assumption | decide | omega)); (case s1 => (first | assumption | (refine Int.lt_of_lt_of_le (by assumption) ?_; decide) | (show _ < (_ : Int); omega) | (simp only [List.length_append, List.length_cons, List.length_nil]; omega))); repeat' (first | exact all_nil | refine all_cons ?_ ?_)) | ((with_reducible refine brn_d ?_ ?_) <;> intro _ <;> (first | (exfalso; omega) | skip)) | ((with_reducible refine brn_nd ?_ ?_) <;> intro _ <;> (first | (exfalso; omega) | skip)) | ((with_reducible refine brn_c ?_ ?_) <;> intro _ <;> (first | (exfalso; omega) | contradiction | (subst_vars; contradiction) | skip))))
local macro_rules | `(tactic| walk_at "n") => `(tactic| (try dsimp only [puts, put, agI, outsOf, slOf, List.map, List.set_cons_zero, List.set_cons_succ, List.getElem?_cons_zero, List.getElem?_cons_succ, wipeR, backR, Option.getD_some, List.replicate, List.cons_append, List.nil_append, List.append_eq, List.append_nil, Nat.reduceSub, FEnd, Ret, noBw, stl]))
local macro_rules | `(tactic| walk_at "g") => `(tactic| (repeat (walk_at "s1")))
local macro_rules | `(tactic| walk_at "gS") => `(tactic| (repeat (walk_at "s2")))
local macro_rules | `(tactic| walk_at "x") => `(tactic| (repeat' (first | (walk_at "s1") | (walk_at "b"))))
local macro_rules | `(tactic| walk_at "xS") => `(tactic| (repeat' (first | (walk_at "s2") | (walk_at "b"))))
--HDREND
theorem sv_mut_s {i : Nat} {f : List D → List D → Option (List D)} {m : M (List Vl)} {s : S} {ρ : Rho} {QS : Fl → Rho → Prop} (h0 : (own? ρ i).isSome = true)
    (h : Ev m ρ fun rs ρ1 => ∃ zs ρ2 xs ys, frzs ρ1 rs = some (zs, ρ2) ∧ own? ρ2 i = some xs ∧ f xs zs = some ys ∧ Sv s (put ρ2 i ys) QS) : Sv (sSeq (sMut i f m) s) ρ QS := by
  obtain ⟨rs, ρ1, e1, zs, ρ2, xs, ys, e2, e3, e4, q⟩ := h
  obtain ⟨y, ey⟩ := Option.isSome_iff_exists.mp h0
  refine sv_seq_eq (ρ1 := put ρ2 i ys) ?_ q
  unfold sMut
  rw [ey]
  show (m ρ).bind _ = _
  rw [e1]
  show (frzs ρ1 rs).bind _ = _
  rw [e2]
  show (own? ρ2 i).bind _ = _
  rw [e3]
  show (f xs zs).bind _ = _
  rw [e4]
  rfl
theorem ev_metl {f : D → List D → Option D} {o : M Vl} {a : M (List Vl)} {ρ : Rho} {Q : Vl → Rho → Prop}
    (h : Ev o ρ fun r ρ1 => ∃ x0, look ρ1 (stl r) = some x0 ∧ lstQ x0 = true ∧ Ev a ρ1 fun rs ρ2 => ∃ x xs, look ρ2 (stl r) = some x ∧ looks ρ2 rs = some xs ∧ Giv (f x xs) fun z => Q (.fz z) ρ2) : Ev (eMetL f o a) ρ Q := by
  obtain ⟨r, ρ1, e1, x0, e2, e3, rs, ρ2, e4, x, xs, e5, e6, z, e7, q⟩ := h
  refine ⟨_, ρ2, ?_, q⟩
  unfold eMetL
  rw [e1]
  show (look ρ1 (stl r)).bind _ = _
  rw [e2]
  show (if _ then _ else _) = _
  rw [if_pos e3, e4]
  show (look ρ2 (stl r)).bind _ = _
  rw [e5]
  show (looks ρ2 rs).bind _ = _
  rw [e6]
  show (f x xs).bind _ = _
  rw [e7]
  rfl
/-- the place of a name -/
def ixS (ks : List (List Nat)) (n : List Nat) : Nat := (ks.map D.str).findIdx (fun x => eqF x (.str n))
theorem ixS_lt {ks : List (List Nat)} {n : List Nat} (h : n ∈ ks) : ixS ks n < ks.length := by
  have : (ks.map D.str).findIdx (fun x => eqF x (.str n)) < (ks.map D.str).length := List.findIdx_lt_length_of_exists ⟨.str n, List.mem_map.mpr ⟨n, h, rfl⟩, by show decide (n = n) = true; simp⟩
  rwa [List.length_map] at this
theorem inD_strs {s : List Nat} : ∀ {ks : List (List Nat)}, inD (.str s) (ks.map D.str) = decide (s ∈ ks)
  | [] => by simp [inD]
  | k :: ks => by
    have ih := inD_strs (s := s) (ks := ks)
    unfold inD at ih ⊢
    rw [List.map_cons, List.any_cons, ih]
    show (decide (k = s) || decide (s ∈ ks)) = _
    by_cases h : k = s
    · simp [h]
    · have h' : ¬ s = k := fun e => h e.symm
      simp [h, h']
theorem flat_strs : ∀ {ks : List (List Nat)}, (ks.map D.str).all flatD = true
  | [] => rfl
  | k :: ks => by rw [List.map_cons, List.all_cons, flat_strs]; rfl
theorem idx_strs {ks : List (List Nat)} {n : List Nat} (h : n ∈ ks) {Q : D → Prop} (q : Q (.int (ixS ks n : Nat))) : Giv (fIdx (.lst (ks.map D.str)) [.str n]) Q := by
  refine giv ?_ q
  unfold fIdx
  dsimp only
  rw [if_pos (by rw [flat_strs]; rfl)]
  have hl := ixS_lt h
  have e : (ks.map D.str).findIdx? (fun x => eqF x (.str n)) = some (ixS ks n) := by
    rw [List.findIdx?_eq_some_iff_findIdx_eq]
    exact ⟨by rw [List.length_map]; exact hl, rfl⟩
  rw [e]
  rfl
theorem in_strs {s : List Nat} {ks : List (List Nat)} {Q : D → Prop} (q : Q (.bl (decide (s ∈ ks)))) : Giv (fIn (.str s) (.lst (ks.map D.str))) Q := by
  refine giv (z := .bl (decide (s ∈ ks))) ?_ q
  show orF _ _ _ _ = _
  unfold orF
  have e : fInS (.str s) (.lst (ks.map D.str)) = none := by unfold fInS; cases s <;> simp
  rw [e]
  show fInQ false _ _ = _
  unfold fInQ
  simp only [flat_strs, Bool.and_true, inD_strs]
  rfl
theorem in_strsT {s : List Nat} {ks : List (List Nat)} {Q : D → Prop} (q : Q (.bl (decide (s ∈ ks)))) : Giv (fIn (.str s) (.tup (ks.map D.str))) Q := by
  refine giv (z := .bl (decide (s ∈ ks))) ?_ q
  show orF _ _ _ _ = _
  unfold orF
  have e : fInS (.str s) (.tup (ks.map D.str)) = none := by unfold fInS; cases s <;> simp
  rw [e]
  show fInQ false _ _ = _
  unfold fInQ
  simp only [flat_strs, Bool.and_true, inD_strs]
  rfl
theorem ni_strs {s : List Nat} {ks : List (List Nat)} {Q : D → Prop} (q : Q (.bl (!decide (s ∈ ks)))) : Giv (fNi (.str s) (.lst (ks.map D.str))) Q := by
  refine giv (z := .bl (!decide (s ∈ ks))) ?_ q
  show orF _ _ _ _ = _
  unfold orF
  have e : fNiS (.str s) (.lst (ks.map D.str)) = none := by unfold fNiS; cases s <;> simp
  rw [e]
  show fInQ true _ _ = _
  unfold fInQ
  simp only [flat_strs, Bool.and_true, inD_strs]
  rfl
theorem ev_new {m : M Vl} {ρ : Rho} {Q : Vl → Rho → Prop} (h : Ev m ρ fun r ρ1 => ∃ x xs, look ρ1 (stl r) = some x ∧ itemsQ x = some xs ∧ Q (.fr xs) ρ1) : Ev (eNew m) ρ Q := by
  obtain ⟨r, ρ1, e, x, xs, h1, h2, q⟩ := h
  exact ⟨_, _, by unfold eNew; rw [e]; show (look ρ1 (stl r)).bind _ = _; rw [h1]; show (itemsQ x).bind _ = _; rw [h2]; rfl, q⟩
theorem gT2_ok {i j : Nat} {x y : D} {ρ : Rho} (hi : ioQ ρ[i]? = false) (hj : ioQ (ρ.set i (.d x))[j]? = false) : gT 2 (gsC (gN i) (gsC (gN j) gsN)) (.tup [x, y]) ρ = some ((ρ.set i (.d x)).set j (.d y)) := by
  show (if [x, y].length = 2 then (asg i (.fz x) ρ).bind _ else none) = _
  rw [if_pos (show [x, y].length = 2 from rfl), asg_z hi]
  show (asg j (.fz y) (ρ.set i (.d x))).bind _ = _
  rw [asg_z hj]
  rfl
def Ltr (L : List Nat) : Prop := L.length = 3 ∧ L.Sublist SGN
theorem fv_lettersE {xs : List D} {e : Int} {Q : Vl → List (List D) → Prop} (h : DrE e xs) (q : ∀ cs ys, Ltr cs → DrE e ys → Q (.fz (.str cs)) [ys]) : Fv lawLetters [.li xs] Q := by
  refine fv_fn rfl ?_
  walk_at "n"
  unfold lawLettersB
  walk_at "gS"
  refine sv_if_s ?_
  walk_at "g"
  refine brn_d (fun z => ?_) (fun z => sv_nx_s ?_)
  · walk_at "g"
    walk_at "n"
    exact q _ _ ⟨rfl, by decide⟩ (by assumption)
  refine sv_if_s ?_
  walk_at "g"
  refine brn_d (fun z => ?_) (fun z => sv_nx_s ?_)
  · walk_at "g"
    walk_at "n"
    exact q _ _ ⟨rfl, by decide⟩ (by assumption)
  refine sv_if_s ?_
  walk_at "g"
  refine brn_d (fun z => ?_) (fun z => sv_nx_s ?_)
  · walk_at "g"
    walk_at "n"
    exact q _ _ ⟨rfl, by decide⟩ (by assumption)
  walk_at "gS"
  rename_i r0 ys0 _ _ _ _ _ f ys1 f0 f1 h1 s ys2 s0 s1 h2 t ys3 t0 t1 h3
  have ns : (f + 1 + s) % 96 ≠ f := by omega
  have nt : (f + 1 + t) % 96 ≠ f := by omega
  have rs : 0 ≤ (f + 1 + s) % 96 ∧ (f + 1 + s) % 96 < 96 := by omega
  have rt : 0 ≤ (f + 1 + t) % 96 ∧ (f + 1 + t) % 96 < 96 := by omega
  generalize (f + 1 + s) % 96 = s' at ns rs ⊢
  generalize (f + 1 + t) % 96 = t' at nt rt ⊢
  refine sv_then (fun ρ => ∃ z : Int, ρ = [.io ys3, .d (.int r0), .d (.str SGN), .d (.int f), .d (.int s'), .d (.int z), .no] ∧ 0 ≤ z ∧ z < 96 ∧ z ≠ s' ∧ (z = f → (s' + 1) % 96 = f)) ?_ ?_
  · walk_at "g"
    refine brn_d (fun z => ?_) (fun z => ?_)
    · walk_at "g"; exact ⟨_, rfl, by omega, by omega, by omega, fun z => by omega⟩
    · walk_at "g"; exact ⟨_, rfl, by omega, by omega, by omega, fun z => by omega⟩
  rintro ρ ⟨z, rfl, z0, z1, z2, z3⟩
  refine sv_then (fun ρ => ∃ z : Int, ρ = [.io ys3, .d (.int r0), .d (.str SGN), .d (.int f), .d (.int s'), .d (.int z), .no] ∧ 0 ≤ z ∧ z < 96 ∧ z ≠ s' ∧ z ≠ f) ?_ ?_
  · walk_at "g"
    refine brn_d (fun y => ?_) (fun y => ?_)
    · walk_at "g"; exact ⟨_, rfl, by omega, by omega, by have := z3 y; omega, by omega⟩
    · walk_at "g"; exact ⟨_, rfl, by omega, by omega, by omega, by omega⟩
  rintro ρ ⟨z, rfl, z0, z1, z2, z3⟩
  obtain ⟨cs, hl, ec, hm⟩ := let_comp (f := f.toNat) (s := s'.toNat) (t := z.toNat) (io := ys3) (c := .int r0) (by omega) (by omega) (by omega) (by omega) (by omega) (by omega)
  rw [show ((f.toNat : Nat) : Int) = f by omega, show ((s'.toNat : Nat) : Int) = s' by omega, show ((z.toNat : Nat) : Int) = z by omega] at ec
  have ej := join_signs (cs := cs) (by rw [hl]; decide)
  walk_at "g"
  refine ev_eq ec ?_
  walk_at "g"
  refine giv ej ?_
  walk_at "g"
  walk_at "n"
  exact q _ _ ⟨hl, hm⟩ h3
theorem ev_make {c : PySem.Str} {g : List D → Option (List PySem.Str × List D)} {ms : M (List Vl)} {ρ : Rho} {Q : Vl → Rho → Prop}
    (h : Ev ms ρ fun rs ρ1 => ∃ xs ρ2 ks ys, frzs ρ1 rs = some (xs, ρ2) ∧ g xs = some (ks, ys) ∧ Q (.fz (.obj c ks ys)) ρ2) : Ev (eMake c g ms) ρ Q := by
  obtain ⟨rs, ρ1, e1, xs, ρ2, ks, ys, e2, e3, q⟩ := h
  refine ⟨_, ρ2, ?_, q⟩
  unfold eMake
  rw [e1]
  show (frzs ρ1 rs).bind _ = _
  rw [e2]
  show (g xs).bind _ = _
  rw [e3]
  rfl
theorem giv_at {c f : PySem.Str} {ks : List PySem.Str} {xs : List D} {z : D} {Q : D → Prop} (h : (ks.zip xs).lookup f = some z) (q : Q z) : Giv (fAt c f (.obj c ks xs)) Q := by
  refine giv ?_ q
  unfold fAt
  dsimp only
  rw [if_pos rfl]
  exact h
theorem ev_izpT {ms : M (List Vl)} {ρ : Rho} {Q : List D → Rho → Prop} (h : Ev ms ρ fun rs ρ1 => ∃ xs ys ρ2, frzs ρ1 rs = some ([.tup xs, .tup ys], ρ2) ∧ Q (zipD xs ys) ρ2) : Ev (iZp ms) ρ Q := by
  obtain ⟨rs, ρ1, e1, xs, ys, ρ2, e2, q⟩ := h
  refine ⟨_, ρ2, ?_, q⟩
  unfold iZp
  rw [e1]
  show (frzs ρ1 rs).bind _ = _
  rw [e2]
  rfl
theorem ev_izpL {ms : M (List Vl)} {ρ : Rho} {Q : List D → Rho → Prop} (h : Ev ms ρ fun rs ρ1 => ∃ xs ys ρ2, frzs ρ1 rs = some ([.lst xs, .lst ys], ρ2) ∧ Q (zipD xs ys) ρ2) : Ev (iZp ms) ρ Q := by
  obtain ⟨rs, ρ1, e1, xs, ys, ρ2, e2, q⟩ := h
  refine ⟨_, ρ2, ?_, q⟩
  unfold iZp
  rw [e1]
  show (frzs ρ1 rs).bind _ = _
  rw [e2]
  rfl
theorem intsD_none {ts : List (List Nat)} (h : ts ≠ []) : intsD (ts.map D.str) = none := by
  cases ts with
  | nil => exact absurd rfl h
  | cons t ts => rfl
theorem sortD_strs {ts : List (List Nat)} (h : ts.length < 64) : sortD (ts.map D.str) = some ((sortT ts).map D.str) := by
  by_cases e : ts = []
  · subst e; unfold sortD intsD sortT sortI; simp [intsD]
  · unfold sortD
    rw [intsD_none e]
    dsimp only
    rw [strsOf_map]
    show (if _ then _ else _) = _
    rw [if_pos h]
theorem sortD_ints {ns : List Int} : sortD (ns.map D.int) = some ((sortI ns).map D.int) := by
  unfold sortD
  rw [intsD_map]
theorem ev_sorted {ms : M (List Vl)} {ρ : Rho} {Q : Vl → Rho → Prop} (h : Ev ms ρ fun rs ρ1 => ∃ r xs ys, rs = [r] ∧ look ρ1 r = some (.lst xs) ∧ sortD xs = some ys ∧ Q (.fr ys) ρ1) : Ev (eSorted ms) ρ Q := by
  obtain ⟨rs, ρ1, e1, r, xs, ys, rfl, e2, e3, q⟩ := h
  refine ⟨_, ρ1, ?_, q⟩
  unfold eSorted
  rw [e1]
  show (look ρ1 r).bind _ = _
  rw [e2]
  show (sortD xs).bind _ = _
  rw [e3]
  rfl
/-- a comprehension over pairs that changes nothing -/
theorem ev_lcm2 {α : Type} {ρ : Rho} {v w : Nat} {src : M (List D)} {e : M Vl} {Q : Vl → Rho → Prop} (xs : List α) (d d' : α → D) (h : α → D)
    (hv : ρ[v]? = some .no) (hw : ρ[w]? = some .no) (vw : v ≠ w) (hl : xs.length ≤ lim) (hs : ∀ {Q' : List D → Rho → Prop}, Q' (xs.map fun x => .tup [d x, d' x]) ρ → Ev src ρ Q')
    (he : ∀ x ∈ xs, ∀ {Q' : Vl → Rho → Prop}, Q' (.fz (h x)) ((ρ.set v (.d (d x))).set w (.d (d' x))) → Ev e ((ρ.set v (.d (d x))).set w (.d (d' x))) Q')
    (q : Q (.fr (xs.map h)) ρ) : Ev (eLc [v, w] src (gT 2 (gsC (gN v) (gsC (gN w) gsN))) tYesM e) ρ Q := by
  have hvl := (List.getElem?_eq_some_iff.mp hv).1
  have hwl := (List.getElem?_eq_some_iff.mp hw).1
  have sv : ρ.set v .no = ρ := by
    have := (List.getElem?_eq_some_iff.mp hv).2
    rw [← this]; exact List.set_getElem_self hvl
  have sw : ρ.set w .no = ρ := by
    have := (List.getElem?_eq_some_iff.mp hw).2
    rw [← this]; exact List.set_getElem_self hwl
  have wv : ∀ a b : Sl, ((ρ.set v a).set w b) = ((ρ.set w b).set v a) := fun a b => List.set_comm _ _ vw
  have wp : wipeR ρ [v, w] = ρ := by
    show ((wipeR ρ []).set w .no).set v .no = ρ
    show (ρ.set w .no).set v .no = ρ
    rw [sw, sv]
  refine ev_lc (fun i acc ρ' => acc = (xs.take i).map h ∧ ρ' = ρ) (hs ?_)
  refine ⟨by simp only [List.all_cons, hv, hw, List.all_nil]; rfl, ⟨by simp, wp⟩, ?_, ?_⟩
  · rintro i y hy acc ρ' ⟨rfl, rfl⟩
    rw [List.getElem?_map] at hy
    cases hi : xs[i]? with
    | none => rw [hi] at hy; cases hy
    | some x =>
      rw [hi] at hy
      cases hy
      have hx := List.mem_of_getElem? hi
      have hi' : i < xs.length := (List.getElem?_eq_some_iff.mp hi).1
      refine ⟨(ρ'.set v (.d (d x))).set w (.d (d' x)), gT2_ok (by rw [hv]; rfl) (by rw [List.getElem?_set_ne vw, hw]; rfl), ev_tyes ?_⟩
      refine brn_t (he x hx ⟨h x, _, rfl, ?_, ?_, ?_⟩)
      · rw [List.length_map, List.length_take]; omega
      · rw [take_s hi, List.map_append]; rfl
      · show (((ρ'.set v (.d (d x))).set w (.d (d' x))).set w .no).set v .no = ρ'
        rw [List.set_set, wv, List.set_set, sw, sv]
  · rintro acc ρ' ⟨rfl, rfl⟩
    rw [List.length_map, List.take_length]
    have : backR ρ' ρ' [v, w] = ρ' := by
      show (ρ'.set w ((ρ'[w]?).getD .no)).set v ((ρ'[v]?).getD .no) = ρ'
      rw [hv, hw]
      show (ρ'.set w .no).set v .no = ρ'
      rw [sw, sv]
    rw [this]
    exact q
/-- comprehensions whose source may freeze a list -/
theorem ev_lcfR {α : Type} {ρ ρ1 : Rho} {v : Nat} {src : M (List D)} {t : M Bool} {e : M Vl} {Q : Vl → Rho → Prop} (xs : List α) (d : α → D) (p : α → Bool) (h : α → D)
    (hv : plainSl ρ1[v]? = true) (hl : xs.length ≤ lim) (hs : ∀ {Q' : List D → Rho → Prop}, Q' (xs.map d) ρ1 → Ev src ρ Q')
    (ht : ∀ x ∈ xs, ∀ {Q' : Bool → Rho → Prop}, Q' (p x) (ρ1.set v (.d (d x))) → Ev t (ρ1.set v (.d (d x))) Q')
    (he : ∀ x ∈ xs, p x = true → ∀ {Q' : Vl → Rho → Prop}, Q' (.fz (h x)) (ρ1.set v (.d (d x))) → Ev e (ρ1.set v (.d (d x))) Q')
    (q : Q (.fr ((xs.filter p).map h)) ρ1) : Ev (eLc [v] src (gN v) t e) ρ Q := by
  have hvl := plain_io hv
  refine ev_lc (fun i acc ρ' => acc = ((xs.take i).filter p).map h ∧ ρ' = ρ1.set v .no) (hs ?_)
  refine ⟨by simp only [List.all_cons, hv, List.all_nil]; rfl, ⟨by simp, rfl⟩, ?_, ?_⟩
  · rintro i y hy acc ρ' ⟨rfl, rfl⟩
    rw [List.getElem?_map] at hy
    cases hi : xs[i]? with
    | none => rw [hi] at hy; cases hy
    | some x =>
      rw [hi] at hy
      cases hy
      have hx := List.mem_of_getElem? hi
      have hi' : i < xs.length := (List.getElem?_eq_some_iff.mp hi).1
      refine ⟨ρ1.set v (.d (d x)), ?_, ht x hx ?_⟩
      · show asg v (.fz (d x)) _ = _
        rw [asg_z (by rw [List.getElem?_set_self hvl]; rfl), List.set_set]
      · refine ⟨fun hp => he x hx hp ⟨h x, _, rfl, ?_, ?_, ?_⟩, fun hp => ⟨?_, ?_⟩⟩
        · rw [List.length_map]
          have := List.length_filter_le p (xs.take i)
          rw [List.length_take] at this
          omega
        · rw [take_s hi, List.filter_append, List.map_append]; simp [hp]
        · show (ρ1.set v (.d (d x))).set v .no = _
          rw [List.set_set]
        · rw [take_s hi, List.filter_append, List.map_append]; simp [hp]
        · show (ρ1.set v (.d (d x))).set v .no = _
          rw [List.set_set]
  · rintro acc ρ' ⟨rfl, rfl⟩
    rw [List.length_map, List.take_length]
    show Q _ ((ρ1.set v .no).set v ((ρ1[v]?).getD .no))
    rw [set_back hv]
    exact q
theorem ev_lcmR {α : Type} {ρ ρ1 : Rho} {v : Nat} {src : M (List D)} {e : M Vl} {Q : Vl → Rho → Prop} (xs : List α) (d : α → D) (h : α → D)
    (hv : plainSl ρ1[v]? = true) (hl : xs.length ≤ lim) (hs : ∀ {Q' : List D → Rho → Prop}, Q' (xs.map d) ρ1 → Ev src ρ Q')
    (he : ∀ x ∈ xs, ∀ {Q' : Vl → Rho → Prop}, Q' (.fz (h x)) (ρ1.set v (.d (d x))) → Ev e (ρ1.set v (.d (d x))) Q')
    (q : Q (.fr (xs.map h)) ρ1) : Ev (eLc [v] src (gN v) tYesM e) ρ Q :=
  ev_lcfR xs d (fun _ => true) h hv hl hs (fun x _ Q' q => ev_tyes q) (fun x hx _ => he x hx) (by rw [List.filter_eq_self.mpr (fun _ _ => rfl)]; exact q)
/-- a comprehension whose items are drawn (the draw stands in slot 0) -/
theorem ev_lc_draw {e0 : Int} {ρ1 : Rho} {v : Nat} {src : M (List D)} {e : M Vl} {Q : Vl → Rho → Prop} (xs : List D) (P : D → Prop) {ys0 : List D} (hd : DrE e0 ys0) (hv : plainSl ρ1[v]? = true) (hl : xs.length ≤ lim)
    (hs : ∀ {Q' : List D → Rho → Prop}, Q' xs (.io ys0 :: ρ1) → Ev src (.io ys0 :: ρ1) Q')
    (he : ∀ x ∈ xs, ∀ ys, DrE e0 ys → ∀ {Q' : Vl → Rho → Prop}, (∀ z ys', P z → DrE e0 ys' → Q' (.fz z) (.io ys' :: ρ1.set v (.d x))) → Ev e (.io ys :: ρ1.set v (.d x)) Q')
    (q : ∀ (zs ys : List D), zs.length = xs.length → (∀ z ∈ zs, P z) → DrE e0 ys → Q (.fr zs) (.io ys :: ρ1)) : Ev (eLc [v + 1] src (gN (v + 1)) tYesM e) (.io ys0 :: ρ1) Q := by
  have hvl := plain_io hv
  refine ev_lc (fun i acc ρ' => ∃ ys, acc.length = i ∧ (∀ z ∈ acc, P z) ∧ DrE e0 ys ∧ ρ' = .io ys :: ρ1.set v .no) (hs ?_)
  refine ⟨by simp only [List.all_cons, List.getElem?_cons_succ, hv, List.all_nil]; rfl, ⟨ys0, rfl, fun _ h => absurd h List.not_mem_nil, hd, rfl⟩, ?_, ?_⟩
  · rintro i x hx acc ρ' ⟨ys, hl', hp, hd, rfl⟩
    have hxm := List.mem_of_getElem? hx
    have hi' : i < xs.length := (List.getElem?_eq_some_iff.mp hx).1
    refine ⟨.io ys :: ρ1.set v (.d x), ?_, ev_tyes (brn_t (he x hxm ys hd fun z ys' hz hd' => ⟨z, _, rfl, by omega, ys', by simp [hl'], ?_, hd', ?_⟩))⟩
    · show asg (v + 1) (.fz x) (.io ys :: ρ1.set v .no) = _
      rw [asg_z (by rw [List.getElem?_cons_succ, List.getElem?_set_self hvl]; rfl), List.set_cons_succ, List.set_set]
    · intro y hy
      rcases List.mem_append.mp hy with h | h
      · exact hp y h
      · rw [List.mem_singleton.mp h]; exact hz
    · show (Sl.io ys' :: ρ1.set v (.d x)).set (v + 1) .no = _
      rw [List.set_cons_succ, List.set_set]
  · rintro acc ρ' ⟨ys, hl', hp, hd, rfl⟩
    show Q _ ((Sl.io ys :: ρ1.set v .no).set (v + 1) (((Sl.io ys0 :: ρ1)[v + 1]?).getD .no))
    rw [List.getElem?_cons_succ, List.set_cons_succ, set_back hv]
    exact q acc ys hl' hp hd
theorem cMul_l {i j : Int} (h : -18446744073709551616 < i ∧ i < 18446744073709551616) : cMul i j = true := by
  unfold cMul
  rw [decide_eq_true h, Bool.true_or]
end Sw
/-! Sw26: exceptions: raise, calls of defs that raise, try. -/
namespace Sw
open PySem PySem.Spec PyProof.Rows L2

theorem passLN {X : Cx} : Passes (L2N.CX X.prog X.w) X E0 := fun _ _ _ _ _ _ _ h => by
  obtain ⟨_, _, _, _, _, _, _, _, _, _, _, _, z⟩ := h
  exact z.elim
/-- around a body nothing is let out -/
theorem takesN0 {X : Cx} : L2N.Takes X WF := fun _ _ x => by
  obtain ⟨_, _, _, _, _, _, _, _, _, _, _, _, _, _, _, _, z⟩ := x
  exact z.elim
theorem fun_okN {P : Program} {w : World} {K : PySem.W.Frag} {mg : Str → Option Value} {base : Heap} {CX : CXT} {x qual : Str} {st : Stmt} {f : Addr} {fd : FuncData} {N ps : List Str} {k : Nat} {sp : Sp} (F : FunG K x qual st f fd) (S : FnScope N ps (defScope st)) (len : ∀ vs H Q E, sp vs H Q E → vs.length = ps.length)
    (hb : ∀ (cdv : Value) (A : Around) (outer : List Env) (s : Shared) (H : Hp) (vs : List V) (Q : VK) (E : XK), Room k (A.deeper (envOfC qual (defScope st) s.heap.objs.size f cdv)) → sp vs H Q E →
      ∃ t, PSs (cxOf CX P w K mg base N qual (defScope st) f cdv A outer s H E) (defBody st) t ∧ t { nx := fun _ H' => Q .non H', rt := Q } (start N vs) H) : FnOk P w K mg base CX (k + 1) f fd ps sp := by
  obtain ⟨oc, od, dV, kV, doc, pm, an, cdv, ct, osl, rfl, lk, hcd⟩ := F.ex
  exact fn_of lk hcd S len fun A outer s H vs Q E hr hsp => hb cdv A outer s H vs Q E hr hsp

/-! ### raise C() -/
/-- what the text says of an exception class that is raised without arguments -/
structure Rs0 (K : PySem.W.Frag) (c : PySem.Str) (C : Addr) : Prop where
  cn : ClsN K c C
  xC : PySem.W.excIn K C [.type "ValueError", .type "Exception", .type "BaseException", .type "object"] "ValueError.__new__" = true
  kC : PySem.W.keepIn K (.ref C) = true
  eC : PySem.W.subIn K (.ref C) (.type "BaseException") = some true
  tC : PySem.W.typeIn K (.ref C) = some (.type "type")
theorem pmk_own0 {X : Cx} {C : Addr} {bmB : List Value} {B newId initId : String} {x : Str} {p pos : Pos} (F : ExcBaseFacts B newId initId bmB) (q : PySem.W.excIn X.K C bmB newId = true) (gC : X.mg x = some (.ref C)) (kC : PySem.W.keepIn X.K (.ref C) = true) (r : Raises X (.ref C)) (hg : Gl X x)
    (hdb : (x == ("__debug__" : Str)) = false := by decide) : L2N.PMk X (.Call (.Name x p) [] [] pos) (fun _ H Q => Q (.ref C) none H) := by
  intro pins s σ H Q I h
  refine wpAny_Call_Name_kw (ld_glob I hg gC ?_ hdb)
  refine PySem.W.callWith_K0 I.kIn kC ?_
  show wpAny _ _ (call (.ref C) []) _ _ _
  obtain ⟨bm, N, nm, qn, bs, hdct, sn, sub, ab, col, dd, k0, k1, k2, k3, k5, mN, hC, hN, hni, T⟩ := exc_obj I.kIn q
  refine wpAny_call_exc_subT F T hC hN hni (fun h' e hm => ?_) (Nat.zero_le _)
  exact L2N.mk_of I hm r h (I.hok.gone hm.new)
def sRaise0 (c : PySem.Str) : S := fun ρ => some (.ex ⟨c, none⟩, ρ)
theorem ss_raise0 {X : Cx} {Wx : WX} {x c : Str} {C : Addr} {p p2 pos : Pos} (hc : X.calm = true) (tk : L2N.Takes X Wx) (T : Rs0 X.K c C) (hg : Gl X x) (gC : X.mg x = some (.ref C)) (hdb : (x == ("__debug__" : Str)) = false := by decide) :
    SSW X Wx (.Raise (some (.Call (.Name x p) [] [] p2)) none pos) (sRaise0 c) :=
  ps_weak (L2N.ps_raise hc tk (pmk_own0 PySem.F.excBase_ValueError T.xC gC T.kC (raises_own T.eC T.tC) hg hdb)) fun D σ H ⟨G, ρ, F, fl, ρ', W, hm, q⟩ => by
    cases hm
    exact q σ H F W (Same.refl _) _ _ ⟨C, T.cn, rfl, fun _ => rfl, fun z => absurd rfl z⟩

/-! ### raise C(e), C with an __init__ that stores its argument as a field -/
def spXI (C : Addr) (f : Str) : Sp := fun vs H Q _ => ∃ (a : Addr) (v : V), vs = [.ref a, v] ∧ H a = some (exo a C none) ∧ ∀ d, H d = none → d ≠ a → Q .non (upd (upd H d (exd d [(f, v)])) a (exo a C (some d)))
structure Rs1 (K : PySem.W.Frag) (c : PySem.Str) (C fi : Addr) : Prop where
  cn : ClsN K c C
  ox : OexC K C
  ini : PySem.W.findIn K (.ref C) "__init__" = some (some (.ref fi))
  tyI : PySem.W.typeIn K (.ref fi) = some (.type "function")
section
variable {P : Program} {w : World} {K : PySem.W.Frag} {mg : Str → Option Value} {base : Heap}
theorem fn_xinit {x qual fl y : Str} {st : Stmt} {f C : Addr} {fd : FuncData} {k : Nat} {p1 p2 p3 pos : Pos} (F : FunG K x qual st f fd) (S : FnScope ["self", y] ["self", y] (defScope st)) (hbd : defBody st = [.Assign [.Attribute (.Name "self" p1) fl p2] (.Name y p3) pos]) (T : OexC K C) (hno : PySem.W.findIn K (.ref C) fl = some none)
    (hy : (y == ("__debug__" : Str)) = false) (hy2 : (y == ("__classdict__" : Str)) = false)
    (hv0 : Vis (defScope st) "self") (hv1 : Vis (defScope st) y) : FnOk P w K mg base CX0 (k + 1) f fd ["self", y] (spXI C fl) := by
  refine fun_okN F S (fun vs H Q E h => ?_) (fun cdv A outer s H vs Q E hr h => ?_)
  · obtain ⟨a, v, rfl, _⟩ := h
    rfl
  · obtain ⟨a, v, rfl, ea, q⟩ := h
    rw [hbd]
    refine ⟨_, pss_one (ps_ost (pv 0 rfl hv0) (pv 1 rfl hv1 hy hy2) (by rfl)), ?_⟩
    exact ⟨v, rfl, .ref a, rfl, a, C, rfl, T, hno, .inl ⟨ea, fun dx n ne => q dx n ne⟩⟩
end
section
variable {X : Cx} {x : Str} {e : Expr} {es : List Expr} {ta : TA} {p pos : Pos} {C fI : Addr} {k : Nat} {fd : FuncData} {ps : List Str} {sp : Sp}
theorem pmk_oexN {c : Str} (R : Rs1 X.K c C fI) (F1 : FnOk X.prog X.w X.K X.mg X.base CX0 k fI fd ps sp) (hr : Room (k + 1) X.A) (hb : Binds X.K fd ps []) (hg : Gl X x) (hm : X.mg x = some (.ref C)) (ha : PA X (e :: es) ta)
    (hdb : (x == ("__debug__" : Str)) = false := by decide) (he : starEach (e :: es) X.env = (false, eval e X.env) :: starEach es X.env := by rfl) (hpl : (backTo pos (starEach es X.env)).any (·.1) = false := by rfl) :
    L2N.PMk X (.Call (.Name x p) (e :: es) [] pos) (tMkO C sp [] ta) := by
  intro pins s σ H Q I h
  obtain ⟨nm, q, N, bs, bm, sn, sub, ab, col, dd, k0, k1, k2, k3, k5, hC, hbm⟩ := R.ox.cls
  refine wpAny_Call_Name_kw (ld_glob I hg hm ?_ hdb)
  refine PySem.W.callWith_K (h₀ := X.base) I.ok.mod.kin R.ox.kC (thn (ha.run pos pins s σ H _ I h) fun us s1 hh => ?_) he hpl
  obtain ⟨vs, H1, I1, r1, hz, q1⟩ := hh
  refine ⟨I1.kIn, ?_⟩
  show wpAny _ _ (call (.ref C) us) _ _ _
  obtain ⟨hp, g, dr, tk, os⟩ := s1
  -- the place of the exception: behind the tuple of its arguments
  let z := hp.objs.size + 1
  let hp' := (hp.push (PySem.W.kdv_tup us)).push (PySem.HandSPX.excO C hp.objs.size)
  have hsz : hp.objs.size ≤ z := Nat.le_succ _
  have old : ∀ b o, hp.get? b = some o → hp'.get? b = some o := fun b o e => Heap.get?_push_of_some _ (Heap.get?_push_of_some _ e)
  have hget : hp'.get? z = some (PySem.HandSPX.excO C hp.objs.size) := by
    show ((hp.push (PySem.W.kdv_tup us)).push (PySem.HandSPX.excO C hp.objs.size)).get? (hp.objs.size + 1) = _
    heap_get
  have I2 : Inv X pins σ (upd H1 z (exo z C none)) ⟨hp', g, dr, tk, os⟩ := I1.laid (t' := tk) (a := z) (o := exo z C none) (h' := hp') old hsz (exo_ok hget)
  have hq := q1 z (I1.hok.fresh hsz)
  rw [List.append_nil] at hq
  have r2 : Vals (V.ref z :: vs) (Value.ref z :: us) := .cons rfl r1
  have hl : (Value.ref z :: us).length = ps.length := by rw [← r2.length]; exact F1.len _ _ _ _ hq
  have hus : us.length ≤ sizeLine := by
    rw [← Paired.length r1, sizeLine_eq]
    omega
  have b2 := hb ⟨hp', g, dr, tk, os⟩ (Value.ref z :: us) I2.kIn (by rw [List.append_nil]; exact hl)
  rw [List.append_nil] at b2
  have run := F1.run _ X.stack _ _ ⟨Value.ref z :: us, []⟩ (Value.ref z :: us) _ _ (fun _ _ _ => False) (hr.make C us []) (I2.env0.make C us []) b2 r2 hq
  refine wpAny_call (PySem.HandSPX.call_own F.excBase_ValueError (fun Y => PySem.HandSPX.refsVE_contains Y bm hbm) (I1.kIn _ _ hC) (PySem.W.looks_findIn I1.kIn R.ini) (fun self => PySem.W.bind_fn I1.kIn self R.tyI) hus (codeAny_mono run fun r s' hq' => ?_))
  cases r with
  | error er => exact absurd hq' (by intro z; exact z)
  | ok fl =>
    cases fl with
    | ret u =>
      obtain ⟨v, H2, os2, bare2, un2, hok2, rv, ev, d, fs, ea, ed, hd1, q2⟩ := hq'
      subst ev
      obtain ⟨h2, g2, d2, t2, os'⟩ := s'
      obtain ⟨t0, G, J, kG, ge, hoe, na⟩ := mk_end0 (d2 := d2) (t2 := t2) I1 hsz old un2 hok2 os2 bare2 ea ed hd1
      refine ⟨rv, ⟨z, _, _, ⟨G, g2, d2, t2, os'⟩, _, .ref C, some d, rfl, J, kG, ge, hoe, ⟨rfl, rfl, fun vs hv => ?_⟩, rfl, rfl, na, rfl, bare2, raises_own R.ox.exC R.ox.tyC, q2⟩⟩
      cases hv
      rfl
    | next => exact False.elim hq'
    | brk => exact False.elim hq'
    | cont => exact False.elim hq'
/-- raise C(e): the class by name, its field -/
def sRaise1 (c f : PySem.Str) (m : M Vl) : S := fun ρ => (m ρ).bind fun p => (frz p.2 (stl p.1)).bind fun q => some (.ex ⟨c, some (f, q.1)⟩, q.2)
theorem ss_raise1 {Wx : WX} {c f : Str} {me : M Vl} {pos2 : Pos} (hc : X.calm = true) (tk : L2N.Takes X Wx) (R : Rs1 X.K c C fI) (F1 : FnOk X.prog X.w X.K X.mg X.base CX0 k fI fd ps (spXI C f)) (hr : Room (k + 1) X.A) (hb : Binds X.K fd ps []) (hm : X.mg x = some (.ref C)) (hg : Gl X x) (ha : SE X e me)
    (hdb : (x == ("__debug__" : Str)) = false := by decide) (he : starEach [e] X.env = (false, eval e X.env) :: starEach [] X.env := by rfl) (hpl : (backTo pos (starEach [] X.env)).any (·.1) = false := by rfl) :
    SSW X Wx (.Raise (some (.Call (.Name x p) [e] [] pos)) none pos2) (sRaise1 c f me) :=
  ps_weak (L2N.ps_raise hc tk (pmk_oexN R F1 hr hb hg hm (pa_cons ha pa_nil he) hdb he hpl)) fun D σ H ⟨G, ρ, F, fl, ρ', W, hmm, q⟩ => by
    unfold sRaise1 at hmm
    obtain ⟨⟨r, ρ1⟩, e1, hmm⟩ := Option.bind_eq_some_iff.mp hmm
    obtain ⟨⟨y, ρ2⟩, e2, hmm⟩ := Option.bind_eq_some_iff.mp hmm
    cases hmm
    refine tm_use W e1 fun v H1 F1 s1 R1 => ?_
    obtain ⟨F2, s2, R2⟩ := frz_ok s1.wd R1 e2
    refine ⟨by show (1 : Nat) ≤ 1000; decide, fun a na => ⟨a, v, rfl, upd_same, fun d nd ne => ?_⟩⟩
    have hd : H1 d = none := by rw [upd_ne ne] at nd; exact nd
    refine ⟨rfl, d, [(f, v)], upd_same, by rw [upd_ne ne]; exact upd_same, hd, ?_⟩
    have eH : upd (del (upd (upd (upd H1 a (exo a C none)) d (exd d [(f, v)])) a (exo a C (some d))) a) d (.xd [(f, v)]) = upd H1 d (.xd [(f, v)]) := by
      funext b
      by_cases hb : b = d
      · rw [hb, upd_same, upd_same]
      · rw [upd_ne hb, upd_ne hb]
        by_cases hba : b = a
        · rw [hba, del_same, na]
        · rw [del_ne hba, upd_ne hba, upd_ne hb, upd_ne hba]
    rw [eH]
    have A := Alc.new (o := HO.xd [(f, v)]) s2.wd.sub hd
    have s3 := s2.wd.alc A
    exact q σ _ _ s3.wd ((s1.ff.trans s2.ff).trans A.ff) _ _ ⟨C, R.cn, rfl, fun z => (by cases z), fun _ => ⟨d, rfl, v, upd_same, R2.mono A.ff⟩⟩
end

/-! ### a value, or an exception -/
abbrev XS := Rho → Option (Exn × Rho)
def tMX (K : PySem.W.Frag) (Wx : WX) (m : M Vl) (x : XS) : TE := fun σ H Q => tM K m σ H Q ∨ ∃ G ρ F e ρ', Wd K G ρ σ H F ∧ x ρ = some (e, ρ') ∧ ∀ H' F', Wd K G ρ' σ H' F' → Same F F' → ∀ cls d, ExR K F' cls d e → Wx cls d σ H'
abbrev SEX (X : Cx) (Wx : WX) (e : Expr) (m : M Vl) (x : XS) : Prop := PE X e (tMX X.K Wx m x)
/-- s, and where it is not defined, the exception x -/
def sX (s : S) (x : XS) : S := fun ρ => match s ρ with
  | some z => some z
  | none => (x ρ).bind fun p => some (.ex p.1, p.2)
section
variable {X : Cx} {Wx : WX} {e : Expr} {me : M Vl} {x : XS} {pos : Pos} {i : Nat} {y : Str} {pos' : Pos}
theorem tsx_of {K : PySem.W.Frag} {s : S} {D : Ends} {σ : L2.St} {H : Hp} (h : tSW K Wx (sX s x) D σ H) : tSW K Wx s D σ H ∨ ∃ G ρ F e ρ', Wd K G ρ σ H F ∧ x ρ = some (e, ρ') ∧ ∀ H' F', Wd K G ρ' σ H' F' → Same F F' → ∀ cls d, ExR K F' cls d e → Wx cls d σ H' := by
  obtain ⟨G, ρ, F, fl, ρ', W, hm, q⟩ := h
  unfold sX at hm
  split at hm
  · rename_i z hz
    cases hm
    exact .inl ⟨G, ρ, F, fl, ρ', W, hz, q⟩
  · obtain ⟨⟨e, ρ1⟩, e1, hm⟩ := Option.bind_eq_some_iff.mp hm
    cases hm
    exact .inr ⟨G, ρ, F, e, ρ1, W, e1, fun H' F' W' ff => q σ H' F' W' ff⟩
theorem sret_of {K : PySem.W.Frag} {D : Ends} {σ : L2.St} {H : Hp} (h : tSW K Wx (sRet me) D σ H) : L2.tRet (tM K me) D σ H := by
  obtain ⟨G, ρ, F, fl, ρ', W, hm, q⟩ := h
  unfold sRet at hm
  obtain ⟨⟨r, ρ1⟩, e1, hm⟩ := Option.bind_eq_some_iff.mp hm
  refine ⟨G, ρ, F, r, ρ1, W, e1, fun v H1 F1 s1 R => ?_⟩
  cases r with
  | fz x => cases hm; exact q σ H1 F1 s1.wd s1.ff v R
  | fr xs =>
    cases hm
    obtain ⟨a, vs, e, h1, h2, h3, h4, _⟩ := R
    exact q σ H1 F1 s1.wd s1.ff v ⟨a, vs, e, h1, h2, h3, W.h0 h4⟩
  | bw i =>
    have R : σ[i]? = some (some v) := R
    dsimp only at hm
    split at hm
    · rename_i xs hx
      cases hm
      obtain ⟨a, vs, e2, h1, h2, h3, h4⟩ := s1.wd.sl i _ hx
      rw [R] at e2; cases e2
      exact q σ H1 F1 s1.wd s1.ff _ ⟨a, vs, rfl, h1, h2, h3, h4⟩
    · cases hm
theorem sdrop_of {K : PySem.W.Frag} {D : Ends} {σ : L2.St} {H : Hp} (h : tSW K Wx (sDrop me) D σ H) : L2.tDrop (tM K me) D σ H := by
  obtain ⟨G, ρ, F, fl, ρ', W, hm, q⟩ := h
  unfold sDrop at hm
  obtain ⟨⟨r, ρ1⟩, e1, hm⟩ := Option.bind_eq_some_iff.mp hm
  cases hm
  exact ⟨G, ρ, F, r, ρ1, W, e1, fun v H1 F1 s1 R => q σ H1 F1 s1.wd s1.ff⟩
theorem ss_setX (hN : X.N.Nodup) (hi : X.N[i]? = some y) (hx : Loc X.env.scope y) (he : SEX X Wx e me x) (hs : swapsWith e (some (.Name y pos')) pos.line X.env = pure false := by rfl) (hf : X.fn y = true ∨ X.env.scope.names.lookup y = some .local := by first | exact .inl rfl | exact .inr rfl | assumption) :
    SSW X Wx (.Assign [.Name y pos'] e pos) (sX (sAsg i me) x) := ps_weak (ps_set hN hi hx he hs hf) fun D σ H h => by
  rcases tsx_of h with h | h
  · exact .inl (sasg_of h)
  · exact .inr h
theorem ss_retX (he : SEX X Wx e me x) : SSW X Wx (.Return (some e) pos) (sX (sRet me) x) := ps_weak (ps_ret he) fun D σ H h => by
  rcases tsx_of h with h | h
  · exact .inl (sret_of h)
  · exact .inr h
theorem ss_exprX (he : SEX X Wx e me x) (hs : swapsWith e none pos.line X.env = pure false := by rfl) : SSW X Wx (.Expr e pos) (sX (sDrop me) x) := ps_weak (ps_expr he hs) fun D σ H h => by
  rcases tsx_of h with h | h
  · exact .inl (sdrop_of h)
  · exact .inr h
end

/-! ### a def that raises -/
abbrev XFn := List Ag → Option Exn
def isDa : Ag → Bool
  | .da _ => true
  | .li _ => false
theorem liA_da : ∀ {vs : List V} {gs : List Ag}, gs.all isDa = true → liA vs gs = []
  | [], _, _ => by unfold liA; rfl
  | v :: vs, [], _ => by cases v <;> rfl
  | v :: vs, .da x :: gs, h => by
    have h' : gs.all isDa = true := by simpa [isDa] using h
    have := liA_da (vs := vs) h'
    cases v <;> exact this
  | v :: vs, .li x :: gs, h => by simp [isDa] at h
def spFX (K : PySem.W.Frag) (n : Nat) (f : Fn) (xf : XFn) : Sp := fun vs H Q E => spF K n f vs H Q E ∨ (vs.length = n ∧ ∃ (F : Hp) (gs : List Ag) (x : Exn), Same F H ∧ AgsR K F H vs gs ∧ gs.all isDa = true ∧ xf gs = some x ∧
  ∀ cls d H' F', Same F F' → Same F' H' → (∀ b o, H b = some o → H' b = some o) → (∀ b, F' b ≠ none → F b ≠ none ∨ H b = none) → ExR K F' cls d x → E cls d H')
def fnE (n nl : Nat) (b : S) : XFn := fun gs => if gs.length = n ∧ gs.all isDa = true then (b (gs.map slOf ++ List.replicate (nl - n) .no)).bind fun p => (match p.1 with
  | .ex x => some x
  | _ => none) else none
theorem fnE_len {n nl : Nat} {b : S} : ∀ gs z, fnE n nl b gs = some z → gs.length = n := fun gs z h => by
  unfold fnE at h
  split at h
  · rename_i q; exact q.1
  · cases h
theorem fn_okX {P : Program} {w : World} {K : PySem.W.Frag} {mg : Str → Option Value} {base : Heap} {x qual : Str} {st : Stmt} {f : Addr} {fd : FuncData} {N ps : List Str} {k n nl : Nat} {m : S} (Fu : FunG K x qual st f fd) (Sc : FnScope N ps (defScope st)) (hn : ps.length = n) (hl : N.length = nl) (hle : n ≤ nl)
    (hb : ∀ (cdv : Value) (A : Around) (outer : List Env) (s : Shared) (H : Hp) (E : XK), Room k (A.deeper (envOfC qual (defScope st) s.heap.objs.size f cdv)) → SBW (cxOf (L2N.CX P w) P w K mg base N qual (defScope st) f cdv A outer s H E) (fun cls d _ H => E cls d H) (defBody st) m) :
    FnOk P w K mg base (L2N.CX P w) (k + 1) f fd ps (spFX K n (fnS n nl m) (fnE n nl m)) := by
  refine fun_okN Fu Sc (fun vs H Q E h => by rcases h with h | h <;> rw [h.1, hn]) (fun cdv A outer s H vs Q E hr h => ?_)
  refine ⟨_, hb cdv A outer s H E hr, ?_⟩
  rcases h with h | h
  · obtain ⟨hv, F, gs, r, os, sub, AR, nd, hf, q⟩ := h
    unfold fnS at hf
    split at hf
    · rename_i hgs
      obtain ⟨⟨fl, ρ'⟩, e1, hf⟩ := Option.bind_eq_some_iff.mp hf
      have W := wd_start AR nd sub hgs hl hle
      have snd := iaOf_snd 0 AR
      have le : gs.length ≤ (gs.map slOf ++ List.replicate (nl - n) Sl.no).length := by rw [List.length_append, List.length_map]; omega
      have outs : ∀ {σ' : L2.St} {H' F' : Hp}, Wd K ⟨H, F, iaOf 0 vs gs, nl⟩ ρ' σ' H' F' → σ'.length = nl → OutsR K F' H' (liA vs gs) (outsOf gs ρ') := fun {σ' H' F'} W' hσ => by
        refine outs_ok (G := ⟨H, F, iaOf 0 vs gs, nl⟩) (σ := σ') 0 AR (fun i s' e => by rw [Nat.zero_add]; exact W'.sl i s' e) (fun i a xs h1 h2 => ?_) ?_
        · have := mem_iaOf 0 AR h1 h2
          have z := W'.ai _ _ this
          rw [Nat.zero_add] at z
          exact ⟨z.1, by rw [Nat.zero_add]; exact z.2⟩
        · have := W'.len
          omega
      refine ⟨⟨H, F, iaOf 0 vs gs, nl⟩, _, F, fl, ρ', W, e1, fun σ' H' F' W' ff => ?_⟩
      have kp : ∀ b o, H b = some o → b ∉ liA vs gs → H' b = some o := fun b o h h2 => W'.kp b o h (by rw [snd]; exact h2)
      have hσ : σ'.length = nl := W'.gl
      cases fl with
      | nx => cases hf; exact q _ H' F' ff W'.sub kp W'.nw (outs W' hσ) .non
      | bk => cases hf
      | ct => cases hf
      | ex x => cases hf
      | rt z =>
        cases z with
        | fz y => cases hf; exact fun v R => q v H' F' ff W'.sub kp W'.nw (outs W' hσ) R
        | fr y => cases hf; exact fun v R => q v H' F' ff W'.sub kp W'.nw (outs W' hσ) R
        | bw y => cases hf
    · cases hf
  · obtain ⟨hv, F, gs, x, sub, AR, da, hf, q⟩ := h
    unfold fnE at hf
    split at hf
    · rename_i hgs
      obtain ⟨⟨fl, ρ'⟩, e1, hf⟩ := Option.bind_eq_some_iff.mp hf
      have li0 : liA vs gs = [] := liA_da da
      have W := wd_start AR (by rw [li0]; exact List.nodup_nil) sub hgs.1 hl hle
      have snd := iaOf_snd 0 AR
      rw [li0] at snd
      refine ⟨⟨H, F, iaOf 0 vs gs, nl⟩, _, F, fl, ρ', W, e1, fun σ' H' F' W' ff => ?_⟩
      cases fl with
      | ex y =>
        cases hf
        exact fun cls d R => q cls d H' F' ff W'.sub (fun b o h => W'.kp b o h (by rw [snd]; exact List.not_mem_nil)) W'.nw R
      | nx => cases hf
      | bk => cases hf
      | ct => cases hf
      | rt z => cases hf
    · cases hf
theorem fn_okX0 {P : Program} {w : World} {K : PySem.W.Frag} {mg : Str → Option Value} {base : Heap} {x qual : Str} {st : Stmt} {f : Addr} {fd : FuncData} {N ps : List Str} {k n : Nat} (Fu : FunG K x qual st f fd) (Sc : FnScope N ps (defScope st)) (hn : ps.length = n) :
    FnOk P w K mg base (L2N.CX P w) (k + 1) f fd ps (spFX K n (fun _ => none) fun _ => none) := by
  refine fun_okN Fu Sc (fun vs H Q E h => by rcases h with h | h <;> rw [h.1, hn]) (fun cdv A outer s H vs Q E hr h => ?_)
  rcases h with ⟨hv, F, gs, r, os, sub, AR, nd, hf, q⟩ | ⟨hv, F, gs, x, sub, AR, da, hf, q⟩ <;> cases hf
/-- the call's exception -/
def eCallX (xf : XFn) (fs : List Bool) (a : M (List Vl)) : XS := fun ρ => (a ρ).bind fun p => (ag1 fs p.1 p.2).bind fun q => (ag2 q.2 q.1).bind fun gs => if gs.all isDa = true ∧ agI q.1 = [] then (xf gs).bind fun x => some (x, q.2) else none
section
variable {X : Cx} {Wx : WX} {f : Fn} {xf : XFn} {fs : List Bool} {ms : M (List Vl)} {n k : Nat} {fa : Addr} {fd : FuncData} {ps : List Str} {x : Str} {e : Expr} {es : List Expr} {p pos : Pos}
theorem tcallX_of {K : PySem.W.Frag} (hn : ∀ gs z, f gs = some z → gs.length = n) (hx : ∀ gs z, xf gs = some z → gs.length = n) {σ : L2.St} {H : Hp} {Q : VK} (h : tMX K Wx (eCall f fs ms) (eCallX xf fs ms) σ H Q) : tCallS (spFX K n f xf) (WE Wx) (tMA K ms) σ H Q := by
  rcases h with ⟨G, ρ, F, r0, ρ', W, hm, q⟩ | ⟨G, ρ, F, ex, ρ', W, hm, q⟩
  · obtain ⟨rs, ρ1, e1, w⟩ := tcall_core (E := WE Wx σ) hn W hm q
    exact ⟨G, ρ, F, rs, ρ1, W, e1, fun vs H1 F1 s1 R1 => .inl (w vs H1 F1 s1 R1)⟩
  · unfold eCallX at hm
    obtain ⟨⟨rs, ρ1⟩, e1, hm⟩ := Option.bind_eq_some_iff.mp hm
    obtain ⟨⟨ts, ρ2⟩, e2, hm⟩ := Option.bind_eq_some_iff.mp hm
    obtain ⟨gs, e3, hm⟩ := Option.bind_eq_some_iff.mp hm
    split at hm
    · rename_i da
      obtain ⟨x, e4, hm⟩ := Option.bind_eq_some_iff.mp hm
      cases hm
      refine ⟨G, ρ, F, rs, ρ1, W, e1, fun vs H1 F1 s1 R1 => .inr ?_⟩
      obtain ⟨F2, s2, R2⟩ := ag1_ok s1.wd R1 e2
      obtain ⟨A1, A2, A3⟩ := ag2_ok s2.wd R2 e3
      have s12 := s1.trans s2
      have li0 : liA vs gs = [] := liA_da da.1
      refine ⟨by rw [A1.len]; exact hx _ _ e4, F2, gs, ex, s2.wd.sub, A1, da.1, e4, fun cls d H' F' ff sub kp nf R => ?_⟩
      have s3 := after_call (is := []) (as := []) (os := []) s2.wd List.nodup_nil rfl (fun k i a h _ => by simp at h) ff sub (fun b o h _ => kp b o h) nf trivial
      exact q H' F' s3.wd (s12.ff.trans ff) cls d R
    · cases hm
theorem se_callX (tk : L2N.Takes X Wx) (F : FnOk X.prog X.w X.K X.mg X.base (L2N.CX X.prog X.w) k fa fd ps (spFX X.K n f xf)) (hn : ∀ gs z, f gs = some z → gs.length = n) (hx : ∀ gs z, xf gs = some z → gs.length = n) (hr : Room k X.A) (hm : X.mg x = some (.ref fa)) (hk : PySem.W.keepIn X.K (.ref fa) = true) (hb : Binds X.K fd ps []) (hg : Gl X x)
    (ha : SA X (e :: es) ms) (hdb : (x == ("__debug__" : Str)) = false := by decide) (he : starEach (e :: es) X.env = (false, eval e X.env) :: starEach es X.env := by rfl) (hpl : (backTo pos (starEach es X.env)).any (·.1) = false := by rfl) :
    SEX X Wx (.Call (.Name x p) (e :: es) [] pos) (eCall f fs ms) (eCallX xf fs ms) := pe_weak (pe_callS F hr hg hm hk hb (fun σ => L2N.passAt tk σ) ha hdb he hpl) fun _ _ _ h => tcallX_of hn hx h
/-- a call that surely does not raise -/
theorem se_callN (F : FnOk X.prog X.w X.K X.mg X.base (L2N.CX X.prog X.w) k fa fd ps (spFX X.K n f xf)) (hn : ∀ gs z, f gs = some z → gs.length = n) (hr : Room k X.A) (hm : X.mg x = some (.ref fa)) (hk : PySem.W.keepIn X.K (.ref fa) = true) (hb : Binds X.K fd ps []) (hg : Gl X x)
    (ha : SA X (e :: es) ms) (hdb : (x == ("__debug__" : Str)) = false := by decide) (he : starEach (e :: es) X.env = (false, eval e X.env) :: starEach es X.env := by rfl) (hpl : (backTo pos (starEach es X.env)).any (·.1) = false := by rfl) :
    SE X (.Call (.Name x p) (e :: es) [] pos) (eCall f fs ms) := pe_weak (pe_call F hr hg hm hk hb .nil passLN ha hdb he hpl) fun σ H Q ⟨G, ρ, F, r0, ρ', W, hm, q⟩ => by
  obtain ⟨rs, ρ1, e1, w⟩ := tcall_core (E := E0) hn W hm q
  exact ⟨G, ρ, F, rs, ρ1, W, e1, fun vs H1 F1 s1 R1 => by show spFX X.K n f xf (vs ++ []) H1 Q E0; rw [List.append_nil]; exact .inl (w vs H1 F1 s1 R1)⟩
end
end Sw
/-! Sw27: try .. except C as e, isinstance of a caught exception. -/
namespace Sw
open PySem PySem.Spec PyProof.Rows L2

/-- two runs that differ in the address of the caught exception alone -/
def UM (i : Nat) (s0 s1 : Sl) {α : Type} (m0 m1 : M α) : Prop := ∀ ρ r ρ1, ρ[i]? = some s0 → m0 ρ = some (r, ρ1) → ρ1[i]? = some s0 ∧ m1 (ρ.set i s1) = some (r, ρ1.set i s1)
section
variable {i j : Nat} {a dx : Addr} {f : Option (PySem.Str × D)} {α : Type}
theorem set_ne {ρ : Rho} {s : Sl} (h : j ≠ i) : (ρ.set i s)[j]? = ρ[j]? := List.getElem?_set_ne (Ne.symm h)
theorem um_var (h : j ≠ i) : UM i (.xa 0 0 f) (.xa a dx f) (eVar j) (eVar j) := fun ρ r ρ1 h0 e => by
  unfold eVar at e ⊢
  rw [set_ne h]
  split at e <;> cases e
  · exact ⟨h0, rfl⟩
  · exact ⟨h0, rfl⟩
  · exact ⟨h0, rfl⟩
theorem um_c {x : D} : UM i (.xa 0 0 f) (.xa a dx f) (eC x) (eC x) := fun ρ r ρ1 h0 e => by
  cases e
  exact ⟨h0, rfl⟩
variable {b b' c c' : M Vl} {t t' u u' : M Bool} {s s' v v' : S}
theorem um_and (h1 : UM i (.xa 0 0 f) (.xa a dx f) b b') (h2 : UM i (.xa 0 0 f) (.xa a dx f) c c') : UM i (.xa 0 0 f) (.xa a dx f) (eAnd b c) (eAnd b' c') := fun ρ r ρ1 h0 e => by
  unfold eAnd at e ⊢
  obtain ⟨⟨x, ρ2⟩, e1, e⟩ := Option.bind_eq_some_iff.mp e
  obtain ⟨k, e2⟩ := h1 ρ x ρ2 h0 e1
  rw [e2]
  dsimp only [Option.bind_some] at e ⊢
  split at e
  · exact h2 ρ2 r ρ1 k e
  · cases e; exact ⟨k, rfl⟩
  · cases e
theorem um_or (h1 : UM i (.xa 0 0 f) (.xa a dx f) b b') (h2 : UM i (.xa 0 0 f) (.xa a dx f) c c') : UM i (.xa 0 0 f) (.xa a dx f) (eOr b c) (eOr b' c') := fun ρ r ρ1 h0 e => by
  unfold eOr at e ⊢
  obtain ⟨⟨x, ρ2⟩, e1, e⟩ := Option.bind_eq_some_iff.mp e
  obtain ⟨k, e2⟩ := h1 ρ x ρ2 h0 e1
  rw [e2]
  dsimp only [Option.bind_some] at e ⊢
  split at e
  · exact h2 ρ2 r ρ1 k e
  · cases e; exact ⟨k, rfl⟩
  · cases e
theorem um_not (h1 : UM i (.xa 0 0 f) (.xa a dx f) b b') : UM i (.xa 0 0 f) (.xa a dx f) (eNot b) (eNot b') := fun ρ r ρ1 h0 e => by
  unfold eNot at e ⊢
  obtain ⟨⟨x, ρ2⟩, e1, e⟩ := Option.bind_eq_some_iff.mp e
  obtain ⟨k, e2⟩ := h1 ρ x ρ2 h0 e1
  rw [e2]
  dsimp only [Option.bind_some] at e ⊢
  split at e
  · cases e; exact ⟨k, rfl⟩
  · cases e
theorem um_tE (h1 : UM i (.xa 0 0 f) (.xa a dx f) b b') : UM i (.xa 0 0 f) (.xa a dx f) (tE b) (tE b') := fun ρ r ρ1 h0 e => by
  unfold tE at e ⊢
  obtain ⟨⟨x, ρ2⟩, e1, e⟩ := Option.bind_eq_some_iff.mp e
  obtain ⟨k, e2⟩ := h1 ρ x ρ2 h0 e1
  rw [e2]
  dsimp only [Option.bind_some] at e ⊢
  split at e
  · cases e; exact ⟨k, rfl⟩
  · cases e
theorem um_tAnd (h1 : UM i (.xa 0 0 f) (.xa a dx f) t t') (h2 : UM i (.xa 0 0 f) (.xa a dx f) u u') : UM i (.xa 0 0 f) (.xa a dx f) (tAnd t u) (tAnd t' u') := fun ρ r ρ1 h0 e => by
  unfold tAnd at e ⊢
  obtain ⟨⟨x, ρ2⟩, e1, e⟩ := Option.bind_eq_some_iff.mp e
  obtain ⟨k, e2⟩ := h1 ρ x ρ2 h0 e1
  rw [e2]
  dsimp only [Option.bind_some] at e ⊢
  split at e
  · rename_i hx; rw [if_pos hx]; exact h2 ρ2 r ρ1 k e
  · rename_i hx; rw [if_neg hx]; cases e; exact ⟨k, rfl⟩
theorem um_tOr (h1 : UM i (.xa 0 0 f) (.xa a dx f) t t') (h2 : UM i (.xa 0 0 f) (.xa a dx f) u u') : UM i (.xa 0 0 f) (.xa a dx f) (tOr t u) (tOr t' u') := fun ρ r ρ1 h0 e => by
  unfold tOr at e ⊢
  obtain ⟨⟨x, ρ2⟩, e1, e⟩ := Option.bind_eq_some_iff.mp e
  obtain ⟨k, e2⟩ := h1 ρ x ρ2 h0 e1
  rw [e2]
  dsimp only [Option.bind_some] at e ⊢
  split at e
  · rename_i hx; rw [if_pos hx]; cases e; exact ⟨k, rfl⟩
  · rename_i hx; rw [if_neg hx]; exact h2 ρ2 r ρ1 k e
theorem um_tNot (h1 : UM i (.xa 0 0 f) (.xa a dx f) t t') : UM i (.xa 0 0 f) (.xa a dx f) (tNot t) (tNot t') := fun ρ r ρ1 h0 e => by
  unfold tNot at e ⊢
  obtain ⟨⟨x, ρ2⟩, e1, e⟩ := Option.bind_eq_some_iff.mp e
  obtain ⟨k, e2⟩ := h1 ρ x ρ2 h0 e1
  rw [e2]
  cases e
  exact ⟨k, rfl⟩
theorem um_if (h1 : UM i (.xa 0 0 f) (.xa a dx f) t t') (h2 : UM i (.xa 0 0 f) (.xa a dx f) s s') (h3 : UM i (.xa 0 0 f) (.xa a dx f) v v') : UM i (.xa 0 0 f) (.xa a dx f) (sIf t s v) (sIf t' s' v') := fun ρ r ρ1 h0 e => by
  unfold sIf at e ⊢
  obtain ⟨⟨x, ρ2⟩, e1, e⟩ := Option.bind_eq_some_iff.mp e
  obtain ⟨k, e2⟩ := h1 ρ x ρ2 h0 e1
  rw [e2]
  dsimp only [Option.bind_some] at e ⊢
  split at e
  · rename_i hx; rw [if_pos hx]; exact h2 ρ2 r ρ1 k e
  · rename_i hx; rw [if_neg hx]; exact h3 ρ2 r ρ1 k e
theorem um_seq (h1 : UM i (.xa 0 0 f) (.xa a dx f) s s') (h2 : UM i (.xa 0 0 f) (.xa a dx f) v v') : UM i (.xa 0 0 f) (.xa a dx f) (sSeq s v) (sSeq s' v') := fun ρ r ρ1 h0 e => by
  unfold sSeq at e ⊢
  obtain ⟨⟨x, ρ2⟩, e1, e⟩ := Option.bind_eq_some_iff.mp e
  obtain ⟨k, e2⟩ := h1 ρ x ρ2 h0 e1
  rw [e2]
  dsimp only [Option.bind_some] at e ⊢
  cases x with
  | nx => exact h2 ρ2 r ρ1 k e
  | bk => cases e; exact ⟨k, rfl⟩
  | ct => cases e; exact ⟨k, rfl⟩
  | rt y => cases e; exact ⟨k, rfl⟩
  | ex y => cases e; exact ⟨k, rfl⟩
theorem um_nx : UM i (.xa 0 0 f) (.xa a dx f) sNx sNx := fun ρ r ρ1 h0 e => by
  cases e
  exact ⟨h0, rfl⟩
theorem um_ret (h1 : UM i (.xa 0 0 f) (.xa a dx f) b b') : UM i (.xa 0 0 f) (.xa a dx f) (sRet b) (sRet b') := fun ρ r ρ1 h0 e => by
  unfold sRet at e ⊢
  obtain ⟨⟨x, ρ2⟩, e1, e⟩ := Option.bind_eq_some_iff.mp e
  obtain ⟨k, e2⟩ := h1 ρ x ρ2 h0 e1
  rw [e2]
  dsimp only [Option.bind_some] at e ⊢
  cases x with
  | fz y => cases e; exact ⟨k, rfl⟩
  | fr y => cases e; exact ⟨k, rfl⟩
  | bw j =>
    dsimp only at e ⊢
    by_cases ne : j = i
    · subst ne
      rw [k] at e
      cases e
    · rw [set_ne ne]
      split at e
      · cases e; exact ⟨k, rfl⟩
      · cases e
theorem um_frz {ρ ρ1 : Rho} {r : Vl} {x : D} (h0 : ρ[i]? = some (.xa 0 0 f)) (e : frz ρ r = some (x, ρ1)) : ρ1[i]? = some (.xa 0 0 f) ∧ frz (ρ.set i (.xa a dx f)) r = some (x, ρ1.set i (.xa a dx f)) := by
  cases r with
  | fz y => cases e; exact ⟨h0, rfl⟩
  | fr y => cases e; exact ⟨h0, rfl⟩
  | bw j =>
    unfold frz at e ⊢
    by_cases ne : j = i
    · subst ne
      dsimp only at e
      rw [h0] at e
      cases e
    · dsimp only at e ⊢
      rw [set_ne ne]
      split at e
      · cases e
        exact ⟨by rw [List.getElem?_set_ne ne]; exact h0, by rw [List.set_comm _ _ (Ne.symm ne)]⟩
      · cases e
theorem um_asg {k : Nat} (hk : k ≠ i) (h1 : UM i (.xa 0 0 f) (.xa a dx f) b b') : UM i (.xa 0 0 f) (.xa a dx f) (sAsg k b) (sAsg k b') := fun ρ r ρ1 h0 e => by
  unfold sAsg at e ⊢
  obtain ⟨⟨x, ρ2⟩, e1, e⟩ := Option.bind_eq_some_iff.mp e
  obtain ⟨ρ3, e3, e⟩ := Option.bind_eq_some_iff.mp e
  obtain ⟨k1, e2⟩ := h1 ρ x ρ2 h0 e1
  rw [e2]
  cases e
  have key : ρ1[i]? = some (.xa 0 0 f) ∧ asg k x (ρ2.set i (.xa a dx f)) = some (ρ1.set i (.xa a dx f)) := by
    dsimp only at e3
    unfold asg at e3 ⊢
    rw [set_ne hk]
    split at e3
    · cases e3
    · cases e3
    · cases x with
      | fz y => cases e3; exact ⟨by rw [List.getElem?_set_ne hk]; exact k1, by dsimp only; rw [List.set_comm _ _ (Ne.symm hk)]⟩
      | fr y => cases e3; exact ⟨by rw [List.getElem?_set_ne hk]; exact k1, by dsimp only; rw [List.set_comm _ _ (Ne.symm hk)]⟩
      | bw j =>
        obtain ⟨⟨y, ρ4⟩, e4, e3⟩ := Option.bind_eq_some_iff.mp e3
        obtain ⟨k2, e5⟩ := um_frz (a := a) (dx := dx) k1 e4
        cases e3
        exact ⟨by rw [List.getElem?_set_ne hk]; exact k2, by dsimp only; rw [e5]; dsimp only [Option.bind_some]; rw [List.set_comm _ _ (Ne.symm hk)]⟩
  obtain ⟨q1, q2⟩ := key
  refine ⟨q1, ?_⟩
  dsimp only [Option.bind_some]
  rw [q2]
  rfl
/-- isinstance(e, ..), e the caught exception: o the answer; hf: it has a field -/
def eIsx (i : Nat) (a dx : Addr) (hf : Bool) (o : Option Bool) : M Vl := fun ρ => match ρ[i]? with
  | some (.xa b dy f) => if b = a ∧ dy = dx ∧ f.isSome = hf then o.bind fun c => some (.fz (.bl c), ρ) else none
  | _ => none
theorem um_isx {o : Option Bool} {hf : Bool} : UM i (.xa 0 0 f) (.xa a dx f) (eIsx i 0 0 hf o) (eIsx i a dx hf o) := fun ρ r ρ1 h0 e => by
  unfold eIsx at e ⊢
  have hi : i < ρ.length := (List.getElem?_eq_some_iff.mp h0).1
  rw [h0] at e
  dsimp only at e
  split at e
  · rename_i hc
    rw [List.getElem?_set_self hi]
    dsimp only
    rw [if_pos ⟨rfl, rfl, hc.2.2⟩]
    obtain ⟨c, e1, e⟩ := Option.bind_eq_some_iff.mp e
    cases e
    rw [e1]
    exact ⟨h0, rfl⟩
  · cases e
/-- e.k -/
def eFldX (i : Nat) (a dx : Addr) (hf : Bool) (k : PySem.Str) : M Vl := fun ρ => match ρ[i]? with
  | some (.xa b dy (some (n, y))) => if b = a ∧ dy = dx ∧ n = k ∧ hf = true then some (.fz y, ρ) else none
  | _ => none
theorem um_fldx {k : PySem.Str} {hf : Bool} : UM i (.xa 0 0 f) (.xa a dx f) (eFldX i 0 0 hf k) (eFldX i a dx hf k) := fun ρ r ρ1 h0 e => by
  unfold eFldX at e ⊢
  have hi : i < ρ.length := (List.getElem?_eq_some_iff.mp h0).1
  rw [h0] at e
  rw [List.getElem?_set_self hi]
  cases f with
  | none => cases e
  | some p =>
    obtain ⟨n, y⟩ := p
    dsimp only at e ⊢
    split at e
    · rename_i hc
      rw [if_pos ⟨rfl, rfl, hc.2.2⟩]
      cases e
      exact ⟨h0, rfl⟩
    · cases e
theorem um_look {ρ : Rho} {r : Vl} {x : D} (h0 : ρ[i]? = some (.xa 0 0 f)) (e : look ρ r = some x) : look (ρ.set i (.xa a dx f)) r = some x := by
  cases r with
  | fz y => exact e
  | fr y => exact e
  | bw j =>
    unfold look at e ⊢
    by_cases ne : j = i
    · subst ne
      dsimp only at e
      rw [h0] at e
      cases e
    · dsimp only at e ⊢
      rw [set_ne ne]
      exact e
theorem um_bin {g : D → D → Option D} (h1 : UM i (.xa 0 0 f) (.xa a dx f) b b') (h2 : UM i (.xa 0 0 f) (.xa a dx f) c c') : UM i (.xa 0 0 f) (.xa a dx f) (eBin g b c) (eBin g b' c') := fun ρ r ρ1 h0 e => by
  unfold eBin at e ⊢
  obtain ⟨⟨x, ρ2⟩, e1, e⟩ := Option.bind_eq_some_iff.mp e
  obtain ⟨⟨y, ρ3⟩, e2, e⟩ := Option.bind_eq_some_iff.mp e
  obtain ⟨dx', e3, e⟩ := Option.bind_eq_some_iff.mp e
  obtain ⟨dy, e4, e⟩ := Option.bind_eq_some_iff.mp e
  obtain ⟨dz, e5, e⟩ := Option.bind_eq_some_iff.mp e
  obtain ⟨k, q1⟩ := h1 ρ x ρ2 h0 e1
  obtain ⟨k2, q2⟩ := h2 ρ2 y ρ3 k e2
  cases e
  rw [q1]; dsimp only [Option.bind_some]; rw [q2]; dsimp only [Option.bind_some]
  rw [um_look k2 e3]; dsimp only [Option.bind_some]; rw [um_look k2 e4]; dsimp only [Option.bind_some]
  rw [e5]
  exact ⟨k2, rfl⟩
theorem um_un {g : D → Option D} (h1 : UM i (.xa 0 0 f) (.xa a dx f) b b') : UM i (.xa 0 0 f) (.xa a dx f) (eUn g b) (eUn g b') := fun ρ r ρ1 h0 e => by
  unfold eUn at e ⊢
  obtain ⟨⟨x, ρ2⟩, e1, e⟩ := Option.bind_eq_some_iff.mp e
  obtain ⟨dx', e3, e⟩ := Option.bind_eq_some_iff.mp e
  obtain ⟨dz, e5, e⟩ := Option.bind_eq_some_iff.mp e
  obtain ⟨k, q1⟩ := h1 ρ x ρ2 h0 e1
  cases e
  rw [q1]; dsimp only [Option.bind_some]
  rw [um_look k e3]; dsimp only [Option.bind_some]
  rw [e5]
  exact ⟨k, rfl⟩
variable {l l' : M (List Vl)}
theorem um_nil : UM i (.xa 0 0 f) (.xa a dx f) aNil aNil := fun ρ r ρ1 h0 e => by
  cases e
  exact ⟨h0, rfl⟩
theorem um_cons (h1 : UM i (.xa 0 0 f) (.xa a dx f) b b') (h2 : UM i (.xa 0 0 f) (.xa a dx f) l l') : UM i (.xa 0 0 f) (.xa a dx f) (aCons b l) (aCons b' l') := fun ρ r ρ1 h0 e => by
  unfold aCons at e ⊢
  obtain ⟨⟨x, ρ2⟩, e1, e⟩ := Option.bind_eq_some_iff.mp e
  obtain ⟨⟨xs, ρ3⟩, e2, e⟩ := Option.bind_eq_some_iff.mp e
  obtain ⟨k, q1⟩ := h1 ρ x ρ2 h0 e1
  obtain ⟨k2, q2⟩ := h2 ρ2 xs ρ3 k e2
  cases e
  rw [q1]; dsimp only [Option.bind_some]; rw [q2]
  exact ⟨k2, rfl⟩
theorem um_ag1 : ∀ {fs : List Bool} {rs : List Vl} {ρ ρ1 : Rho} {ts : List (D ⊕ Nat)}, ρ[i]? = some (.xa 0 0 f) → ag1 fs rs ρ = some (ts, ρ1) → ρ1[i]? = some (.xa 0 0 f) ∧ ag1 fs rs (ρ.set i (.xa a dx f)) = some (ts, ρ1.set i (.xa a dx f))
  | fs, [], ρ, ρ1, ts, h0, e => by
    unfold ag1 at e ⊢
    cases e
    exact ⟨h0, rfl⟩
  | fs, r :: rs, ρ, ρ1, ts, h0, e => by
    unfold ag1 at e ⊢
    split at e
    · rename_i hf
      rw [if_pos hf]
      cases r with
      | bw j =>
        obtain ⟨⟨us, ρ2⟩, e1, e⟩ := Option.bind_eq_some_iff.mp e
        obtain ⟨k, q⟩ := um_ag1 h0 e1
        cases e
        dsimp only
        rw [q]
        exact ⟨k, rfl⟩
      | fz y => cases e
      | fr y => cases e
    · rename_i hf
      rw [if_neg hf]
      obtain ⟨⟨x, ρ2⟩, e1, e⟩ := Option.bind_eq_some_iff.mp e
      obtain ⟨⟨us, ρ3⟩, e2, e⟩ := Option.bind_eq_some_iff.mp e
      obtain ⟨k, q⟩ := um_frz (a := a) (dx := dx) h0 e1
      obtain ⟨k2, q2⟩ := um_ag1 k e2
      cases e
      rw [q]; dsimp only [Option.bind_some]; rw [q2]
      exact ⟨k2, rfl⟩
theorem um_ag2 {ρ : Rho} (h0 : ρ[i]? = some (.xa 0 0 f)) : ∀ {ts : List (D ⊕ Nat)} {gs : List Ag}, ag2 ρ ts = some gs → agI ts = [] → ag2 (ρ.set i (.xa a dx f)) ts = some gs
  | [], gs, e, _ => by unfold ag2 at e ⊢; exact e
  | .inl x :: r, gs, e, n => by
    unfold ag2 at e ⊢
    obtain ⟨gs', e1, e⟩ := Option.bind_eq_some_iff.mp e
    cases e
    rw [um_ag2 h0 e1 (by unfold agI at n; exact n)]
    rfl
  | .inr j :: r, gs, e, n => by unfold agI at n; cases n
/-- a call of a def that only reads data -/
def eCall0 (g : Fn) (m : M (List Vl)) : M Vl := fun ρ => (m ρ).bind fun p => (ag1 [] p.1 p.2).bind fun q => (ag2 q.2 q.1).bind fun gs => if agI q.1 = [] then (g gs).bind fun z => match z.1 with
  | .fz x => some (.fz x, q.2)
  | _ => none else none
theorem um_call {g : Fn} (h1 : UM i (.xa 0 0 f) (.xa a dx f) l l') : UM i (.xa 0 0 f) (.xa a dx f) (eCall0 g l) (eCall0 g l') := fun ρ r ρ1 h0 e => by
  unfold eCall0 at e ⊢
  obtain ⟨⟨xs, ρ2⟩, e1, e⟩ := Option.bind_eq_some_iff.mp e
  obtain ⟨⟨ts, ρ3⟩, e2, e⟩ := Option.bind_eq_some_iff.mp e
  obtain ⟨gs, e3, e⟩ := Option.bind_eq_some_iff.mp e
  obtain ⟨k, q1⟩ := h1 ρ xs ρ2 h0 e1
  obtain ⟨k2, q2⟩ := um_ag1 (a := a) (dx := dx) k e2
  split at e
  · rename_i hn
    obtain ⟨z, e4, e⟩ := Option.bind_eq_some_iff.mp e
    rw [q1]; dsimp only [Option.bind_some]; rw [q2]; dsimp only [Option.bind_some]; rw [um_ag2 k2 e3 hn]; dsimp only [Option.bind_some]
    rw [if_pos hn, e4]
    dsimp only [Option.bind_some]
    split at e
    · cases e; exact ⟨k2, rfl⟩
    · cases e
  · cases e
end

/-- a, b = f(..), f a def that raises -/
theorem ss_asgTX {X : Cx} {Wx : WX} {tg e : Expr} {me : M Vl} {x : XS} {is : List Nat} {g : D → Rho → Option Rho} {pos : Pos} (he : SEX X Wx e me x) (hg : SG X tg is g) (hs : swapsWithSole [tg] e pos.line X.env = pure false := by rfl) (hw : swappedStores [tg] e X.env = pure none := by rfl)
    (h1 : (assignEach [tg] X.env).map (·.2) = [assign tg X.env] := by rfl) : SSW X Wx (.Assign [tg] e pos) (sX (sAsgT me g) x) := by
  refine ps_weak (ps_asg he hg hs hw h1) fun D σ H h => ?_
  rcases tsx_of h with ⟨G, ρ, F, fl, ρ', W, hm, q⟩ | h
  · unfold sAsgT at hm
    obtain ⟨⟨r, ρ1⟩, e1, hm⟩ := Option.bind_eq_some_iff.mp hm
    refine .inl ⟨G, ρ, F, r, ρ1, W, e1, fun v H1 F1 s1 R => ?_⟩
    split at hm
    · rename_i x hx
      dsimp only at hx
      subst hx
      obtain ⟨ρ2, e2, hm⟩ := Option.bind_eq_some_iff.mp hm
      cases hm
      exact ⟨G, ρ1, F1, x, _, s1.wd, R, e2, fun σ2 W2 _ => q σ2 H1 F1 W2 s1.ff⟩
    · cases hm
  · exact .inr h

/-! ### try -/
def sTry (i : Nat) (ca : Exn → Option Bool) (b : S) (su : Addr → Addr → Exn → S) : S := fun ρ => (b ρ).bind fun p => match p.1 with
  | .ex e => match p.2[i]? with
    | some .no => (ca e).bind fun c => if c = true then (su 0 0 e (p.2.set i (.xa 0 0 e.f))).bind fun q => (match q.1 with
      | .ex _ => none
      | fl => some (fl, q.2.set i .no)) else some (.ex e, p.2)
    | _ => none
  | fl => some (fl, p.2)
theorem wd_unset {K : PySem.W.Frag} {G : Gd} {ρ : Rho} {σ : L2.St} {H F : Hp} {i : Nat} {s0 : Sl} (W : Wd K G ρ σ H F) (h0 : ρ[i]? = some s0) (nio : ∀ xs, s0 ≠ .io xs) : Wd K G (ρ.set i .no) (σ.set i none) H F := by
  have h := wd_wipe (vs := [i]) (σ' := σ.set i none) W (fun j hj => List.getElem?_set_ne (fun e => hj (by rw [e]; exact List.mem_cons_self))) (by rw [List.length_set]) (fun v hv s e xs z => by
    cases hv with
    | head => rw [h0] at e; cases e; exact nio xs z
    | tail _ h => cases h)
  exact h
section
variable {X : Cx} {Wx : WX} {x n : Str} {c : Value} {i : Nat} {body suite : List Stmt} {b₀ : Stmt} {np pos pos' : Pos} {mb : S} {su : Addr → Addr → Exn → S} {ca : Exn → Option Bool}
theorem ss_try (hs : X.stack = X.env :: X.outer) (hf : X.env.frame = some X.env.locals) (hN : X.N.Nodup) (hi : X.N[i]? = some n) (hln : X.env.kindOf n = some .local) (hc : Names X x c) (tk : L2N.Takes X Wx)
    (hca : ∀ e b C, ca e = some b → ClsN X.K e.c C → PySem.W.exmOne X.K (.ref C) c = some b)
    (uni : ∀ a dx e, UM i (.xa 0 0 e.f) (.xa a dx e.f) (su 0 0 e) (su a dx e))
    (hb : ∀ (W : WX) (pn : List (Addr × Obj)) (xe : Value → Shared → Prop), L2N.Takes (X.tr pn xe) W → PassesOwn (model X.prog X.w) X.A X.env xe → SBW (X.tr pn xe) W body mb)
    (hsu : ∀ (a C dx : Addr) (oe : Obj) (d : Option Addr) (pn : List (Addr × Obj)) (e : Exn), ca e = some true → ClsN X.K e.c C → (e.f = none → d = none) → (e.f ≠ none → d = some dx) → L2N.Zn (.ref C) d oe → (∃ vs, oe.data = .fields vs) → SBW (X.suite a ((a, oe) :: pn)) WF (b₀ :: suite) (su a dx e)) :
    SSW X Wx (.Try body [.ExceptHandler (some (.Name x np)) (some n) (b₀ :: suite) pos'] [] [] pos) (sTry i ca mb su) := by
  refine ps_weak (L2N.ps_try_as (tb := fun W => tSW X.K W mb) (ts := fun a cls d D σ H => ∃ (e : Exn) (C dx : Addr), ca e = some true ∧ ClsN X.K e.c C ∧ cls = .ref C ∧ (e.f = none → d = none) ∧ (e.f ≠ none → d = some dx) ∧ tSW X.K WF (su a dx e) D σ H) (Wout := Wx) (c := c)
    hs hf hN hi hln hc tk hb (fun a oe cls d pn hz hfl => ⟨fun pins s σ H D I q => ?_⟩)) fun D σ H ⟨G, ρ, F, fl, ρ', W, hm, q⟩ => ?_
  · obtain ⟨e, C, dx, hce, cn, rfl, r1, r2, h⟩ := q
    exact (hsu a C dx oe d pn e hce cn r1 r2 hz hfl).run pins s σ H D I h
  · unfold sTry at hm
    obtain ⟨⟨f1, ρ1⟩, e1, hm⟩ := Option.bind_eq_some_iff.mp hm
    refine ⟨G, ρ, F, f1, ρ1, W, e1, fun σ' H' F' W' ff => ?_⟩
    cases f1 with
    | nx => cases hm; exact q σ' H' F' W' ff
    | bk => cases hm; exact q σ' H' F' W' ff
    | ct => cases hm; exact q σ' H' F' W' ff
    | rt v => cases hm; exact q σ' H' F' W' ff
    | ex e =>
      intro cls d R
      have R0 := R
      obtain ⟨C, cn, rfl, r1, r2⟩ := R
      dsimp only at hm
      split at hm
      · rename_i hno
        obtain ⟨b, eb, hm⟩ := Option.bind_eq_some_iff.mp hm
        refine ⟨b, hca e b C eb cn, fun hb a na => ?_, fun hb => ?_⟩
        · rw [if_pos hb] at hm
          obtain ⟨⟨f2, ρ2⟩, e2, hm⟩ := Option.bind_eq_some_iff.mp hm
          obtain ⟨dx, hd, hx⟩ : ∃ dx, (e.f ≠ none → d = some dx) ∧ XaR X.K F' dx e.f := by
            cases ef : e.f with
            | none => exact ⟨0, fun z => absurd rfl z, trivial⟩
            | some p =>
              obtain ⟨dx, h1, h2⟩ := r2 (by rw [ef]; exact fun z => nomatch z)
              rw [ef] at h2
              exact ⟨dx, fun _ => h1, h2⟩
          have hi1 : i < ρ1.length := (List.getElem?_eq_some_iff.mp hno).1
          have hiσ : i < σ'.length := by rw [← W'.len]; exact hi1
          obtain ⟨u1, u2⟩ := uni a dx e _ _ _ (List.getElem?_set_self hi1) e2
          rw [List.set_set] at u2
          have W1 : Wd X.K G (ρ1.set i (.xa a dx e.f)) (σ'.set i (some (.ref a))) H' F' := W'.set hno (fun _ z => nomatch z) (fun _ z => nomatch z) ⟨List.getElem?_set_self hiσ, hx⟩ (fun _ _ z => nomatch z)
          refine ⟨e, C, dx, (by rw [← hb]; exact eb), cn, rfl, r1, hd, G, _, F', f2, _, W1, u2, fun σ3 H3 F3 W3 f3 => ?_⟩
          have hi2 : i < ρ2.length := (List.getElem?_eq_some_iff.mp u1).1
          have W4 : Wd X.K G (ρ2.set i .no) (σ3.set i none) H3 F3 := by
            have := wd_unset W3 (List.getElem?_set_self hi2) (fun _ z => nomatch z)
            rw [List.set_set] at this
            exact this
          cases f2 with
          | nx => cases hm; exact q _ H3 F3 W4 (ff.trans f3)
          | bk => cases hm; exact q _ H3 F3 W4 (ff.trans f3)
          | ct => cases hm; exact q _ H3 F3 W4 (ff.trans f3)
          | rt v => cases hm; exact q _ H3 F3 W4 (ff.trans f3)
          | ex y => cases hm
        · rw [if_neg (by rw [hb]; decide)] at hm
          cases hm
          exact q σ' H' F' W' ff _ _ R0
      · cases hm
end
/-! ### isinstance of the caught exception -/
/-- isinstance(e, c): D its class, d its dict -/
def rIsX (K : PySem.W.Frag) (D a : Addr) (d : Option Addr) : List V → Hp → VK → Prop := fun xs H Q => ∃ (c : V) (u : Value) (b : Bool), xs = [.ref a, c] ∧ ClsV c u ∧ PySem.W.kitOne K (.ref D) u = some b ∧ (∀ dx, d = some dx → ∃ fs, H dx = some (.xd fs)) ∧ Q (.bl b) H
/-- isinstance(e, (A, B, ..)) -/
def rIsXT (K : PySem.W.Frag) (D a : Addr) (d : Option Addr) : List V → Hp → VK → Prop := fun xs H Q => ∃ (tp : Addr) (cs : List V) (us : List Value) (b : Bool), xs = [.ref a, .ref tp] ∧ H tp = some (.tup cs) ∧ Paired ClsV cs us ∧ PySem.W.kitAny K (.ref D) us = some b ∧ (∀ dx, d = some dx → ∃ fs, H dx = some (.xd fs)) ∧ Q (.bl b) H
section
variable {X : Cx} {a D : Addr} {oe : Obj} {d : Option Addr} {pn : List (Addr × Obj)}
theorem kit_exc (C : ExcC X.K D) (hz : L2N.Zn (.ref D) d oe) (hf : ∃ vs, oe.data = .fields vs) {pins : List (Addr × Obj)} {σ : L2.St} {H : Hp} {s : Shared} (I : Inv (X.suite a ((a, oe) :: pn)) pins σ H s) (hd : ∀ dx, d = some dx → ∃ fs, H dx = some (.xd fs)) :
    ∃ P : Heap → Prop, PySem.W.KitX X.K (.ref a) (.ref D) P ∧ P s.heap := by
  obtain ⟨hget, _⟩ := I.pin (a, oe) (List.mem_append.mpr (.inl List.mem_cons_self))
  obtain ⟨vs, hv⟩ := hf
  have hcl : (PySem.W.clsIn X.K D).isSome = true := by
    obtain ⟨cd, hc, _⟩ := PySem.W.any_some C.hd
    rw [hc]
    rfl
  obtain ⟨od, J⟩ : ∃ od, PySem.W.InstAt s.heap a oe D od := by
    have nc : PySem.W.notCls oe = true := by unfold PySem.W.notCls; rw [hv] <;> rfl
    cases e : d with
    | none => exact ⟨none, hget, hz.1, nc, by rw [hz.2.1, e]; trivial⟩
    | some dx =>
      obtain ⟨fs, ea⟩ := hd dx e
      obtain ⟨mA, hns, hr⟩ := (show ObjOk X.prog X.w H s.heap dx (.xd fs) from I.hok dx _ ea)
      obtain ⟨od, ho, hl⟩ := lookIn_ns hns
      exact ⟨some od, hget, hz.1, nc, by rw [hz.2.1, e]; exact ho⟩
  exact ⟨_, PySem.W.kitx_exc (od := od) hcl C.hg C.hk C.hs C.ha C.hn C.ht C.hm, J⟩
theorem call_isX (C : ExcC X.K D) (hz : L2N.Zn (.ref D) d oe) (hf : ∃ vs, oe.data = .fields vs) : CallR (X.suite a ((a, oe) :: pn)) (.builtin "isinstance") (rIsX X.K D a d) := by
  intro pins s σ H xs us Q I r h
  obtain ⟨c, u, b, rfl, k, e, hd, q⟩ := h
  obtain ⟨u1, u2, rfl, r1, r2⟩ := vals2 r
  cases (show u1 = Value.ref a from r1)
  have e2 := k.eq r2
  subst e2
  obtain ⟨P, Z, p⟩ := kit_exc C hz hf I hd
  exact PySem.W.kia_one Z I.kIn p e (fun z => nomatch z) fun tk => ⟨.bl b, H, I.tok tk, rfl, q⟩
theorem call_isXT (C : ExcC X.K D) (hz : L2N.Zn (.ref D) d oe) (hf : ∃ vs, oe.data = .fields vs) : CallR (X.suite a ((a, oe) :: pn)) (.builtin "isinstance") (rIsXT X.K D a d) := by
  intro pins s σ H xs us Q I r h
  obtain ⟨tp, cs, ws, b, rfl, hT, k, e, hd, q⟩ := h
  obtain ⟨u1, u2, rfl, r1, r2⟩ := vals2 r
  cases (show u2 = Value.ref tp from r2)
  cases (show u1 = Value.ref a from r1)
  obtain ⟨P, Z, p⟩ := kit_exc C hz hf I hd
  obtain ⟨_, its, rv, o, h1, h2, n, h3⟩ := (show ObjOk X.prog X.w H s.heap tp (.tup cs) from I.hok tp _ hT)
  have e3 := ClsV.all k rv
  subst e3
  obtain ⟨oc, od, dt, sl⟩ := o
  simp only at h2 h3
  subst h2 h3
  exact PySem.W.kia_tup Z I.kIn p h1 e (fun z => nomatch z) fun tk => ⟨.bl b, H, I.tok tk, rfl, q⟩
end
section
variable {X : Cx} {a D dx : Addr} {hf : Bool} {d : Option Addr} {oe : Obj} {pn : List (Addr × Obj)} {i : Nat} {o : Option Bool} {p p2 pos : Pos} {ec : Expr} {x : Str} {cv : V} {u : Value}
theorem isx_of {K : PySem.W.Frag} {G : Gd} {ρ ρ' : Rho} {σ : L2.St} {H F : Hp} {r0 : Vl} (hd0 : hf = false → d = none) (hd1 : hf = true → d = some dx) (W : Wd K G ρ σ H F) (hm : eIsx i a dx hf o ρ = some (r0, ρ')) : σ[i]? = some (some (.ref a)) ∧ (∀ dx, d = some dx → ∃ fs, H dx = some (.xd fs)) ∧ ∃ c, o = some c ∧ r0 = .fz (.bl c) ∧ ρ' = ρ := by
  unfold eIsx at hm
  split at hm
  · rename_i b dy f hx
    split at hm
    · rename_i hb
      obtain ⟨rfl, rfl, h3⟩ := hb
      obtain ⟨c, e1, hm⟩ := Option.bind_eq_some_iff.mp hm
      cases hm
      obtain ⟨s1, s2⟩ := W.sl i _ hx
      refine ⟨s1, fun dx' e => ?_, c, e1, rfl, rfl⟩
      cases hf with
      | false => rw [hd0 rfl] at e; cases e
      | true =>
        rw [hd1 rfl] at e
        cases e
        cases f with
        | none => cases h3
        | some q =>
          obtain ⟨k, y⟩ := q
          obtain ⟨v, e2, _⟩ := s2
          exact ⟨_, W.sub _ _ e2⟩
    · cases hm
  · cases hm
theorem se_isx (hci : CallR X (.builtin "isinstance") (rIsX X.K D a d)) (hd0 : hf = false → d = none) (hd1 : hf = true → d = some dx) (hm : X.mg "isinstance" = none) (hg : Gl X "isinstance") (he : PE X (.Name x p2) (tVar i)) (hec : PE X ec (tC cv)) (hcv : ClsV cv u) (ho : ∀ b, o = some b → PySem.W.kitOne X.K (.ref D) u = some b)
    (hs : starEach [.Name x p2, ec] X.env = (false, eval (.Name x p2) X.env) :: starEach [ec] X.env := by rfl) (hs2 : starEach [ec] X.env = (false, eval ec X.env) :: starEach [] X.env := by rfl) (hpl : (backTo pos (starEach [ec] X.env)).any (·.1) = false := by rfl) :
    SE X (.Call (.Name "isinstance" p) [.Name x p2, ec] [] pos) (eIsx i a dx hf o) := by
  refine pe_weak (pe_callB hci hg hm (by decide +kernel) (pa_cons he (pa_cons hec pa_nil hs2) hs) (by decide) (by decide) hs hpl) fun σ H Q ⟨G, ρ, F, r0, ρ', W, hm, q⟩ => ?_
  obtain ⟨s1, s2, c, e1, rfl, rfl⟩ := isx_of hd0 hd1 W hm
  exact ⟨.ref a, s1, _, _, c, rfl, hcv, ho c e1, s2, q _ H F (Ste.refl W) (.bl c)⟩
/-- class names of a tuple -/
inductive ClsEs (X : Cx) : List Expr → List V → List Value → Prop where
  | nil : ClsEs X [] [] []
  | cons {e : Expr} {es : List Expr} {v : V} {vs : List V} {u : Value} {us : List Value} (h : PE X e (tC v)) (hc : ClsV v u) (hs : starEach (e :: es) X.env = (false, eval e X.env) :: starEach es X.env) (r : ClsEs X es vs us) : ClsEs X (e :: es) (v :: vs) (u :: us)
def tCs : List V → TA
  | [] => tNil
  | v :: vs => tCons (tC v) (tCs vs)
theorem ClsEs.pa {X : Cx} : ∀ {es : List Expr} {vs : List V} {us : List Value}, ClsEs X es vs us → PA X es (tCs vs) ∧ Paired ClsV vs us
  | _, _, _, .nil => ⟨pa_nil, .nil⟩
  | _, _, _, .cons h hc hs r => ⟨pa_cons h r.pa.1 hs, .cons hc r.pa.2⟩
theorem tCs_of : ∀ {vs : List V} {σ : L2.St} {H : Hp} {Q : List V → Hp → Prop}, Q vs H → tCs vs σ H Q
  | [], _, _, _, q => q
  | v :: vs, σ, H, Q, q => by
    show tC v σ H fun x H1 => tCs vs σ H1 fun xs H2 => Q (x :: xs) H2
    exact tCs_of (Q := fun xs H2 => Q (v :: xs) H2) q
theorem se_isxT {es : List Expr} {vs : List V} {us : List Value} {ep : Pos} {x1 : _} (hci : CallR X (.builtin "isinstance") (rIsXT X.K D a d)) (hd0 : hf = false → d = none) (hd1 : hf = true → d = some dx) (hm : X.mg "isinstance" = none) (hg : Gl X "isinstance") (he : PE X (.Name x p2) (tVar i)) (hes : ClsEs X es vs us) (hlen : es.length ≤ 20) (hz : vs.length = es.length)
    (ho : ∀ b, o = some b → PySem.W.kitAny X.K (.ref D) us = some b)
    (hs : starEach [.Name x p2, .Tuple es x1 ep] X.env = (false, eval (.Name x p2) X.env) :: starEach [.Tuple es x1 ep] X.env := by rfl) (hs2 : starEach [.Tuple es x1 ep] X.env = (false, eval (.Tuple es x1 ep) X.env) :: starEach [] X.env := by rfl) (hpl : (backTo pos (starEach [.Tuple es x1 ep] X.env)).any (·.1) = false := by rfl) :
    SE X (.Call (.Name "isinstance" p) [.Name x p2, .Tuple es x1 ep] [] pos) (eIsx i a dx hf o) := by
  refine pe_weak (pe_callB hci hg hm (by decide +kernel) (pa_cons he (pa_cons (pe_tup hes.pa.1) pa_nil hs2) hs) (by decide) (by decide) hs hpl) fun σ H Q ⟨G, ρ, F, r0, ρ', W, hm, q⟩ => ?_
  obtain ⟨s1, s2, c, e1, rfl, rfl⟩ := isx_of hd0 hd1 W hm
  refine ⟨.ref a, s1, ?_⟩
  refine tCs_of (Q := _) ⟨by rw [hz]; rw [sizeLine_eq]; omega, fun tp hp => ?_⟩
  have A := Alc.new (o := HO.tup vs) W.sub hp
  exact ⟨tp, vs, us, c, rfl, upd_same, hes.pa.2, ho c e1, fun dx e => let ⟨fs, h⟩ := s2 dx e; ⟨fs, by rw [upd_ne (fun z => by rw [z, hp] at h; cases h)]; exact h⟩, q _ _ _ (W.alc A) (.bl c)⟩
/-- e.k -/
theorem se_fldx {n : Str} (C : ExcC X.K D) (hno : PySem.W.findIn X.K (.ref D) n = some none) (hz : L2N.Zn (.ref D) d oe) (hfl : ∃ vs, oe.data = .fields vs) (hd1 : hf = true → d = some dx) (he : PE (X.suite a ((a, oe) :: pn)) (.Name x p2) (tVar i))
    (hb : attributeBase (.Name x p2) n X.env (eval (.Name x p2) X.env) = eval (.Name x p2) X.env := by rfl) : SE (X.suite a ((a, oe) :: pn)) (.Attribute (.Name x p2) n pos) (eFldX i a dx hf n) := by
  refine pe_weak (pe_xf ⟨C.hg, C.hk, C.hs, C.hd⟩ hno hz.zc hfl he hb) fun σ H Q ⟨G, ρ, F, r0, ρ', W, hm, q⟩ => ?_
  unfold eFldX at hm
  split at hm
  · rename_i b dy k y hx
    split at hm
    · rename_i hbb
      obtain ⟨rfl, rfl, rfl, hhf⟩ := hbb
      cases hm
      obtain ⟨s1, v, e2, R⟩ := W.sl i _ hx
      exact ⟨.ref b, s1, rfl, rfl, dy, _, v, hd1 hhf, W.sub _ _ e2, by simp [List.lookup], q v H F (Ste.refl W) R⟩
    · cases hm
  · cases hm
end
/-! ### a def called in an except suite -/
theorem hd0_of {f : Option (PySem.Str × D)} {d : Option Addr} (r : f = none → d = none) : f.isSome = false → d = none := fun h => r (by cases f with
  | none => rfl
  | some _ => cases h)
theorem hd1_of {f : Option (PySem.Str × D)} {d : Option Addr} {dx : Addr} (r : f ≠ none → d = some dx) : f.isSome = true → d = some dx := fun h => r (fun z => by rw [z] at h; cases h)
theorem huH {k : Nat} {A : Around} (r : L2H.RoomH k A) : A.units + 64 < cLine := by have := r.un; omega
theorem hot_suite {X : Cx} {a : Addr} {oe : Obj} {c : Value} {d : Option Addr} {pn : List (Addr × Obj)} (hz : L2N.Zn c d oe) (hf : ∃ vs, oe.data = .fields vs) : L2H.HotC (X.suite a ((a, oe) :: pn)) := by
  obtain ⟨vs, hv⟩ := hf
  exact ⟨(a, oe), ⟨rfl, vs, hv, hz.2.2 vs hv⟩, List.mem_cons_self⟩
section
variable {X : Cx} {f : Fn} {ms : M (List Vl)} {n k : Nat} {fa : Addr} {fd : FuncData} {ps : List Str} {x : Str} {e : Expr} {es : List Expr} {p pos : Pos}
theorem se_callH (F : L2H.FnH X.prog X.w X.K X.mg X.base CX0 k fa fd ps (spF X.K n f)) (hc : L2H.HotC X) (hn : ∀ gs z, f gs = some z → gs.length = n) (hr : L2H.RoomH k X.A) (hm : X.mg x = some (.ref fa)) (hk : PySem.W.keepIn X.K (.ref fa) = true) (hb : Binds X.K fd ps []) (hg : Gl X x)
    (ha : SA X (e :: es) ms) (hdb : (x == ("__debug__" : Str)) = false := by decide) (he : starEach (e :: es) X.env = (false, eval e X.env) :: starEach es X.env := by rfl) (hpl : (backTo pos (starEach es X.env)).any (·.1) = false := by rfl) :
    SE X (.Call (.Name x p) (e :: es) [] pos) (eCall0 f ms) := pe_weak (L2H.pe_callH (E := fun _ => E0) F hr hc hg hm hk hb (fun σ pins H s e s' I h => pass0 pins σ H s e s' I h) ha hdb he hpl) fun σ H Q ⟨G, ρ, F, r0, ρ', W, hm, q⟩ => by
  have h2 : eCall f [] ms ρ = some (r0, ρ') := by
    unfold eCall0 at hm
    obtain ⟨⟨xs, ρ2⟩, e1, hm⟩ := Option.bind_eq_some_iff.mp hm
    obtain ⟨⟨ts, ρ3⟩, e2, hm⟩ := Option.bind_eq_some_iff.mp hm
    obtain ⟨gs, e3, hm⟩ := Option.bind_eq_some_iff.mp hm
    split at hm
    · rename_i hi
      obtain ⟨z, e4, hm⟩ := Option.bind_eq_some_iff.mp hm
      unfold eCall
      rw [e1]; dsimp only [Option.bind_some]; rw [e2]; dsimp only [Option.bind_some]; rw [e3]; dsimp only [Option.bind_some]
      dsimp only at hi
      rw [if_pos (by rw [hi]; exact List.nodup_nil), e4]
      dsimp only [Option.bind_some]
      obtain ⟨z1, z2⟩ := z
      cases z1 with
      | fz y => cases hm; rw [hi]; dsimp only; unfold puts; rfl
      | fr y => cases hm
      | bw y => cases hm
    · cases hm
  obtain ⟨rs, ρ1, e1, w⟩ := tcall_core (E := E0) hn W h2 q
  exact ⟨G, ρ, F, rs, ρ1, W, e1, fun vs H1 F1 s1 R1 => w vs H1 F1 s1 R1⟩
end
theorem fn_okH {P : Program} {w : World} {K : PySem.W.Frag} {mg : Str → Option Value} {base : Heap} {x qual : Str} {st : Stmt} {f : Addr} {fd : FuncData} {N ps : List Str} {k n nl : Nat} {m : S} (Fu : FunG K x qual st f fd) (Sc : FnScope N ps (defScope st)) (hn : ps.length = n) (hl : N.length = nl) (hle : n ≤ nl)
    (hb : ∀ (cdv : Value) (A : Around) (outer : List Env) (s : Shared) (H : Hp) (E : XK) (p : Addr × Obj), L2H.RoomH k (A.deeper (envOfC qual (defScope st) s.heap.objs.size f cdv)) → SB (L2H.cxH CX0 P w K mg base N qual (defScope st) f cdv A outer s H E p) (defBody st) m) :
    L2H.FnH P w K mg base CX0 (k + 1) f fd ps (spF K n (fnS n nl m)) := by
  obtain ⟨oc, od, dV, kV, doc, pm, an, cdv, ct, osl, rfl, lk, hcd⟩ := Fu.ex
  refine L2H.fn_ofH lk hcd Sc (fun vs H Q E h => by rw [h.1, hn]) (fun A outer s H vs Q E p hot hr h => ?_)
  obtain ⟨hv, F, gs, r, os, sub, AR, nd, hf, q⟩ := h
  refine ⟨_, hb cdv A outer s H E p hr, ?_⟩
  unfold fnS at hf
  split at hf
  · rename_i hgs
    obtain ⟨⟨fl, ρ'⟩, e1, hf⟩ := Option.bind_eq_some_iff.mp hf
    have W := wd_start AR nd sub hgs hl hle
    have snd := iaOf_snd 0 AR
    have le : gs.length ≤ (gs.map slOf ++ List.replicate (nl - n) Sl.no).length := by rw [List.length_append, List.length_map]; omega
    have outs : ∀ {σ' : L2.St} {H' F' : Hp}, Wd K ⟨H, F, iaOf 0 vs gs, nl⟩ ρ' σ' H' F' → σ'.length = nl → OutsR K F' H' (liA vs gs) (outsOf gs ρ') := fun {σ' H' F'} W' hσ => by
      refine outs_ok (G := ⟨H, F, iaOf 0 vs gs, nl⟩) (σ := σ') 0 AR (fun i s' e => by rw [Nat.zero_add]; exact W'.sl i s' e) (fun i a xs h1 h2 => ?_) ?_
      · have := mem_iaOf 0 AR h1 h2
        have z := W'.ai _ _ this
        rw [Nat.zero_add] at z
        exact ⟨z.1, by rw [Nat.zero_add]; exact z.2⟩
      · have := W'.len
        omega
    refine ⟨⟨H, F, iaOf 0 vs gs, nl⟩, _, F, fl, ρ', W, e1, fun σ' H' F' W' ff => ?_⟩
    have kp : ∀ b o, H b = some o → b ∉ liA vs gs → H' b = some o := fun b o h h2 => W'.kp b o h (by rw [snd]; exact h2)
    have hσ : σ'.length = nl := W'.gl
    cases fl with
    | nx => cases hf; exact q _ H' F' ff W'.sub kp W'.nw (outs W' hσ) .non
    | bk => cases hf
    | ct => cases hf
    | ex x => cases hf
    | rt z =>
      cases z with
      | fz y => cases hf; exact fun v R => q v H' F' ff W'.sub kp W'.nw (outs W' hσ) R
      | fr y => cases hf; exact fun v R => q v H' F' ff W'.sub kp W'.nw (outs W' hσ) R
      | bw y => cases hf
  · cases hf
/-! ### what the text says of exceptions' classes -/
theorem kit_own {K : PySem.W.Frag} {D C : Addr} {b : Bool} (h1 : PySem.W.isClsIn K C = true) (h2 : PySem.W.typeIn K (.ref C) = some (.type "type")) (h3 : PySem.W.subIn K (.ref D) (.ref C) = some b) (hb : D = C → b = true) : PySem.W.kitOne K (.ref D) (.ref C) = some b := by
  unfold PySem.W.kitOne
  split
  · rename_i z
    have e : D = C := Value.ref.inj (beq_iff_eq.mp z)
    rw [hb e]
  · show (if ((PySem.W.clsIn K C).isSome && PySem.W.typeIn K (.ref C) == some (.type "type")) = true then PySem.W.subIn K (.ref D) (.ref C) else none) = some b
    have h1' : (PySem.W.clsIn K C).isSome = true := h1
    rw [h1', h2, if_pos (by rfl)]
    exact h3
theorem kit_self {K : PySem.W.Frag} {C : Addr} : PySem.W.kitOne K (.ref C) (.ref C) = some true := by
  unfold PySem.W.kitOne
  rw [if_pos (by exact beq_self_eq_true _)]
theorem kit_blt {K : PySem.W.Frag} {D : Addr} {T : String} {b : Bool} (h1 : PySem.W.kitMeta T = true) (h3 : PySem.W.subIn K (.ref D) (.type T) = some b) : PySem.W.kitOne K (.ref D) (.type T) = some b := by
  unfold PySem.W.kitOne
  rw [if_neg (fun z => by cases beq_iff_eq.mp z)]
  show (if PySem.W.kitMeta T = true then PySem.W.subIn K (.ref D) (.type T) else none) = some b
  rw [if_pos h1]
  exact h3
def xAny (f : PySem.Str → Option Bool) : List PySem.Str → Option Bool
  | [] => some false
  | k :: ks => match f k with
    | some true => some true
    | some false => xAny f ks
    | none => none
/-- the tuple's classes, one by one -/
inductive KitL (K : PySem.W.Frag) (D : Addr) (f : PySem.Str → Option Bool) : List PySem.Str → List Value → Prop where
  | nil : KitL K D f [] []
  | cons {k : PySem.Str} {ks : List PySem.Str} {u : Value} {us : List Value} (h : ∀ b, f k = some b → PySem.W.kitOne K (.ref D) u = some b) (r : KitL K D f ks us) : KitL K D f (k :: ks) (u :: us)
theorem KitL.ok {K : PySem.W.Frag} {D : Addr} {f : PySem.Str → Option Bool} : ∀ {ks : List PySem.Str} {us : List Value}, KitL K D f ks us → ∀ b, xAny f ks = some b → PySem.W.kitAny K (.ref D) us = some b
  | _, _, .nil, b, h => by
    unfold xAny at h
    cases h
    rfl
  | _, _, .cons h r, b, e => by
    unfold xAny at e
    split at e
    · rename_i z
      cases e
      exact kitAny_cons (h _ z) (fun q => nomatch q) fun _ => rfl
    · rename_i z
      exact kitAny_cons (h _ z) (fun _ => r.ok b e) fun q => nomatch q
    · cases e
end Sw
/-! Sw28: reckoning with exceptions. -/
namespace Sw
open L2
section
variable {ρ : Rho} {s s' s'' : S} {x : XS} {QS : Fl → Rho → Prop} {i : Nat}
theorem sv_raise_l {c : PySem.Str} (h : QS (.ex ⟨c, none⟩) ρ) : Sv (sRaise0 c) ρ QS := ⟨_, _, rfl, h⟩
theorem sv_raise_s {c : PySem.Str} (h : QS (.ex ⟨c, none⟩) ρ) : Sv (sSeq (sRaise0 c) s) ρ QS := sv_seq ⟨_, _, rfl, h⟩
theorem sv_x (h : Sv s ρ QS) : Sv (sX s x) ρ QS := by
  obtain ⟨fl, ρ1, e, q⟩ := h
  exact ⟨fl, ρ1, by unfold sX; rw [e], q⟩
theorem sv_x_s (h : Sv (sSeq s s') ρ QS) : Sv (sSeq (sX s x) s') ρ QS := by
  obtain ⟨fl, ρ1, e, q⟩ := h
  refine ⟨fl, ρ1, ?_, q⟩
  have un : ∀ a : S, sSeq a s' ρ = (a ρ).bind fun p => match p.1 with
    | .nx => s' p.2
    | fl => some (fl, p.2) := fun _ => rfl
  rw [un] at e ⊢
  cases e1 : s ρ with
  | none => rw [e1] at e; cases e
  | some z =>
    have : sX s x ρ = some z := by unfold sX; rw [e1]
    rw [this, ← e1]
    exact e
theorem sv_xx {e : Exn} {ρ1 : Rho} (h1 : s ρ = none) (h2 : x ρ = some (e, ρ1)) (h : QS (.ex e) ρ1) : Sv (sX s x) ρ QS := ⟨.ex e, ρ1, by unfold sX; rw [h1, h2]; rfl, h⟩
/-- a def that raises -/
def Fx (f : Fn) (xf : XFn) (gs : List Ag) (e : Exn) : Prop := f gs = none ∧ xf gs = some e
theorem fx_fn {n nl : Nat} {gs : List Ag} {e : Exn} (hn : gs.length = n) (hd : gs.all isDa = true) (h : Sv s (gs.map slOf ++ List.replicate (nl - n) .no) fun fl _ => fl = .ex e) : Fx (fnS n nl s) (fnE n nl s) gs e := by
  obtain ⟨fl, ρ1, e1, rfl⟩ := h
  constructor
  · unfold fnS; rw [if_pos hn, e1]; rfl
  · unfold fnE; rw [if_pos ⟨hn, hd⟩, e1]; rfl
theorem xcall {f : Fn} {xf : XFn} {fs : List Bool} {ms : M (List Vl)} {rs : List Vl} {ρ1 ρ2 : Rho} {ts : List (D ⊕ Nat)} {gs : List Ag} {e : Exn} (h1 : ms ρ = some (rs, ρ1)) (h2 : ag1 fs rs ρ1 = some (ts, ρ2)) (h3 : ag2 ρ2 ts = some gs) (h : Fx f xf gs e) (hd : gs.all isDa = true) (hi : agI ts = []) :
    eCall f fs ms ρ = none ∧ eCallX xf fs ms ρ = some (e, ρ2) := by
  constructor
  · unfold eCall
    rw [h1]; dsimp only [Option.bind_some]; rw [h2]; dsimp only [Option.bind_some]; rw [h3]; dsimp only [Option.bind_some]
    rw [if_pos (by rw [hi]; exact List.nodup_nil), h.1]
    rfl
  · unfold eCallX
    rw [h1]; dsimp only [Option.bind_some]; rw [h2]; dsimp only [Option.bind_some]; rw [h3]; dsimp only [Option.bind_some]
    rw [if_pos ⟨hd, hi⟩, h.2]
    rfl
theorem xasg {m : M Vl} {k : Nat} (h : m ρ = none) : sAsg k m ρ = none := by unfold sAsg; rw [h]; rfl
theorem xret {m : M Vl} (h : m ρ = none) : sRet m ρ = none := by unfold sRet; rw [h]; rfl
theorem xdrop {m : M Vl} (h : m ρ = none) : sDrop m ρ = none := by unfold sDrop; rw [h]; rfl
/-- try: what the body leaves; an exception goes to the suite -/
theorem sv_try {ca : Exn → Option Bool} {b : S} {su : PySem.Addr → PySem.Addr → Exn → S} (h : Sv b ρ fun fl ρ1 => match fl with
    | .ex e => ρ1[i]? = some .no ∧ ∃ c, ca e = some c ∧ (c = true → Sv (su 0 0 e) (ρ1.set i (.xa 0 0 e.f)) fun fl ρ2 => (∀ y, fl ≠ .ex y) ∧ QS fl (ρ2.set i .no)) ∧ (c = false → QS (.ex e) ρ1)
    | fl => QS fl ρ1) : Sv (sTry i ca b su) ρ QS := by
  obtain ⟨fl, ρ1, e1, h⟩ := h
  unfold Sv sTry
  rw [e1]
  dsimp only [Option.bind_some]
  cases fl with
  | nx => exact ⟨_, _, rfl, h⟩
  | bk => exact ⟨_, _, rfl, h⟩
  | ct => exact ⟨_, _, rfl, h⟩
  | rt v => exact ⟨_, _, rfl, h⟩
  | ex e =>
    obtain ⟨hno, c, e2, h1, h2⟩ := h
    dsimp only
    rw [hno, e2]
    dsimp only [Option.bind_some]
    cases c with
    | false => rw [if_neg (by decide)]; exact ⟨_, _, rfl, h2 rfl⟩
    | true =>
      rw [if_pos rfl]
      obtain ⟨f2, ρ2, e3, nx, q⟩ := h1 rfl
      rw [e3]
      dsimp only [Option.bind_some]
      cases f2 with
      | ex y => exact absurd rfl (nx y)
      | nx => exact ⟨_, _, rfl, q⟩
      | bk => exact ⟨_, _, rfl, q⟩
      | ct => exact ⟨_, _, rfl, q⟩
      | rt v => exact ⟨_, _, rfl, q⟩
theorem sv_raise1_l {c f : PySem.Str} {m : M Vl} (h : Ev m ρ fun r ρ1 => ∃ z ρ2, frz ρ1 (stl r) = some (z, ρ2) ∧ QS (.ex ⟨c, some (f, z)⟩) ρ2) : Sv (sRaise1 c f m) ρ QS := by
  obtain ⟨r, ρ1, e1, z, ρ2, e2, q⟩ := h
  exact ⟨_, ρ2, by unfold sRaise1; rw [e1]; dsimp only [Option.bind_some]; rw [e2]; rfl, q⟩
theorem sv_raise1_s {c f : PySem.Str} {m : M Vl} (h : Ev m ρ fun r ρ1 => ∃ z ρ2, frz ρ1 (stl r) = some (z, ρ2) ∧ QS (.ex ⟨c, some (f, z)⟩) ρ2) : Sv (sSeq (sRaise1 c f m) s) ρ QS := by
  obtain ⟨fl, ρ1, e, q⟩ := sv_raise1_l (QS := fun fl ρ1 => (∃ y, fl = .ex y) ∧ QS fl ρ1) (ρ := ρ) (c := c) (f := f) (m := m) (by
    obtain ⟨r, ρ1, e1, z, ρ2, e2, q⟩ := h
    exact ⟨r, ρ1, e1, z, ρ2, e2, ⟨_, rfl⟩, q⟩)
  obtain ⟨⟨y, rfl⟩, q⟩ := q
  exact sv_seq ⟨_, ρ1, e, q⟩
theorem ev_isx {a dx : PySem.Addr} {f : Option (PySem.Str × D)} {hf : Bool} {o : Option Bool} {c : Bool} {Q : Vl → Rho → Prop} (h : ρ[i]? = some (.xa a dx f)) (hh : f.isSome = hf) (ho : o = some c) (q : Q (.fz (.bl c)) ρ) : Ev (eIsx i a dx hf o) ρ Q := ⟨_, _, by unfold eIsx; rw [h]; dsimp only; rw [if_pos ⟨rfl, rfl, hh⟩, ho]; rfl, q⟩
theorem ev_fldx {a dx : PySem.Addr} {k : PySem.Str} {y : D} {hf : Bool} (hh : hf = true) {Q : Vl → Rho → Prop} (h : ρ[i]? = some (.xa a dx (some (k, y)))) (q : Q (.fz y) ρ) : Ev (eFldX i a dx hf k) ρ Q := ⟨_, _, by unfold eFldX; rw [h]; dsimp only; rw [if_pos ⟨rfl, rfl, rfl, hh⟩], q⟩
theorem xasgT {m : M Vl} {g : D → Rho → Option Rho} (h : m ρ = none) : sAsgT m g ρ = none := by unfold sAsgT; rw [h]; rfl
end
end Sw
/-! Sw29: text.find(sign, i). -/
namespace Sw
open PySem PySem.Spec PyProof.Rows L2
def fFind3 : D → List D → Option D
  | .str s, [.str [c], .int i] => some (.int (Txt.find3 ⟨s.toArray⟩ ⟨#[c]⟩ i))
  | _, _ => none
theorem find3_lt (s : List Nat) (c : Nat) (i : Int) : -1 ≤ Txt.find3 ⟨s.toArray⟩ ⟨#[c]⟩ i ∧ Txt.find3 ⟨s.toArray⟩ ⟨#[c]⟩ i < s.length := by
  unfold Txt.find3
  rcases PySem.StrLaws.occ_head_from ⟨s.toArray⟩ ⟨#[c]⟩ _ 1 (Nat.le_refl 1) with ⟨h1, _⟩ | ⟨k, r, h1, _, h2, _⟩
  · rw [h1]
    refine ⟨by decide, ?_⟩
    show (-1 : Int) < (s.length : Int)
    omega
  · rw [h1]
    have hi := (PySem.StrLaws.subAt_one _ c k).mp h2
    have hi : s[k]? = some c := by simpa using hi
    have := (List.getElem?_eq_some_iff.mp hi).1
    refine ⟨by show (-1 : Int) ≤ (k : Int); omega, by show (k : Int) < _; omega⟩
theorem ms_find3 {K : PySem.W.Frag} : MetS K (fun x xs H Q => ∃ (a b : Str) (i : Int), x = .str a ∧ xs = [.str b, .int i] ∧ Q (.int (Txt.find3 a b i)) H) fFind3 := by
  intro H F v vs x xs z s hx hxs e Q q
  unfold fFind3 at e
  split at e
  · cases e
    obtain ⟨u, w, rfl, hu, hw⟩ := vws2 hxs
    rw [vw_str hx, vw_str hu, vw_int hw]
    exact ⟨_, _, _, rfl, rfl, q _ H F (Alc.refl s) (.int _)⟩
  · cases e
section
variable {X : Cx} {e e2 o : Expr} {mo : M Vl} {ms : M (List Vl)} {apos cpos : Pos}
theorem se_find3 (ho : SE X o mo) (ha : SA X [e, e2] ms)
    (hbase : attributeBase o "find" X.env (eval o X.env) = eval o X.env := by rfl)
    (hfew : ((backTo cpos (starEach [e, e2] X.env)).all (fun x => !x.1) && (backToKw cpos (keywordEach [] X.env)).all (fun x => x.1.isSome)
      && decide ([e, e2].length + ([] : List Keyword).length + (if ([] : List Keyword).isEmpty then 0 else 1) < 30)) = true := by rfl)
    (hline : (apos.endLine == cpos.line) = true := by rfl) (hs : starEach [e, e2] X.env = (false, eval e X.env) :: starEach [e2] X.env := by rfl) (hplain : (backTo cpos (starEach [e2] X.env)).any (·.1) = false := by rfl) :
    SE X (.Call (.Attribute o "find" apos) [e, e2] [] cpos) (eMet fFind3 mo ms) := se_met PySem.F.slot_str_find PySem.F.type_str_find L2.mt_find3 (fun x xs z h => by
  unfold fFind3 at h
  split at h
  · exact ⟨_, rfl⟩
  · cases h) ms_find3 ho ha hbase hfew hline hs hplain
end
end Sw
/-! Sw30: sorted of any list of data that are alike (texts of any number, tuples of texts and ints). -/
namespace Sw
open PySem PySem.Spec PyProof.Rows L2 PySem.W
def tupQ : D → Bool
  | .tup (_ :: _) => true
  | _ => false
def othQ : D → Bool
  | .tup _ => false
  | .non => false
  | .obj _ _ _ => false
  | _ => true
/-- may be sorted as data -/
def sortQ (xs : List D) : Bool := xs.all (fun x => shD x && decide ((toP x).depth ≤ 8)) && (xs.all tupQ || xs.all othQ) && xs.all (fun x => xs.all fun y => PySem.W.alike (toP x) (toP y)) && decide (xs.length ≤ lim)
def sortE (xs : List D) : List D := xs.mergeSort (PySem.W.dataLe false toP)
def rSortedDat (K : PySem.W.Frag) : List V → Hp → VK → Prop := fun vs H Q => ∃ (a : Addr) (xs : List V) (bs : List D) (F : Hp), vs = [V.ref a] ∧ SqL K H a xs ∧ Same F H ∧ Reps K F xs bs ∧ sortQ bs = true ∧
  ∀ ys p, Reps K F ys (sortE bs) → H p = none → Q (.ref p) (upd H p (.lst ys))
section
variable {X : Cx}
theorem each_of_reps {K : PySem.W.Frag} {F : Hp} : ∀ {xs : List V} {us : List Value} {bs : List D}, Vals xs us → Reps K F xs bs → EachIs (fun u b => ∃ x, RelV x u ∧ Rep K F x b) us bs
  | _, _, _, .nil, .nil => .nil
  | _, _, _, .cons r1 r2, .cons h1 h2 => .cons ⟨_, r1, h1⟩ (each_of_reps r2 h2)
theorem reps_of_each {K : PySem.W.Frag} {F : Hp} : ∀ {us : List Value} {bs : List D}, EachIs (fun u b => ∃ x, RelV x u ∧ Rep K F x b) us bs → ∃ ys, Vals ys us ∧ Reps K F ys bs
  | _, _, .nil => ⟨[], .nil, .nil⟩
  | _, _, .cons ⟨x, r, h⟩ t => by
    obtain ⟨ys, h1, h2⟩ := reps_of_each t
    exact ⟨x :: ys, .cons r h1, .cons h h2⟩
theorem each_reads {K : PySem.W.Frag} {pins : List (Addr × Obj)} {σ : L2.St} {F H : Hp} {s : Shared} {XX : Cx} (I : Inv XX pins σ H s) (e : Same F H) : ∀ {us : List Value} {bs : List D}, (∀ b ∈ bs, plnD b = true) → EachIs (fun u b => ∃ x, RelV x u ∧ Rep XX.K F x b) us bs → EachIs (fun u b => ∃ as, Reads s.heap u (toP b) as) us bs
  | _, _, _, .nil => .nil
  | _, _, p, .cons ⟨x, r, h⟩ t => .cons (Dp.reads I _ x _ (h.dp e (p _ List.mem_cons_self)) r) (each_reads (K := K) I e (fun b hb => p b (List.mem_cons_of_mem _ hb)) t)
theorem cr_sortedDat (hu : X.A.units + 64 < cLine) : CallR X (.builtin "sorted") (rSortedDat X.K) := by
  intro pins s σ H vs us Q I r h
  obtain ⟨a, xs, bs, F, rfl, hs, sf, hR, hq, q⟩ := h
  obtain ⟨its, rv, hl, hz⟩ := I.list hs
  obtain ⟨u, rfl, ru⟩ := vals1 r
  obtain rfl : u = Value.ref a := ru
  unfold sortQ at hq
  rw [Bool.and_eq_true, Bool.and_eq_true, Bool.and_eq_true] at hq
  obtain ⟨⟨⟨q1, q2⟩, q3⟩, q4⟩ := hq
  have q1' : ∀ b ∈ bs, shD b = true ∧ (toP b).depth ≤ 8 := fun b hb => by
    have := List.all_eq_true.mp q1 b hb
    rw [Bool.and_eq_true, decide_eq_true_eq] at this
    exact this
  have e1 := each_of_reps rv hR
  have e2 := each_reads (K := X.K) I sf (fun b hb => shD_pln (q1' b hb).1) e1
  have hal : AllAlike (bs.map toP) := by
    intro d hd d' hd'
    obtain ⟨b, hb, rfl⟩ := List.mem_map.mp hd
    obtain ⟨b', hb', rfl⟩ := List.mem_map.mp hd'
    exact List.all_eq_true.mp (List.all_eq_true.mp q3 b hb) b' hb'
  have hk : Sortable (bs.map toP) := by
    rcases Bool.or_eq_true_iff.mp q2 with h | h
    · refine .inl fun d hd => ?_
      obtain ⟨b, hb, rfl⟩ := List.mem_map.mp hd
      have := List.all_eq_true.mp h b hb
      unfold tupQ at this
      split at this
      · exact ⟨_, _, by unfold toP toPs; rfl⟩
      · cases this
    · refine .inr fun d hd => ?_
      obtain ⟨b, hb, rfl⟩ := List.mem_map.mp hd
      have := List.all_eq_true.mp h b hb
      cases b <;> first | (cases this; done) | (constructor <;> (intros; simp [toP]))
  refine sorted_data hl.isList e1 e2 hal hk (lim_of (of_decide_eq_true q4)) (fun b hb => by have := (q1' b hb).2; omega) fun out ho he => ?_
  obtain ⟨ys, y1, y2⟩ := reps_of_each he
  have hd : s.heap.objs.size ≤ s.heap.objs.size + 1 := Nat.le_succ _
  obtain ⟨n, hn⟩ : ∃ n, (sortedAll s.heap its (List.toArray out)).get? (s.heap.objs.size + 1) = some (seqObj "list" out.toArray n) := sortedAll_at s.heap its out.toArray
  refine ⟨.ref (s.heap.objs.size + 1), upd H (s.heap.objs.size + 1) (.lst ys), I.laid (t' := s.toks) (fun b o e => sortedAll_old e) hd ⟨?_, out, n, y1, hn⟩, rfl, q ys _ y2 (I.hok.fresh hd)⟩
  rw [y1.length, ho, ← e1.length, ← rv.length]
  exact hz
end
/-- sorted(xs): ints, texts, data that are alike -/
def sortG (xs : List D) : Option (List D) := if sortQ xs = true then some (sortE xs) else none
def eSortG (ms : M (List Vl)) : M Vl := fun ρ => (ms ρ).bind fun p => match p.1 with
  | [r] => (look p.2 r).bind fun x => match x with
    | .lst xs => (sortG xs).bind fun ys => some (.fr ys, p.2)
    | _ => none
  | _ => none
section
variable {X : Cx} {e : Expr} {ms : M (List Vl)} {p pos : Pos}
theorem se_sortG (hu : X.A.units + 64 < cLine) (hm : X.mg "sorted" = none) (hg : Gl X "sorted") (ha : SA X [e] ms) (he : starEach [e] X.env = (false, eval e X.env) :: starEach [] X.env := by rfl) (hpl : (backTo pos (starEach [] X.env)).any (·.1) = false := by rfl) :
    SE X (.Call (.Name "sorted" p) [e] [] pos) (eSortG ms) := by
  refine pe_weak (pe_callB (cr_sortedDat hu) hg hm (by decide +kernel) ha (by decide) (by decide) he hpl) fun σ H Q ⟨G, ρ, F, r0, ρ', W, hm, q⟩ => ?_
  unfold eSortG at hm
  obtain ⟨⟨rs, ρ1⟩, e1, hm⟩ := Option.bind_eq_some_iff.mp hm
  split at hm
  · rename_i r hr
    dsimp only at hr
    subst hr
    obtain ⟨x, e2, hm⟩ := Option.bind_eq_some_iff.mp hm
    split at hm
    · rename_i xs
      obtain ⟨ys, e3, hm⟩ := Option.bind_eq_some_iff.mp hm
      cases hm
      unfold sortG at e3
      split at e3
      · rename_i hq
        cases e3
        refine ⟨G, ρ, F, [r], ρ1, W, e1, fun vs H1 F1 s1 R1 => ?_⟩
        obtain ⟨v, rfl, Rv⟩ : ∃ v, vs = [v] ∧ VlS X.K σ F1 v r := by
          match vs, R1 with
          | [v], z => exact ⟨v, rfl, z.1⟩
        obtain ⟨a, us, rfl, h1, h2⟩ := vw_of s1.wd Rv e2
        exact ⟨a, us, xs, F1, rfl, SqL.of h1, s1.wd.sub, h2, hq, fun ys p hy hp => new_fr s1 hy hp q⟩
      · cases e3
    · cases hm
  · cases hm
end
end Sw
/-! Sw31: own classes: methods, properties, operators by own special methods, isinstance. -/
namespace Sw
open PySem PySem.Spec PyProof.Rows L2
theorem zip_lookup_none {m : PySem.Str} : ∀ {ks : List PySem.Str} {vs : List V}, ks.contains m = false → (ks.zip vs).lookup m = none
  | [], _, _ => rfl
  | _ :: _, [], _ => rfl
  | k :: ks, v :: vs, h => by
    rw [List.contains_cons, Bool.or_eq_false_iff] at h
    rw [List.zip_cons_cons, List.lookup_cons, h.1]
    exact zip_lookup_none h.2
/-- an instance of c without an attribute m of its own -/
def isOb (c m : PySem.Str) : Vl → Bool
  | .fz (.obj c' ks _) => decide (c' = c) && !ks.contains m
  | _ => false
theorem isOb_ok {c m : PySem.Str} {r : Vl} (h : isOb c m r = true) : ∃ ks xs, r = .fz (.obj c ks xs) ∧ ks.contains m = false := by
  unfold isOb at h
  split at h
  · rw [Bool.and_eq_true, decide_eq_true_eq, Bool.not_eq_true'] at h
    obtain ⟨rfl, h2⟩ := h
    exact ⟨_, _, rfl, h2⟩
  · cases h
def eMeth (c m : PySem.Str) (f : Fn) (mo : M Vl) (ms : M (List Vl)) : M Vl := fun ρ => (mo ρ).bind fun p => if isOb c m p.1 = true then eCall f [] (aCons (fun _ => some p) ms) ρ else none
section
variable {X : Cx} {e o : Expr} {es : List Expr} {mo : M Vl} {ms : M (List Vl)} {f : Fn} {c m : PySem.Str} {C g : Addr} {pos apos : Pos} {fd : FuncData} {ps : List Str} {k n : Nat}
theorem rep_ob {K : PySem.W.Frag} {F : Hp} {v : V} {ks : List PySem.Str} {xs : List D} (hC : ClsN K c C) (h : Rep K F v (.obj c ks xs)) : ∃ a dx vs, v = .ref a ∧ F a = some (.ins C dx (ks.zip vs)) ∧ vs.length = ks.length ∧ Reps K F vs xs := by
  cases h with
  | obj h1 h2 h3 h4 =>
    have := hC.uniq h1
    subst this
    exact ⟨_, _, _, rfl, h2, h3, h4⟩
theorem tmeth_of {K : PySem.W.Frag} {E : XK} (hC : ClsN K c C) (hn : ∀ gs z, f gs = some z → gs.length = n) {σ : L2.St} {H : Hp} {Q : VK} (h : tM K (eMeth c m f mo ms) σ H Q) : tMeth C m (spF K n f) [] E (tM K mo) (tMA K ms) σ H Q := by
  obtain ⟨G, ρ, F, r0, ρ', W, hm, q⟩ := h
  unfold eMeth at hm
  obtain ⟨⟨r, ρm⟩, e0, hm⟩ := Option.bind_eq_some_iff.mp hm
  dsimp only at hm
  split at hm
  · rename_i hb
    obtain ⟨ks, xs, rfl, hk⟩ := isOb_ok hb
    obtain ⟨rs, ρ1, e1, w⟩ := tcall_core (E := E) hn W hm q
    unfold aCons at e1
    obtain ⟨p, e2, e1⟩ := Option.bind_eq_some_iff.mp e1
    cases e2
    obtain ⟨⟨ys, ρ2⟩, e3, e1⟩ := Option.bind_eq_some_iff.mp e1
    cases e1
    refine tm_use W e0 fun v H1 F1 s1 R1 => ?_
    obtain ⟨a, dx, vs, rfl, ha, hl, _⟩ := rep_ob hC (show Rep K F1 v (.obj c ks xs) from R1)
    refine ⟨a, dx, _, rfl, s1.wd.sub _ _ ha, zip_lookup_none hk, G, ρm, F1, ys, ρ2, s1.wd, e3, fun us H2 F2 s2 R2 => ?_⟩
    show spF K n f (.ref a :: (us ++ [])) H2 Q E
    rw [List.append_nil]
    exact w (.ref a :: us) H2 F2 (s1.trans s2) ⟨R1.ste s2, R2⟩
  · cases hm
theorem se_meth {pl : Sem Bool} (hC : ClsN X.K c C) (cl : Cls X.K C) (hm : Meth X.K C m g) (F : FnOk X.prog X.w X.K X.mg X.base CX0 k g fd ps (spF X.K n f)) (hn : ∀ gs z, f gs = some z → gs.length = n) (hr : Room k X.A) (hb : Binds X.K fd ps [])
    (ho : SE X o mo) (ha : SA X (e :: es) ms)
    (hst : starEach (e :: es) X.env = (false, eval e X.env) :: starEach es X.env := by rfl) (hpl : (backTo pos (starEach es X.env)).any (·.1) = false := by rfl)
    (ht : eval (.Call (.Attribute o m apos) (e :: es) [] pos) X.env = (do
      let ov ← eval o X.env
      standAt apos.atName
      let (f, first) ← holding [ov] (getMethod ov m pl)
      callWith pos f first (backTo pos (starEach (e :: es) X.env)) (backToKw pos (keywordEach [] X.env))) := by rfl) :
    SE X (.Call (.Attribute o m apos) (e :: es) [] pos) (eMeth c m f mo ms) := pe_weak (pe_meth (pl := pl) ho cl hm F hr hb .nil pass0 ha hst hpl ht) fun _ _ _ h => tmeth_of hC hn h
theorem se_meth0 {pl : Sem Bool} (hC : ClsN X.K c C) (cl : Cls X.K C) (hm : Meth X.K C m g) (F : FnOk X.prog X.w X.K X.mg X.base CX0 k g fd ps (spF X.K n f)) (hn : ∀ gs z, f gs = some z → gs.length = n) (hr : Room k X.A) (hb : Binds X.K fd ps [])
    (ho : SE X o mo)
    (ht : eval (.Call (.Attribute o m apos) [] [] pos) X.env = (do
      let ov ← eval o X.env
      standAt apos.atName
      let (f, first) ← holding [ov] (getMethod ov m pl)
      callWith pos f first (backTo pos (starEach [] X.env)) (backToKw pos (keywordEach [] X.env))) := by rfl) :
    SE X (.Call (.Attribute o m apos) [] [] pos) (eMeth c m f mo aNil) := pe_weak (pe_meth0 (pl := pl) ho cl hm F hr hb .nil pass0 ht) fun σ H Q h => by
  obtain ⟨G, ρ, F, r0, ρ', W, hm, q⟩ := tmeth_of (E := E0) hC hn h
  refine ⟨G, ρ, F, r0, ρ', W, hm, fun v H' F' s R => ?_⟩
  obtain ⟨a, dx, fs, h1, h2, h3, G1, ρ1, F1, r1, ρ1', W1, hm1, q1⟩ := q v H' F' s R
  cases hm1
  exact ⟨a, dx, fs, h1, h2, h3, q1 [] H' F1 (Ste.refl W1) trivial⟩
/-! ### a property -/
def eProp (c : PySem.Str) (f : Fn) (mo : M Vl) : M Vl := eMeth c PySem.Str.empty f mo aNil
theorem se_prop {p : Addr} (hC : ClsN X.K c C) (cl : Cls X.K C) (hp : PropOf X.K C m p g) (F : FnOk X.prog X.w X.K X.mg X.base CX0 k g fd ps (spF X.K n f)) (hn : ∀ gs z, f gs = some z → gs.length = n) (hr : Room (k + 1) X.A) (hb : Binds X.K fd ps [])
    (ho : SE X o mo) (hab : attributeBase o m X.env (eval o X.env) = eval o X.env) : SE X (.Attribute o m pos) (eProp c f mo) := pe_weak (pe_prop ho cl hp F hr hb .nil pass0 hab) fun σ H Q h => by
  obtain ⟨G, ρ, F, r0, ρ', W, hm, q⟩ := tmeth_of (E := E0) hC hn h
  refine ⟨G, ρ, F, r0, ρ', W, hm, fun v H' F' s R => ?_⟩
  obtain ⟨a, dx, fs, h1, h2, h3, G1, ρ1, F1, r1, ρ1', W1, hm1, q1⟩ := q v H' F' s R
  cases hm1
  subst h1
  exact ⟨a, dx, fs, rfl, h2, q1 [] H' F1 (Ste.refl W1) trivial⟩
end
/-! ### operators -/
section
variable {X : Cx} {f : Fn} {c : PySem.Str} {C g : Addr} {fd : FuncData} {ps : List Str} {k n : Nat} {pins : List (Addr × Obj)} {σ : L2.St} {H : Hp} {s : Shared} {Q : VK}
theorem own_run {us : List Value} {vs : List V} (F : FnOk X.prog X.w X.K X.mg X.base CX0 k g fd ps (spF X.K n f)) (hr : Room k X.A) (hb : Binds X.K fd ps []) (I : Inv X pins σ H s) (r : Vals vs us) (h : spF X.K n f vs H Q E0) :
    wpAny (model X.prog X.w) X.A (call (.ref g) us) (EP X pins σ Q) X.xe s := run_fn F hr hb .nil pass0 I r (by rw [List.append_nil]; exact h)
theorem own_run1 {us : List Value} {vs : List V} {E' : Value → Shared → Prop} (F : FnOk X.prog X.w X.K X.mg X.base CX0 k g fd ps (spF X.K n f)) (hr : Room (k + 1) X.A) (hb : Binds X.K fd ps []) (I : Inv X pins σ H s) (r : Vals vs us) (h : spF X.K n f vs H Q E0) :
    wpAny (model X.prog X.w) X.A.in1 (call (.ref g) us) (EP X pins σ Q) E' s := by
  have hl : us.length = ps.length := by rw [← F.len _ _ _ _ h, ← r.length]
  have hb' := hb s us I.kIn (by simpa using hl)
  rw [List.append_nil] at hb'
  refine wpAny_call (codeAny_mono (F.run X.A.in1 X.stack s H ⟨us, []⟩ us vs Q E0 hr.in1 I.env0.in1 hb' r h) fun r s' hq => ?_)
  cases r with
  | error e => exact hq.elim
  | ok fl =>
    cases fl with
    | ret u => exact I.after hq
    | next => exact False.elim hq
    | brk => exact False.elim hq
    | cont => exact False.elim hq
/-- a def's promise at data -/
theorem spf_data {K : PySem.W.Frag} {F : Hp} {vs : List V} {gs : List Ag} {z : D} {os : List (List D)} (hlen : vs.length = n) (sF : Same F H) (hA : AgsR K F H vs gs) (hl : liA vs gs = []) (e : f gs = some (.fz z, os)) (q : ∀ v H' F', Alc F H F' H' → Rep K F' v z → Q v H') : spF K n f vs H Q E0 := by
  refine ⟨hlen, F, gs, .fz z, os, sF, hA, by rw [hl]; exact List.nodup_nil, e, fun v H' F' ff sub kp nf _ res => ?_⟩
  refine q v H' F' ⟨ff, sub, fun b o hb => kp b o hb (by rw [hl]; exact List.not_mem_nil), nf⟩ res
theorem ins_look {a dx : Addr} {fs : List (Str × V)} (I : Inv X pins σ H s) (ea : H a = some (.ins C dx fs)) : ∃ ox od, PySem.W.InstAt s.heap a ox C od := by
  obtain ⟨mA, J, _⟩ := ins_get I.hok ea
  obtain ⟨od, J, _⟩ := J.look
  exact ⟨_, _, J⟩
/-- a value of the layer is not NotImplemented -/
def IsV (K : PySem.W.Frag) (v : V) : Prop := ∃ F d, Rep K F v d
theorem isv_cmp {v : V} {u : Value} {K : PySem.W.Frag} {R : Value → Shared → Prop} {s' : Shared} (h : IsV K v) (r : RelV v u) (q : R u s') : PySem.W.CmpBack R u s' := by
  obtain ⟨F, d, h⟩ := h
  cases h with
  | non => cases r; exact q
  | bl b => cases r; exact q
  | int i => obtain ⟨t, rfl⟩ := r; exact q
  | str x => obtain ⟨t, rfl⟩ := r; exact q
  | lst _ _ => cases r; exact q
  | scr _ => cases r; exact q
  | tup _ _ => cases r; exact q
  | obj _ _ _ _ => cases r; exact q
theorem nl_rep {K : PySem.W.Frag} {F : Hp} {v : V} {x : D} (n : ∀ xs, x ≠ .lst xs) (h : Vw K H F v x) : Rep K F v x := by
  cases x with
  | lst xs => exact absurd rfl (n xs)
  | non => exact h
  | bl b => exact h
  | int i => exact h
  | str t => exact h
  | tup xs => exact h
  | scr xs => exact h
  | obj c ks xs => exact h
def isOf (c : PySem.Str) : D → Bool
  | .obj c' _ _ => decide (c' = c)
  | _ => false
theorem isOf_ok {x : D} (h : isOf c x = true) : ∃ ks xs, x = .obj c ks xs := by
  unfold isOf at h
  split at h
  · rw [decide_eq_true_eq] at h; subst h; exact ⟨_, _, rfl⟩
  · cases h
/-- x op y, both instances of the class -/
def rOwn2 (K : PySem.W.Frag) (C : Addr) (f : Fn) : R2 := fun x y H Q => ∃ a b dx dy fs gs, x = .ref a ∧ y = .ref b ∧ H a = some (.ins C dx fs) ∧ H b = some (.ins C dy gs) ∧ spF K 2 f [x, y] H (fun v H' => IsV K v ∧ Q v H') E0
def fOwn2 (c : PySem.Str) (f : Fn) : D → D → Option D := fun x y => if (isOf c x && isOf c y) = true then (f [.da x, .da y]).bind fun r => match r.1 with
  | .fz z => some z
  | _ => none else none
theorem os_own2 {K : PySem.W.Frag} (hC : ClsN K c C) : OpS K (rOwn2 K C f) (fOwn2 c f) := by
  intro H F v u x y z s hx hy e Q q
  unfold fOwn2 at e
  split at e
  · rename_i hc
    rw [Bool.and_eq_true] at hc
    obtain ⟨kx, xs, rfl⟩ := isOf_ok hc.1
    obtain ⟨ky, ys, rfl⟩ := isOf_ok hc.2
    obtain ⟨⟨r, os⟩, e1, e2⟩ := Option.bind_eq_some_iff.mp e
    have hx : Rep K F v _ := hx
    have hy : Rep K F u _ := hy
    obtain ⟨a, dx, vs, rfl, ha, _⟩ := rep_ob hC hx
    obtain ⟨b, dy, us, rfl, hb, _⟩ := rep_ob hC hy
    cases r with
    | fz w =>
      cases e2
      exact ⟨a, b, dx, dy, _, _, rfl, rfl, s _ _ ha, s _ _ hb, spf_data (gs := [.da (.obj c kx xs), .da (.obj c ky ys)]) rfl s ⟨hx, hy, trivial⟩ rfl e1 fun v H' F' A R => ⟨⟨F', _, R⟩, q v H' F' A R⟩⟩
    | fr w => cases e2
    | bw i => cases e2
  · cases e
theorem op_own {op : Operator} (hc : PySem.W.selfFirst X.K C = true) (hs : PySem.W.findIn X.K (.ref C) (PySem.dunder op.info.2) = some (some (.ref g))) (hf : PySem.W.isFn X.K (.ref g) = true)
    (F : FnOk X.prog X.w X.K X.mg X.base CX0 k g fd ps (spF X.K 2 f)) (hr : Room k X.A) (hb : Binds X.K fd ps []) : OpR X (binaryOp op) (rOwn2 X.K C f) := by
  intro pins s σ H x y v u Q I rx ry h
  obtain ⟨a, b, dx, dy, fs, gs, rfl, rfl, ha, hb', sp⟩ := h
  cases rx
  cases ry
  obtain ⟨ox, od, J⟩ := ins_look I ha
  obtain ⟨oy, od', J'⟩ := ins_look I hb'
  obtain ⟨m, hF⟩ := I.fr
  refine PySem.W.binop_K hF I.ok.mod.kin J J'.type hc hs hf (wpAny_mono (own_run F hr hb I (show Vals [V.ref a, V.ref b] [Value.ref a, Value.ref b] from .cons rfl (.cons rfl .nil)) sp) (fun w s' z => ?_) fun _ _ z => z)
  obtain ⟨v, H', I', rv, iv, q⟩ := z
  exact isv_cmp iv rv ⟨v, H', I', rv, q⟩
theorem oOwn {op : Operator} (hC : ClsN X.K c C) (hc : PySem.W.selfFirst X.K C = true) (hs : PySem.W.findIn X.K (.ref C) (PySem.dunder op.info.2) = some (some (.ref g))) (hf : PySem.W.isFn X.K (.ref g) = true)
    (F : FnOk X.prog X.w X.K X.mg X.base CX0 k g fd ps (spF X.K 2 f)) (hr : Room k X.A) (hb : Binds X.K fd ps []) : Op2 X (binaryOp op) (fOwn2 c f) := ⟨_, op_own hc hs hf F hr hb, os_own2 hC⟩
/-- ~x -/
def rOwnInv (K : PySem.W.Frag) (C : Addr) (f : Fn) : V → Hp → VK → Prop := fun x H Q => ∃ a dx fs, x = .ref a ∧ H a = some (.ins C dx fs) ∧ spF K 1 f [x] H Q E0
def fOwn1 (c : PySem.Str) (f : Fn) : D → Option D := fun x => if isOf c x = true then (f [.da x]).bind fun r => match r.1 with
  | .fz z => some z
  | _ => none else none
theorem us_ownInv {K : PySem.W.Frag} (hC : ClsN K c C) : UnS K (rOwnInv K C f) (fOwn1 c f) := by
  intro H F v x z s hx e Q q
  unfold fOwn1 at e
  split at e
  · rename_i hc
    obtain ⟨kx, xs, rfl⟩ := isOf_ok hc
    obtain ⟨⟨r, os⟩, e1, e2⟩ := Option.bind_eq_some_iff.mp e
    have hx : Rep K F v _ := hx
    obtain ⟨a, dx, vs, rfl, ha, _⟩ := rep_ob hC hx
    cases r with
    | fz w =>
      cases e2
      exact ⟨a, dx, _, rfl, s _ _ ha, spf_data (gs := [.da (.obj c kx xs)]) rfl s ⟨hx, trivial⟩ rfl e1 fun v H' F' A R => q v H' F' A R⟩
    | fr w => cases e2
    | bw i => cases e2
  · cases e
theorem un_ownInv (hs : PySem.W.findIn X.K (.ref C) "__invert__" = some (some (.ref g))) (hf : PySem.W.isFn X.K (.ref g) = true)
    (F : FnOk X.prog X.w X.K X.mg X.base CX0 k g fd ps (spF X.K 1 f)) (hr : Room k X.A) (hb : Binds X.K fd ps []) : UnR X (unaryOp .Invert) (rOwnInv X.K C f) := by
  intro pins s σ H x v Q I rx h
  obtain ⟨a, dx, fs, rfl, ha, sp⟩ := h
  cases rx
  obtain ⟨ox, od, J⟩ := ins_look I ha
  obtain ⟨m, hF⟩ := I.fr
  exact PySem.W.ksp_inv hF I.ok.mod.kin J hs hf (own_run F hr hb I (show Vals [V.ref a] [Value.ref a] from .cons rfl .nil) sp)
theorem se_inv {a : Expr} {ma : M Vl} {pos : Pos} (hC : ClsN X.K c C) (hs : PySem.W.findIn X.K (.ref C) "__invert__" = some (some (.ref g))) (hf : PySem.W.isFn X.K (.ref g) = true)
    (F : FnOk X.prog X.w X.K X.mg X.base CX0 k g fd ps (spF X.K 1 f)) (hr : Room k X.A) (hb : Binds X.K fd ps []) (ha : SE X a ma) : SE X (.UnaryOp .Invert a pos) (eUn (fOwn1 c f) ma) := se_un (un_ownInv hs hf F hr hb) (us_ownInv hC) ha
/-- x in y, y an instance -/
def rOwnIn (K : PySem.W.Frag) (C : Addr) (f : Fn) (neg : Bool) : R2 := fun x y H Q => ∃ a dx fs, y = .ref a ∧ H a = some (.ins C dx fs) ∧ spF K 2 f [y, x] H (fun v H' => ∃ b, v = .bl b ∧ Q (.bl (b != neg)) H') E0
def notL : D → Bool
  | .lst _ => false
  | _ => true
theorem notL_ok {x : D} (h : notL x = true) : ∀ xs, x ≠ .lst xs := fun xs e => by subst e; cases h
def fOwnIn (c : PySem.Str) (f : Fn) (neg : Bool) : D → D → Option D := fun x y => if (isOf c y && notL x) = true then (f [.da y, .da x]).bind fun r => match r.1 with
  | .fz (.bl b) => some (.bl (b != neg))
  | _ => none else none
theorem os_ownIn {K : PySem.W.Frag} {neg : Bool} (hC : ClsN K c C) : OpS K (rOwnIn K C f neg) (fOwnIn c f neg) := by
  intro H F v u x y z s hx hy e Q q
  unfold fOwnIn at e
  split at e
  · rename_i hc
    rw [Bool.and_eq_true] at hc
    obtain ⟨ky, ys, rfl⟩ := isOf_ok hc.1
    obtain ⟨⟨r, os⟩, e1, e2⟩ := Option.bind_eq_some_iff.mp e
    have hx := nl_rep (notL_ok hc.2) hx
    have hy : Rep K F u _ := hy
    obtain ⟨a, dx, vs, rfl, ha, _⟩ := rep_ob hC hy
    dsimp only at e2
    split at e2
    · rename_i b
      cases e2
      refine ⟨a, dx, _, rfl, s _ _ ha, spf_data (gs := [.da (.obj c ky ys), .da x]) rfl s ⟨hy, hx, trivial⟩ (by cases v <;> rfl) e1 fun v H' F' A R => ?_⟩
      cases R
      exact ⟨b, rfl, q _ H' F' A (.bl _)⟩
    · cases e2
  · cases e
theorem op_ownIn (hs : PySem.W.findIn X.K (.ref C) "__contains__" = some (some (.ref g))) (hf : PySem.W.isFn X.K (.ref g) = true)
    (F : FnOk X.prog X.w X.K X.mg X.base CX0 k g fd ps (spF X.K 2 f)) (hr : Room k X.A) (hb : Binds X.K fd ps []) : OpR X (compareOp .In) (rOwnIn X.K C f false) := by
  intro pins s σ H x y v u Q I rx ry h
  obtain ⟨a, dx, fs, rfl, ha, sp⟩ := h
  cases ry
  obtain ⟨ox, od, J⟩ := ins_look I ha
  obtain ⟨m, hF⟩ := I.fr
  refine PySem.W.in_K hF I.ok.mod.kin J hs hf (wpAny_mono (own_run F hr hb I (show Vals [V.ref a, x] [Value.ref a, v] from .cons rfl (.cons rx .nil)) sp) (fun w s' z => ?_) fun _ _ z => z)
  obtain ⟨v, H', I', rv, b, rfl, q⟩ := z
  cases rv
  rw [show (b != false) = b by cases b <;> rfl] at q
  exact wpAny_truthy_bool (show EP X pins σ Q (.bool b) _ from ⟨.bl b, H', I', rfl, q⟩)
theorem op_ownNi (hs : PySem.W.findIn X.K (.ref C) "__contains__" = some (some (.ref g))) (hf : PySem.W.isFn X.K (.ref g) = true)
    (F : FnOk X.prog X.w X.K X.mg X.base CX0 k g fd ps (spF X.K 2 f)) (hr : Room k X.A) (hb : Binds X.K fd ps []) : OpR X (compareOp .NotIn) (rOwnIn X.K C f true) := by
  intro pins s σ H x y v u Q I rx ry h
  obtain ⟨a, dx, fs, rfl, ha, sp⟩ := h
  cases ry
  obtain ⟨ox, od, J⟩ := ins_look I ha
  obtain ⟨m, hF⟩ := I.fr
  refine PySem.W.notIn_K hF I.ok.mod.kin J hs hf (wpAny_mono (own_run F hr hb I (show Vals [V.ref a, x] [Value.ref a, v] from .cons rfl (.cons rx .nil)) sp) (fun w s' z => ?_) fun _ _ z => z)
  obtain ⟨v, H', I', rv, b, rfl, q⟩ := z
  cases rv
  rw [show (b != true) = (!b) by cases b <;> rfl] at q
  exact wpAny_truthy_bool (show EP X pins σ Q (.bool (!b)) _ from ⟨.bl (!b), H', I', rfl, q⟩)
theorem oOwnIn (hC : ClsN X.K c C) (hs : PySem.W.findIn X.K (.ref C) "__contains__" = some (some (.ref g))) (hf : PySem.W.isFn X.K (.ref g) = true)
    (F : FnOk X.prog X.w X.K X.mg X.base CX0 k g fd ps (spF X.K 2 f)) (hr : Room k X.A) (hb : Binds X.K fd ps []) : Op2 X (compareOp .In) (fOwnIn c f false) := ⟨_, op_ownIn hs hf F hr hb, os_ownIn hC⟩
theorem oOwnNi (hC : ClsN X.K c C) (hs : PySem.W.findIn X.K (.ref C) "__contains__" = some (some (.ref g))) (hf : PySem.W.isFn X.K (.ref g) = true)
    (F : FnOk X.prog X.w X.K X.mg X.base CX0 k g fd ps (spF X.K 2 f)) (hr : Room k X.A) (hb : Binds X.K fd ps []) : Op2 X (compareOp .NotIn) (fOwnIn c f true) := ⟨_, op_ownNi hs hf F hr hb, os_ownIn hC⟩
/-- len(x), x an instance -/
def rOwnLen (K : PySem.W.Frag) (C : Addr) (f : Fn) : List V → Hp → VK → Prop := fun vs H Q => ∃ a dx fs, vs = [.ref a] ∧ H a = some (.ins C dx fs) ∧ spF K 1 f [.ref a] H (fun v H' => ∃ i, v = .int i ∧ (0 ≤ i ∧ i < 2 ^ 63) ∧ Q (.int i) H') E0
def cOwnLen (c : PySem.Str) (f : Fn) : List D → Option D
  | [x] => if isOf c x = true then (f [.da x]).bind fun r => match r.1 with
    | .fz (.int i) => if 0 ≤ i ∧ i < 1000000000 then some (.int i) else none
    | _ => none else none
  | _ => none
theorem cs_ownLen {K : PySem.W.Frag} (hC : ClsN K c C) : CallS K (rOwnLen K C f) (cOwnLen c f) := by
  intro H F vs xs z s hx e Q q
  unfold cOwnLen at e
  split at e
  · rename_i x
    obtain ⟨v, rfl, hv⟩ := vws1 hx
    split at e
    · rename_i hc
      obtain ⟨kx, xs, rfl⟩ := isOf_ok hc
      obtain ⟨⟨r, os⟩, e1, e2⟩ := Option.bind_eq_some_iff.mp e
      have hx : Rep K F v _ := hv
      obtain ⟨a, dx, vs, rfl, ha, _⟩ := rep_ob hC hx
      dsimp only at e2
      split at e2
      · rename_i i
        split at e2
        · rename_i hi
          cases e2
          refine ⟨a, dx, _, rfl, s _ _ ha, spf_data (gs := [.da (.obj c kx xs)]) rfl s ⟨hx, trivial⟩ rfl e1 fun v H' F' A R => ?_⟩
          cases R
          exact ⟨i, rfl, ⟨hi.1, Int.lt_trans hi.2 (by decide)⟩, q _ H' F' A (.int _)⟩
        · cases e2
      · cases e2
    · cases e
  · cases e
theorem cr_ownLen (hs : PySem.W.findIn X.K (.ref C) "__len__" = some (some (.ref g))) (hf : PySem.W.isFn X.K (.ref g) = true)
    (F : FnOk X.prog X.w X.K X.mg X.base CX0 k g fd ps (spF X.K 1 f)) (hr : Room (k + 1) X.A) (hb : Binds X.K fd ps []) : CallR X (.builtin "len") (rOwnLen X.K C f) := by
  intro pins s σ H vs us Q I r h
  obtain ⟨a, dx, fs, rfl, ha, sp⟩ := h
  obtain ⟨u, rfl, ru⟩ := vals1 r
  obtain rfl : u = Value.ref a := ru
  obtain ⟨ox, od, J⟩ := ins_look I ha
  obtain ⟨m, hF⟩ := I.fr
  refine PySem.W.len_K hF I.ok.mod.kin J hs hf (wpAny_mono (own_run1 F hr hb I (show Vals [V.ref a] [Value.ref a] from .cons rfl .nil) sp) (fun w s' z => ?_) fun _ _ z => z)
  obtain ⟨v, H', I', rv, i, rfl, hi, q⟩ := z
  obtain ⟨t, rfl⟩ := rv
  exact ⟨hi, .int i, H', I'.tok _, ⟨_, rfl⟩, q⟩
end
/-! ### isinstance(x, C) -/
structure IsiC (K : PySem.W.Frag) (C : Addr) : Prop where
  ha : PySem.W.findIn K (.ref C) "__class__" = some (some (.builtin "object.__class__"))
  hn : PySem.W.specialIn K (.builtin "object.__class__") "__get__" = some (some (.builtin "getset_descriptor.__get__"))
  tk : PySem.W.takesIn K (.builtin "object.__class__") = some true
  hm : PySem.W.mroIn K C (.type "object") = some true
  no : PySem.W.kitOne K (.type "NoneType") (.ref C) = some false
  bl : PySem.W.kitOne K (.type "bool") (.ref C) = some false
  it : PySem.W.kitOne K (.type "int") (.ref C) = some false
  st : PySem.W.kitOne K (.type "str") (.ref C) = some false
  ls : PySem.W.kitOne K (.type "list") (.ref C) = some false
  tp : PySem.W.kitOne K (.type "tuple") (.ref C) = some false
def fIsC (c : PySem.Str) : D → Option D
  | .obj c' _ _ => if c' = c then some (.bl true) else none
  | _ => some (.bl false)
section
variable {X : Cx} {a : Expr} {ma : M Vl} {pos p p2 : Pos} {c y : PySem.Str} {C : Addr}
theorem se_isC (hm : X.mg "isinstance" = none) (hg : Gl X "isinstance") (hC : ClsN X.K c C) (cl : Cls X.K C) (i : IsiC X.K C) (hm2 : X.mg y = some (.ref C)) (hg2 : Gl X y) (ha : SE X a ma) (hdb : (y == ("__debug__" : Str)) = false := by decide)
    (he : starEach [a, .Name y p2] X.env = (false, eval a X.env) :: starEach [.Name y p2] X.env := by rfl) (he2 : starEach [.Name y p2] X.env = (false, eval (.Name y p2) X.env) :: starEach [] X.env := by rfl) (hpl : (backTo pos (starEach [.Name y p2] X.env)).any (·.1) = false := by rfl) :
    SE X (.Call (.Name "isinstance" p) [a, .Name y p2] [] pos) (eUn (fIsC c) ma) := by
  have pT : PE X (.Name y p2) (tC (.ref C)) := pe_glob hg2 hm2 rfl hdb
  refine pe_weak (pe_callB call_isi hg hm (by decide +kernel) (pa_cons ha (pa_cons pT pa_nil he2) he) (by decide) (by decide) he hpl) fun σ H Q ⟨G, ρ, F, r0, ρ', W, hm, q⟩ => ?_
  unfold eUn at hm
  obtain ⟨⟨x, ρ1⟩, e1, hm⟩ := Option.bind_eq_some_iff.mp hm
  obtain ⟨dx, e3, hm⟩ := Option.bind_eq_some_iff.mp hm
  obtain ⟨dz, e5, hm⟩ := Option.bind_eq_some_iff.mp hm
  cases hm
  refine tm_use W e1 fun v H1 F1 s1 R1 => ?_
  have hv := vw_of s1.wd R1 e3
  by_cases io : ∃ c' ks xs, dx = .obj c' ks xs
  · obtain ⟨c', ks, xs, rfl⟩ := io
    have e6 : (if c' = c then some (D.bl true) else none) = some dz := e5
    split at e6
    · rename_i ec
      subst ec
      obtain rfl : D.bl true = dz := Option.some.inj e6
      obtain ⟨b, dx, vs, rfl, hb, _⟩ := rep_ob hC (show Rep X.K F1 v (.obj c' ks xs) from hv)
      exact ⟨.ref b, .ref C, .ref C, .ref C, true, rfl, .own C, .base (.ins (s1.wd.sub _ _ hb) cl i.ha i.hn i.tk i.hm), by unfold PySem.W.kitOne; rw [if_pos (beq_self_eq_true _)], q _ H1 F1 s1 (.bl true)⟩
    · cases e6
  · have no : ∀ c ks xs, dx ≠ .obj c ks xs := fun c ks xs e => io ⟨c, ks, xs, e⟩
    have e6 : dz = .bl false := by
      cases dx <;> first | (exact absurd rfl (no _ _ _)) | (cases e5; rfl)
    subst e6
    refine ⟨v, .ref C, _, .ref C, false, rfl, .own C, tyx no s1.wd.sub hv, ?_, q _ H1 F1 s1 (.bl false)⟩
    cases dx with
    | non => exact i.no
    | bl b => exact i.bl
    | int j => exact i.it
    | str t => exact i.st
    | lst xs => exact i.ls
    | tup xs => exact i.tp
    | scr xs => exact i.ls
    | obj c ks xs => exact absurd rfl (no _ _ _)
end
end Sw
/-! Sw32: calls that leave arguments to their defaults; == by an own __eq__. -/
namespace Sw
open PySem PySem.Spec PyProof.Rows L2
theorem fund_g {K : PySem.W.Frag} {x qual : PySem.Str} {st : Stmt} {f : Addr} {fd : FuncData} {dvs : List V} {kws : List (Str × V)} (F : FunD K x qual (defArgs st) (defBody st) (defScope st) dvs kws f fd) : FunG K x qual st f fd := by
  obtain ⟨oc, od, dV, kV, doc, pm, an, cdv, ct, osl, e, lk, hcd, _, _⟩ := F.ex
  exact ⟨oc, od, dV, kV, doc, pm, an, cdv, ct, osl, e, lk, hcd⟩
theorem fund_mk {K : PySem.W.Frag} {x qual : Str} {st : Stmt} {f T : Addr} {oc : Value} {od an : Option Addr} {osl : Array (Option Value)} {kV doc pm cdv ct : Value} {dvs : List V} {oT : Obj} {its : List Value} {nT : Nat} (l : K.lookup f = some ⟨oc, od, .func (PySem.W.fnOf x qual (defArgs st) (defBody st) (defScope st) (.ref T) kV doc pm an cdv ct), osl⟩)
    (c : PySem.W.codeIn K cdv qual = true) (k : PySem.W.keepIn K (.ref f) = true) (lT : K.lookup T = some oT) (dT : oT.data = .seq its.toArray nT) (hd : dvs ≠ []) (r : Vals dvs its) :
    FunD K x qual (defArgs st) (defBody st) (defScope st) dvs [] f (PySem.W.fnOf x qual (defArgs st) (defBody st) (defScope st) (.ref T) kV doc pm an cdv ct) :=
  ⟨⟨oc, od, .ref T, kV, doc, pm, an, cdv, ct, osl, rfl, l, c, .inr ⟨hd, T, oT, its, nT, rfl, lT, dT, r⟩, .inl rfl⟩, k⟩
theorem binds_all {K : PySem.W.Frag} {fd : FuncData} {ps : List Str} (h : ∃ ds, Vals [] ds ∧ Binds K fd ps ds) : Binds K fd ps [] := by
  obtain ⟨ds, v, b⟩ := h
  cases v
  exact b
/-- constants of data -/
def CstV (K : PySem.W.Frag) : List V → List D → Prop
  | [], [] => True
  | v :: vs, d :: ds => (∀ F : Hp, Rep K F v d) ∧ CstV K vs ds
  | _, _ => False
theorem VlSs.cst {K : PySem.W.Frag} {σ : L2.St} {F : Hp} : ∀ {vs : List V} {rs : List Vl} {dvs : List V} {ds : List D}, VlSs K σ F vs rs → CstV K dvs ds → VlSs K σ F (vs ++ dvs) (rs ++ ds.map .fz)
  | [], [], [], [], _, _ => trivial
  | [], [], _ :: _, _ :: _, h, c => ⟨c.1 F, VlSs.cst (vs := []) (rs := []) h c.2⟩
  | [], [], [], _ :: _, _, c => c.elim
  | [], [], _ :: _, [], _, c => c.elim
  | v :: vs, r :: rs, dvs, ds, h, c => ⟨h.1, VlSs.cst h.2 c⟩
  | [], _ :: _, _, _, h, _ => h.elim
  | _ :: _, [], _, _, h, _ => h.elim
/-- the arguments that are written, then the defaults -/
def aDef (ms : M (List Vl)) (ds : List D) : M (List Vl) := fun ρ => (ms ρ).bind fun p => some (p.1 ++ ds.map .fz, p.2)
section
variable {X : Cx} {e : Expr} {es : List Expr} {ms : M (List Vl)} {f : Fn} {fs : List Bool} {x : Str} {p pos : Pos} {fa : Addr} {fd : FuncData} {ps : List Str} {k n : Nat} {dvs : List V} {ds : List D} {dus : List Value}
theorem tcallD_of {K : PySem.W.Frag} {E : XK} (c : CstV K dvs ds) (hn : ∀ gs z, f gs = some z → gs.length = n) {σ : L2.St} {H : Hp} {Q : VK} (h : tM K (eCall f fs (aDef ms ds)) σ H Q) : tCall (spF K n f) dvs E (tMA K ms) σ H Q := by
  obtain ⟨G, ρ, F, r0, ρ', W, hm, q⟩ := h
  obtain ⟨rs, ρ1, e1, w⟩ := tcall_core (E := E) hn W hm q
  unfold aDef at e1
  obtain ⟨⟨ys, ρ2⟩, e2, e1⟩ := Option.bind_eq_some_iff.mp e1
  cases e1
  exact ⟨G, ρ, F, ys, ρ2, W, e2, fun vs H1 F1 s1 R1 => w (vs ++ dvs) H1 F1 s1 (R1.cst c)⟩
theorem se_callD (F : FnOk X.prog X.w X.K X.mg X.base CX0 k fa fd ps (spF X.K n f)) (hn : ∀ gs z, f gs = some z → gs.length = n) (hr : Room k X.A) (hm : X.mg x = some (.ref fa)) (hk : PySem.W.keepIn X.K (.ref fa) = true) (hb : ∃ dus, Vals dvs dus ∧ Binds X.K fd ps dus) (c : CstV X.K dvs ds) (hg : Gl X x)
    (ha : SA X (e :: es) ms) (hdb : (x == ("__debug__" : Str)) = false := by decide) (he : starEach (e :: es) X.env = (false, eval e X.env) :: starEach es X.env := by rfl) (hpl : (backTo pos (starEach es X.env)).any (·.1) = false := by rfl) :
    SE X (.Call (.Name x p) (e :: es) [] pos) (eCall f fs (aDef ms ds)) := by
  obtain ⟨dus, hd, hb⟩ := hb
  exact pe_weak (pe_call F hr hg hm hk hb hd pass0 ha hdb he hpl) fun _ _ _ h => tcallD_of c hn h
theorem se_make0 {c : PySem.Str} {C fi : Addr} {g : List D → Option (List PySem.Str × List D)} (M : Mk X.K C fi) (hC : ClsN X.K c C) (F : FnOk X.prog X.w X.K X.mg X.base CX0 k fi fd ps (spI X.K C n g)) (hn : ∀ ds z, g ds = some z → ds.length = n) (hr : Room (k + 1) X.A) (hg : Gl X x) (hm : X.mg x = some (.ref C)) (hb : ∃ dus, Vals dvs dus ∧ Binds X.K fd ps dus) (cs : CstV X.K dvs ds)
    (hdb : (x == ("__debug__" : Str)) = false := by decide) : SE X (.Call (.Name x p) [] [] pos) (eMake c g (aDef aNil ds)) := by
  obtain ⟨dus, hd, hb⟩ := hb
  refine pe_weak (pe_make0 M F hr hg hm hb hd pass0 hdb) fun σ H Q h => ?_
  have h2 := tmake_of (E := E0) hC hn h
  obtain ⟨G, ρ, F, rs, ρ1, W, e1, w⟩ := h2
  unfold aDef aNil at e1
  cases e1
  have h3 := w dvs H F (Ste.refl W) (VlSs.cst (vs := []) (rs := []) (K := X.K) (σ := σ) (F := F) trivial cs)
  intro y dy hy hdy hne
  have := h3 y dy hy hdy hne
  rw [List.append_nil] at this
  exact this
end
/-! ### == by an own __eq__ -/
section
variable {X : Cx} {f : Fn} {c : PySem.Str} {C g : Addr} {fd : FuncData} {ps : List Str} {k n : Nat}
/-- x == y, x an instance whose own __eq__ answers with a bool -/
def rOwnEq (K : PySem.W.Frag) (C : Addr) (f : Fn) : R2 := fun x y H Q => ∃ a dx fs t, x = .ref a ∧ H a = some (.ins C dx fs) ∧ TyX K H y t ∧ PySem.W.notFirst K C t = true ∧ spF K 2 f [x, y] H (fun v H' => ∃ b, v = .bl b ∧ Q (.bl b) H') E0
end
end Sw
/-! Sw33: reckoning with methods, own operators; texts picked out of a text. -/
namespace Sw
open L2
section
variable {ρ : Rho} {c m : PySem.Str} {f : Fn} {mo : M Vl} {ms : M (List Vl)} {Q : Vl → Rho → Prop}
theorem ev_meth (h : Ev mo ρ fun r ρ1 => ∃ x, r = .fz x ∧ isOb c m (.fz x) = true ∧ Ev (eCall f [] (aCons (eC x) ms)) ρ1 Q) : Ev (eMeth c m f mo ms) ρ Q := by
  obtain ⟨r, ρ1, e1, x, rfl, hb, r2, ρ2, e2, q⟩ := h
  refine ⟨r2, ρ2, ?_, q⟩
  unfold eMeth
  rw [e1]
  show (if isOb c m (.fz x) = true then _ else none) = _
  rw [if_pos hb]
  exact e2
theorem ev_prop (h : Ev mo ρ fun r ρ1 => ∃ x, r = .fz x ∧ isOb c PySem.Str.empty (.fz x) = true ∧ Ev (eCall f [] (aCons (eC x) aNil)) ρ1 Q) : Ev (eProp c f mo) ρ Q := ev_meth h
end
section
variable {c : PySem.Str} {f : Fn} {x y : D} {Q : D → Prop} {g h : D → D → Option D}
theorem giv_own2 (hx : isOf c x = true) (hy : isOf c y = true) (q : Fv f [.da x, .da y] fun r _ => ∃ z, r = .fz z ∧ Q z) : Giv (fOwn2 c f x y) Q := by
  obtain ⟨r, os, e, z, rfl, q⟩ := q
  refine ⟨z, ?_, q⟩
  unfold fOwn2
  rw [hx, hy, if_pos (show (true && true) = true from rfl), e]
  rfl
theorem giv_own1 (hx : isOf c x = true) (q : Fv f [.da x] fun r _ => ∃ z, r = .fz z ∧ Q z) : Giv (fOwn1 c f x) Q := by
  obtain ⟨r, os, e, z, rfl, q⟩ := q
  refine ⟨z, ?_, q⟩
  unfold fOwn1
  rw [if_pos hx, e]
  rfl
theorem giv_ownIn {neg : Bool} (hy : isOf c y = true) (hx : notL x = true) (q : Fv f [.da y, .da x] fun r _ => ∃ b, r = .fz (.bl b) ∧ Q (.bl (b != neg))) : Giv (fOwnIn c f neg x y) Q := by
  obtain ⟨r, os, e, b, rfl, q⟩ := q
  refine ⟨_, ?_, q⟩
  unfold fOwnIn
  rw [hx, hy, if_pos (show (true && true) = true from rfl), e]
  rfl
theorem giv_orl (h1 : Giv (g x y) Q) : Giv (orF g h x y) Q := by
  obtain ⟨z, e, q⟩ := h1
  exact ⟨z, by unfold orF; rw [e], q⟩
theorem giv_orr (h0 : g x y = none) (h1 : Giv (h x y) Q) : Giv (orF g h x y) Q := by
  obtain ⟨z, e, q⟩ := h1
  exact ⟨z, by unfold orF; rw [h0]; exact e, q⟩
theorem giv_isC {ks : List PySem.Str} {xs : List D} (q : Q (.bl true)) : Giv (fIsC c (.obj c ks xs)) Q := giv (by show (if c = c then _ else _) = _; rw [if_pos rfl]) q
theorem isOf_obj {ks : List PySem.Str} {xs : List D} : isOf c (.obj c ks xs) = true := by unfold isOf; exact decide_eq_true rfl
end
theorem obp {c m : PySem.Str} {x : D} {P : D → Prop} (h : isOb c m (.fz x) = true) (q : P x) : ∃ x', Vl.fz x = .fz x' ∧ isOb c m (.fz x') = true ∧ P x' := ⟨x, rfl, h, q⟩
theorem isOb_obj {c m : PySem.Str} {ks : List PySem.Str} {xs : List D} (h : ks.contains m = false) : isOb c m (.fz (.obj c ks xs)) = true := by
  show (decide (c = c) && !ks.contains m) = true
  rw [h, decide_eq_true rfl]
  rfl
theorem fzp {x : D} {P : D → Prop} (q : P x) : ∃ z, Vl.fz x = .fz z ∧ P z := ⟨x, rfl, q⟩
theorem fbp {b : Bool} {P : Bool → Prop} (q : P b) : ∃ z, Vl.fz (.bl b) = .fz (.bl z) ∧ P z := ⟨b, rfl, q⟩
/-- [c for c in src if test] of signs, the test changes nothing -/
theorem ev_pick {ρ : Rho} {v : Nat} {src : M (List D)} {t : M Bool} {Q : Vl → Rho → Prop} (cs : List Nat) (p : Nat → Bool) (hv : plainSl ρ[v]? = true) (hl : cs.length ≤ lim) (hs : ∀ {Q' : List D → Rho → Prop}, Q' (cs.map fun c => .str [c]) ρ → Ev src ρ Q')
    (ht : ∀ c ∈ cs, ∀ {Q' : Bool → Rho → Prop}, Q' (p c) (ρ.set v (.d (.str [c]))) → Ev t (ρ.set v (.d (.str [c]))) Q') (q : Q (.fr ((cs.filter p).map fun c => .str [c])) ρ) : Ev (eLc [v] src (gN v) t (eVar v)) ρ Q := by
  have hvl := plain_io hv
  exact ev_lcf cs (fun c => .str [c]) p (fun c => .str [c]) hv hl hs ht (fun c _ _ Q' q' => ev_vd (by rw [List.getElem?_set_self hvl]) q') q
theorem giv_pick {cs : List Nat} {Q : D → Prop} (hl : cs.length ≤ lim) (q : Q (.str cs)) : Giv (fJoin (.str []) [.lst (cs.map fun c => .str [c])]) Q := giv (join_signs hl) q
theorem sub_takeY {ts cs : List Nat} {i c : Nat} (h : ts.Sublist (cs.take i)) (hi : cs[i]? = some c) : (ts ++ [c]).Sublist (cs.take (i + 1)) := by
  rw [take_s hi]
  exact h.append (List.Sublist.refl _)
theorem sub_takeN {ts cs : List Nat} {i c : Nat} (h : ts.Sublist (cs.take i)) (hi : cs[i]? = some c) : ts.Sublist (cs.take (i + 1)) := by
  rw [take_s hi]
  exact h.trans (List.sublist_append_left _ _)
theorem set_same {ρ : Rho} {v : Nat} (hv : ρ[v]? = some .no) : ρ.set v .no = ρ := by
  obtain ⟨h, e⟩ := List.getElem?_eq_some_iff.mp hv
  rw [← e]
  exact List.set_getElem_self h
/-- [c for c in src if test] of signs, the test draws -/
theorem ev_pickR {e : Int} {v : Nat} {src : M (List D)} {t : M Bool} {Q : Vl → Rho → Prop} (P : List D → Rho) (cs : List Nat) {ds0 : List D} (h0 : DrE e ds0) (hv : ∀ ds, (P ds)[v]? = some .no) (hl : cs.length ≤ lim)
    (hs : ∀ {Q' : List D → Rho → Prop}, Q' (cs.map fun c => .str [c]) (P ds0) → Ev src (P ds0) Q')
    (ht : ∀ c ∈ cs, ∀ ds, DrE e ds → ∀ {Q' : Bool → Rho → Prop}, (∀ b ds', DrE e ds' → Q' b ((P ds').set v (.d (.str [c])))) → Ev t ((P ds).set v (.d (.str [c]))) Q')
    (q : ∀ (ts : List Nat) ds', ts.Sublist cs → DrE e ds' → Q (.fr (ts.map fun c => .str [c])) (P ds')) : Ev (eLc [v] src (gN v) t (eVar v)) (P ds0) Q := by
  have hvl : ∀ ds, v < (P ds).length := fun ds => (List.getElem?_eq_some_iff.mp (hv ds)).1
  refine ev_lc (fun k acc ρ => ∃ (ts : List Nat) (ds : List D), acc = ts.map (fun c => D.str [c]) ∧ ts.Sublist (cs.take k) ∧ DrE e ds ∧ ρ = P ds) (hs ?_)
  refine ⟨by simp only [List.all_cons, hv, List.all_nil]; rfl, ⟨[], ds0, rfl, List.nil_sublist _, h0, ?_⟩, ?_, ?_⟩
  · show (P ds0).set v .no = _
    exact set_same (hv ds0)
  · rintro i x hx acc ρ ⟨ts, ds, rfl, hts, hd, rfl⟩
    rw [List.getElem?_map] at hx
    cases hi : cs[i]? with
    | none => rw [hi] at hx; cases hx
    | some c =>
      rw [hi] at hx
      cases hx
      refine ⟨(P ds).set v (.d (.str [c])), asg_z (by rw [hv ds]; rfl), ht c (List.mem_of_getElem? hi) ds hd fun b ds' hd' => ?_⟩
      have hn : ts.length < lim := by
        have h1 := hts.length_le
        have h2 := (List.getElem?_eq_some_iff.mp hi).1
        rw [List.length_take] at h1
        omega
      refine ⟨fun _ => ev_vd (by rw [List.getElem?_set_self (hvl ds')]) ⟨_, _, rfl, by rw [List.length_map]; exact hn, ts ++ [c], ds', by rw [List.map_append]; rfl, sub_takeY hts hi, hd', ?_⟩, fun _ => ⟨ts, ds', rfl, sub_takeN hts hi, hd', ?_⟩⟩
      · show ((P ds').set v (.d (.str [c]))).set v .no = _
        rw [List.set_set, set_same (hv ds')]
      · show ((P ds').set v (.d (.str [c]))).set v .no = _
        rw [List.set_set, set_same (hv ds')]
  · rintro acc ρ' ⟨ts, ds, rfl, hts, hd, rfl⟩
    rw [List.length_map, List.take_length] at hts
    show Q _ ((P ds).set v (((P ds0)[v]?).getD .no))
    rw [hv ds0]
    show Q _ ((P ds).set v .no)
    rw [set_same (hv ds)]
    exact q ts ds hts hd
/-- [expr for x in src], the expression draws -/
theorem ev_lcR {α : Type} {e : Int} {v : Nat} {src : M (List D)} {ex : M Vl} {Q : Vl → Rho → Prop} (P : List D → Rho) (d : α → D) (G : α → Prop) (S : List D → Prop) {ds0 : List D} (hv : ∀ ds, (P ds)[v]? = some .no) (hl : ∀ xs, S xs → xs.length ≤ lim)
    (hs : ∀ {Q' : List D → Rho → Prop}, (∀ xs ds', S xs → DrE e ds' → Q' xs (P ds')) → Ev src (P ds0) Q')
    (he : ∀ xs, S xs → ∀ x ∈ xs, ∀ ds, DrE e ds → ∀ {Q' : Vl → Rho → Prop}, (∀ a ds', G a → DrE e ds' → Q' (.fz (d a)) ((P ds').set v (.d x))) → Ev ex ((P ds).set v (.d x)) Q')
    (q : ∀ xs (as : List α) ds', S xs → as.length = xs.length → (∀ a ∈ as, G a) → DrE e ds' → Q (.fr (as.map d)) (P ds')) : Ev (eLc [v] src (gN v) tYesM ex) (P ds0) Q := by
  have hvl : ∀ ds, v < (P ds).length := fun ds => (List.getElem?_eq_some_iff.mp (hv ds)).1
  refine ev_lc (fun k acc ρ => ∃ (as : List α) (ds : List D), acc = as.map d ∧ as.length = k ∧ (∀ a ∈ as, G a) ∧ DrE e ds ∧ ρ = P ds) (hs fun xs ds1 hS hd1 => ?_)
  refine ⟨by simp only [List.all_cons, hv, List.all_nil]; rfl, ⟨[], ds1, rfl, rfl, fun a h => absurd h List.not_mem_nil, hd1, ?_⟩, ?_, ?_⟩
  · show (P ds1).set v .no = _
    exact set_same (hv ds1)
  · rintro i x hx acc ρ ⟨as, ds, rfl, hk, hG, hd, rfl⟩
    refine ⟨(P ds).set v (.d x), asg_z (by rw [hv ds]; rfl), ev_tyes ?_⟩
    refine brn_t (he xs hS x (List.mem_of_getElem? hx) ds hd fun a ds' ga hd' => ?_)
    refine ⟨_, _, rfl, ?_, as ++ [a], ds', by rw [List.map_append]; rfl, by rw [List.length_append, hk]; rfl, fun b hb => ?_, hd', ?_⟩
    · rw [List.length_map, hk]
      have := (List.getElem?_eq_some_iff.mp hx).1
      have := hl xs hS
      omega
    · rcases List.mem_append.mp hb with h | h
      · exact hG b h
      · rw [List.mem_singleton.mp h]; exact ga
    · show ((P ds').set v (.d x)).set v .no = _
      rw [List.set_set, set_same (hv ds')]
  · rintro acc ρ' ⟨as, ds, rfl, hk, hG, hd, rfl⟩
    show Q _ ((P ds).set v (((P ds1)[v]?).getD .no))
    rw [hv ds1]
    show Q _ ((P ds).set v .no)
    rw [set_same (hv ds)]
    exact q xs as ds hS hk hG hd
end Sw
/-! Sw34: == by an own __eq__, len of an instance or another thing, text.count(sign). -/
namespace Sw
open PySem PySem.Spec PyProof.Rows L2
section
variable {X : Cx} {f : Fn} {c : PySem.Str} {C g : Addr} {fd : FuncData} {ps : List Str} {k n : Nat}
/-- no built-in type is a subclass -/
structure EqC (K : PySem.W.Frag) (C : Addr) : Prop where
  no : PySem.W.notFirst K C (.type "NoneType") = true
  bl : PySem.W.notFirst K C (.type "bool") = true
  it : PySem.W.notFirst K C (.type "int") = true
  st : PySem.W.notFirst K C (.type "str") = true
  tp : PySem.W.notFirst K C (.type "tuple") = true
def fOwnEq (c : PySem.Str) (f : Fn) : D → D → Option D := fun x y => if (isOf c x && (isOf c y || (!isO y && notL y && !isScr y))) = true then (f [.da x, .da y]).bind fun r => match r.1 with
  | .fz (.bl b) => some (.bl b)
  | _ => none else none
where isScr : D → Bool
  | .scr _ => true
  | _ => false
theorem os_ownEq {K : PySem.W.Frag} (hC : ClsN K c C) (cl : Cls K C) (i : IsiC K C) (q6 : EqC K C) : OpS K (rOwnEq K C f) (fOwnEq c f) := by
  intro H F v u x y z s hx hy e Q q
  unfold fOwnEq at e
  split at e
  · rename_i hc
    rw [Bool.and_eq_true] at hc
    obtain ⟨kx, xs, rfl⟩ := isOf_ok hc.1
    obtain ⟨⟨r, os⟩, e1, e2⟩ := Option.bind_eq_some_iff.mp e
    have hx : Rep K F v _ := hx
    obtain ⟨a, dx, vs, rfl, ha, _⟩ := rep_ob hC hx
    have nl : ∀ zs, y ≠ .lst zs := fun zs h => by
      subst h
      rcases Bool.or_eq_true_iff.mp hc.2 with h | h
      · cases h
      · rw [Bool.and_eq_true, Bool.and_eq_true] at h; cases h.1.2
    have hy' := nl_rep nl hy
    have ty : ∃ t, TyX K H u t ∧ PySem.W.notFirst K C t = true := by
      cases y with
      | non => exact ⟨_, tyx (fun _ _ _ h => by cases h) s hy, q6.no⟩
      | bl b => exact ⟨_, tyx (fun _ _ _ h => by cases h) s hy, q6.bl⟩
      | int j => exact ⟨_, tyx (fun _ _ _ h => by cases h) s hy, q6.it⟩
      | str t => exact ⟨_, tyx (fun _ _ _ h => by cases h) s hy, q6.st⟩
      | tup ys => exact ⟨_, tyx (fun _ _ _ h => by cases h) s hy, q6.tp⟩
      | lst ys => exact absurd rfl (nl ys)
      | scr ys =>
        rcases Bool.or_eq_true_iff.mp hc.2 with h | h
        · cases h
        · rw [Bool.and_eq_true] at h; cases h.2
      | obj c' ks ys =>
        have hc' : c' = c := by
          rcases Bool.or_eq_true_iff.mp hc.2 with h | h
          · exact of_decide_eq_true h
          · rw [Bool.and_eq_true, Bool.and_eq_true] at h; cases h.1.1
        subst hc'
        obtain ⟨b, dy, us, rfl, hb, _⟩ := rep_ob hC hy'
        exact ⟨.ref C, .base (.ins (s _ _ hb) cl i.ha i.hn i.tk i.hm), by unfold PySem.W.notFirst; rw [beq_self_eq_true]; rfl⟩
    obtain ⟨t, ty, nf⟩ := ty
    dsimp only at e2
    split at e2
    · rename_i b
      cases e2
      refine ⟨a, dx, _, t, rfl, s _ _ ha, ty, nf, spf_data (gs := [.da (.obj c kx xs), .da y]) rfl s ⟨hx, hy', trivial⟩ (by cases u <;> rfl) e1 fun v H' F' A R => ?_⟩
      cases R
      exact ⟨b, rfl, q _ H' F' A (.bl _)⟩
    · cases e2
  · cases e
theorem op_ownEq (hs : PySem.W.findIn X.K (.ref C) "__eq__" = some (some (.ref g))) (hf : PySem.W.isFn X.K (.ref g) = true) (hu : X.A.units + 64 < cLine)
    (F : FnOk X.prog X.w X.K X.mg X.base CX0 k g fd ps (spF X.K 2 f)) (hr : Room k X.A) (hb : Binds X.K fd ps []) : OpR X (compareOp .Eq) (rOwnEq X.K C f) := by
  intro pins s σ H x y v u Q I rx ry h
  obtain ⟨a, dx, fs, t, rfl, ha, ty, nf, sp⟩ := h
  cases rx
  obtain ⟨ox, od, J⟩ := ins_look I ha
  obtain ⟨m, hF⟩ := I.fr
  obtain ⟨P, Z, p, _⟩ := kit_of I ry ty
  show wpAny (model X.prog X.w) X.A (richCompare .Eq (.ref a) u) (EP X pins σ Q) X.xe s
  refine PySem.W.cmp_K (op := .Eq) (tb := t) (by omega) hF I.ok.mod.kin J (Z.ty _ _ I.kIn p) nf hs hf (wpAny_mono (own_run F hr hb I (show Vals [V.ref a, y] [Value.ref a, u] from .cons rfl (.cons ry .nil)) sp) (fun w s' z => ?_) fun _ _ z => z)
  obtain ⟨v, H', I', rv, b, rfl, q⟩ := z
  cases rv
  exact (show EP X pins σ Q (.bool b) s' from ⟨.bl b, H', I', rfl, q⟩)
theorem oOwnEq (hC : ClsN X.K c C) (cl : Cls X.K C) (i : IsiC X.K C) (q6 : EqC X.K C) (hs : PySem.W.findIn X.K (.ref C) "__eq__" = some (some (.ref g))) (hf : PySem.W.isFn X.K (.ref g) = true) (hu : X.A.units + 64 < cLine)
    (F : FnOk X.prog X.w X.K X.mg X.base CX0 k g fd ps (spF X.K 2 f)) (hr : Room k X.A) (hb : Binds X.K fd ps []) : Op2 X (compareOp .Eq) (fOwnEq c f) := ⟨_, op_ownEq hs hf hu F hr hb, os_ownEq hC cl i q6⟩
end
/-! ### len of an instance, or of another thing -/
def cLenO (c : PySem.Str) (f : Fn) : List D → Option D := fun xs => match cLen xs with
  | some z => some z
  | none => cOwnLen c f xs
section
variable {X : Cx} {e : Expr} {ms : M (List Vl)} {f : Fn} {c : PySem.Str} {C g : Addr} {fd : FuncData} {ps : List Str} {k : Nat} {p pos : Pos}
theorem cr_or {fv : Value} {r r' : List V → Hp → VK → Prop} (h : CallR X fv r) (h' : CallR X fv r') : CallR X fv (fun vs H Q => r vs H Q ∨ r' vs H Q) := fun pins s σ H xs us Q I rx q => q.elim (h pins s σ H xs us Q I rx) (h' pins s σ H xs us Q I rx)
theorem se_lenO (hC : ClsN X.K c C) (hs : PySem.W.findIn X.K (.ref C) "__len__" = some (some (.ref g))) (hf : PySem.W.isFn X.K (.ref g) = true)
    (F : FnOk X.prog X.w X.K X.mg X.base CX0 k g fd ps (spF X.K 1 f)) (hr : Room (k + 1) X.A) (hb : Binds X.K fd ps [])
    (hm : X.mg "len" = none) (hg : Gl X "len") (ha : SA X [e] ms) (he : starEach [e] X.env = (false, eval e X.env) :: starEach [] X.env := by rfl) (hpl : (backTo pos (starEach [] X.env)).any (·.1) = false := by rfl) : SE X (.Call (.Name "len" p) [e] [] pos) (eBlt (cLenO c f) ms) := by
  refine se_blt (cr_or call_len (cr_ownLen hs hf F hr hb)) ?_ hg hm PySem.boot_len ha (by decide) (by decide) he hpl
  intro H F vs xs z s hx e Q q
  unfold cLenO at e
  split at e
  · rename_i z' e1
    cases e
    exact .inl (cs_len H F vs xs _ s hx e1 Q q)
  · exact .inr (cs_ownLen hC H F vs xs z s hx e Q q)
end
/-! ### text.count(sign) -/
def fCnt : D → List D → Option D
  | .str s, [.str [c]] => some (.int (s.count c : Nat))
  | _, _ => none
theorem cnt_txt (s : List Nat) (c : Nat) : Txt.count ⟨s.toArray⟩ ⟨#[c]⟩ = ((s.count c : Nat) : Int) := by
  rw [count_is, countIn_signs_sum]
  show (s.map fun n => if decide (n = c) = true then (1 : Int) else 0).sum = _
  induction s with
  | nil => rfl
  | cons a s ih =>
    rw [List.map_cons, List.sum_cons, ih, List.count_cons]
    by_cases h : a = c
    · simp [h]; omega
    · simp [h]
theorem ms_cnt {K : PySem.W.Frag} : MetS K (fun x xs H Q => ∃ a b, x = .str a ∧ xs = [.str b] ∧ Q (.int (Txt.count a b)) H) fCnt := by
  intro H F v vs x xs z s hx hxs e Q q
  unfold fCnt at e
  split at e
  · rename_i t c
    cases e
    obtain ⟨w, rfl, hw⟩ := vws1 hxs
    rw [vw_str hx, vw_str hw]
    refine ⟨_, _, rfl, rfl, ?_⟩
    rw [cnt_txt]
    exact q _ H F (Alc.refl s) (.int _)
  · cases e
section
variable {X : Cx} {e o : Expr} {mo : M Vl} {ms : M (List Vl)} {apos cpos : Pos}
theorem se_count (ho : SE X o mo) (ha : SA X [e] ms)
    (hbase : attributeBase o "count" X.env (eval o X.env) = eval o X.env := by rfl)
    (hfew : ((backTo cpos (starEach [e] X.env)).all (fun x => !x.1) && (backToKw cpos (keywordEach [] X.env)).all (fun x => x.1.isSome)
      && decide ([e].length + ([] : List Keyword).length + (if ([] : List Keyword).isEmpty then 0 else 1) < 30)) = true := by rfl)
    (hline : (apos.endLine == cpos.line) = true := by rfl) (hs : starEach [e] X.env = (false, eval e X.env) :: starEach [] X.env := by rfl) (hplain : (backTo cpos (starEach [] X.env)).any (·.1) = false := by rfl) :
    SE X (.Call (.Attribute o "count" apos) [e] [] cpos) (eMet fCnt mo ms) := se_met PySem.F.slot_str_count PySem.F.type_str_count L2.mt_count (fun x xs z h => by
  unfold fCnt at h
  split at h
  · exact ⟨_, rfl⟩
  · cases h) ms_cnt ho ha hbase hfew hline hs hplain
end
end Sw
/-! Sw35: lists lent to a def that only reads them: they are data while the def runs, and one's own again behind it. -/
namespace Sw
open PySem PySem.Spec PyProof.Rows L2
mutual
/-- no list within -/
def nlD : D → Bool
  | .lst _ => false
  | .scr _ => false
  | .tup xs => nlDs xs
  | .obj _ _ xs => nlDs xs
  | _ => true
def nlDs : List D → Bool
  | [] => true
  | x :: xs => nlD x && nlDs xs
end
theorem sqt_off {K : PySem.W.Frag} {F F' : Hp} {a : Addr} {vs : List V} (k : ∀ b o, F b = some o → (∀ us, o ≠ .lst us) → F' b = some o) (h : SqT K F a vs) : SqT K F' a vs := by
  rcases h with (h | ⟨o, h⟩) | h
  · exact .inl (.inl (k _ _ h fun us e => by cases e))
  · exact .inl (.inr ⟨o, k _ _ h fun us e => by cases e⟩)
  · exact .inr h
mutual
theorem Rep.off {K : PySem.W.Frag} {F F' : Hp} (k : ∀ b o, F b = some o → (∀ us, o ≠ .lst us) → F' b = some o) : ∀ {v : V} {d : D}, nlD d = true → Rep K F v d → Rep K F' v d
  | _, _, _, .non => .non
  | _, _, _, .bl b => .bl b
  | _, _, _, .int i => .int i
  | _, _, _, .str s => .str s
  | _, _, n, .lst h r => by unfold nlD at n; cases n
  | _, _, n, .scr h => by unfold nlD at n; cases n
  | _, _, n, .tup h r => .tup (sqt_off k h) (Reps.off k (by unfold nlD at n; exact n) r)
  | _, _, n, .obj h1 h2 h3 r => .obj h1 (k _ _ h2 fun us e => by cases e) h3 (Reps.off k (by unfold nlD at n; exact n) r)
theorem Reps.off {K : PySem.W.Frag} {F F' : Hp} (k : ∀ b o, F b = some o → (∀ us, o ≠ .lst us) → F' b = some o) : ∀ {vs : List V} {ds : List D}, nlDs ds = true → Reps K F vs ds → Reps K F' vs ds
  | _, _, _, .nil => .nil
  | _, _, n, .cons h r => by
    unfold nlDs at n
    rw [Bool.and_eq_true] at n
    exact .cons (Rep.off k n.1 h) (Reps.off k n.2 r)
end
/-- the arguments: data, lists as they stand -/
def agL (ρ : Rho) : List (D ⊕ Nat) → Option (List D)
  | [] => some []
  | .inl x :: r => (agL ρ r).bind fun ds => some (x :: ds)
  | .inr i :: r => (own? ρ i).bind fun xs => (agL ρ r).bind fun ds => some (.lst xs :: ds)
def eCallL (f : Fn) (fs : List Bool) (a : M (List Vl)) : M Vl := fun ρ => (a ρ).bind fun p => (ag1 fs p.1 p.2).bind fun q => (agL q.2 q.1).bind fun ds => (f (ds.map .da)).bind fun z => match z.1 with
  | .fz x => if nlD x = true then some (.fz x, q.2) else none
  | .fr xs => if nlDs xs = true then some (.fr xs, q.2) else none
  | .bw _ => none
/-- the lent lists' addresses -/
def LS (σ : L2.St) : List V → List (D ⊕ Nat) → Addr → Prop
  | .ref a :: vs, .inr i :: r, b => (b = a ∧ σ[i]? = some (some (.ref a))) ∨ LS σ vs r b
  | _ :: vs, _ :: r, b => LS σ vs r b
  | _, _, _ => False
open Classical in
/-- with them as data -/
noncomputable def lentF (F H : Hp) (S : Addr → Prop) : Hp := fun b => if S b then H b else F b
open Classical in
noncomputable def offF (F : Hp) (S : Addr → Prop) : Hp := fun b => if S b then none else F b
section
variable {K : PySem.W.Frag} {G : Gd} {σ : L2.St} {H F : Hp} {ρ : Rho}
theorem agL_ok (W : Wd K G ρ σ H F) : ∀ {ts : List (D ⊕ Nat)} {vs : List V} {ds : List D}, TsR K σ F vs ts → agL ρ ts = some ds →
    (∀ b, LS σ vs ts b → F b = none ∧ ∃ us, H b = some (.lst us)) ∧ (∀ F', Same F F' → (∀ b, LS σ vs ts b → F' b = H b) → AgsR K F' H vs (ds.map .da)) ∧ ∀ vs', liA vs' (ds.map .da) = []
  | [], [], ds, _, e => by
    cases e
    exact ⟨fun b h => h.elim, fun _ _ _ => trivial, fun vs' => by
      cases vs' with
      | nil => rfl
      | cons a l => cases a <;> rfl⟩
  | [], _ :: _, _, h, _ => h.elim
  | .inl _ :: _, [], _, h, _ => h.elim
  | .inr _ :: _, [], _, h, _ => h.elim
  | .inl x :: ts, v :: vs, ds, h, e => by
    unfold agL at e
    obtain ⟨d2, e2, e⟩ := Option.bind_eq_some_iff.mp e
    cases e
    obtain ⟨h1, h2, h3⟩ := agL_ok W h.2 e2
    have q : ∀ b, LS σ (v :: vs) (.inl x :: ts) b → LS σ vs ts b := fun b z => by cases v <;> exact z
    have q' : ∀ b, LS σ vs ts b → LS σ (v :: vs) (.inl x :: ts) b := fun b z => by cases v <;> exact z
    exact ⟨fun b z => h1 b (q b z), fun F' s k => ⟨h.1.mono s, h2 F' s fun b z => k b (q' b z)⟩, fun vs' => by
      match vs' with
      | [] => rfl
      | u :: us => show liA (u :: us) (.da x :: d2.map .da) = []; cases u <;> exact h3 us⟩
  | .inr i :: ts, v :: vs, ds, h, e => by
    unfold agL at e
    obtain ⟨xs, e1, e⟩ := Option.bind_eq_some_iff.mp e
    obtain ⟨d2, e2, e⟩ := Option.bind_eq_some_iff.mp e
    cases e
    obtain ⟨h1, h2, h3⟩ := agL_ok W h.2 e2
    have hv := h.1
    have key : ∃ a us, v = .ref a ∧ H a = some (.lst us) ∧ Reps K F us xs ∧ F a = none := by
      rcases own_sl e1 with q | q
      · obtain ⟨a, us, z, p1, p2, p3, _⟩ := W.sl i _ q
        rw [hv] at z; cases z
        exact ⟨a, us, rfl, p1, p2, p3⟩
      · obtain ⟨a, us, z, p1, p2, p3, _⟩ := W.sl i _ q
        rw [hv] at z; cases z
        exact ⟨a, us, rfl, p1, p2, p3⟩
    obtain ⟨a, us, rfl, p1, p2, p3⟩ := key
    refine ⟨fun b z => ?_, fun F' s k => ⟨.lst ?_ (p2.mono s), h2 F' s fun b z => k b (.inr z)⟩, fun vs' => ?_⟩
    · rcases z with ⟨rfl, _⟩ | z
      · exact ⟨p3, us, p1⟩
      · exact h1 b z
    · rw [k a (.inl ⟨rfl, hv⟩)]; exact p1
    · match vs' with
      | [] => rfl
      | u :: us => show liA (u :: us) (.da (.lst xs) :: d2.map .da) = []; cases u <;> exact h3 us
variable {X : Cx} {e : Expr} {es : List Expr} {ms : M (List Vl)} {f : Fn} {fs : List Bool} {x : Str} {p pos : Pos} {fa : Addr} {fd : FuncData} {ps : List Str} {k n : Nat}
theorem tcallL_of {K : PySem.W.Frag} {E : XK} (hn : ∀ gs z, f gs = some z → gs.length = n) {σ : L2.St} {H : Hp} {Q : VK} (h : tM K (eCallL f fs ms) σ H Q) : tCall (spF K n f) [] E (tMA K ms) σ H Q := by
  obtain ⟨G, ρ, F, r0, ρ', W, hm, q⟩ := h
  unfold eCallL at hm
  obtain ⟨⟨rs, ρ1⟩, e1, hm⟩ := Option.bind_eq_some_iff.mp hm
  obtain ⟨⟨ts, ρ2⟩, e2, hm⟩ := Option.bind_eq_some_iff.mp hm
  obtain ⟨ds, e3, hm⟩ := Option.bind_eq_some_iff.mp hm
  obtain ⟨⟨z, os⟩, e4, hm⟩ := Option.bind_eq_some_iff.mp hm
  refine ⟨G, ρ, F, rs, ρ1, W, e1, fun vs H1 F1 s1 R1 => ?_⟩
  show spF K n f (vs ++ []) H1 Q E
  rw [List.append_nil]
  obtain ⟨F2, s2, R2⟩ := ag1_ok s1.wd R1 e2
  obtain ⟨A1, A2, A3⟩ := agL_ok s2.wd R2 e3
  have s12 := s1.trans s2
  have S := LS σ vs ts
  have sF : Same F2 (lentF F2 H1 (LS σ vs ts)) := fun b o h => by
    unfold lentF
    rw [if_neg (fun z => by rw [(A1 b z).1] at h; cases h)]
    exact h
  have sub : Same (lentF F2 H1 (LS σ vs ts)) H1 := fun b o h => by
    unfold lentF at h
    split at h
    · exact h
    · exact s2.wd.sub _ _ h
  have AR := A2 (lentF F2 H1 (LS σ vs ts)) sF fun b z => by unfold lentF; rw [if_pos z]
  refine ⟨by rw [AR.len]; exact hn _ _ e4, lentF F2 H1 (LS σ vs ts), ds.map .da, z, os, sub, AR, by rw [A3]; exact List.nodup_nil, e4, fun v H' F' ff sub' kp nf _ res => ?_⟩
  have hh : Same H1 H' := fun b o h => kp b o h (by rw [A3]; exact List.not_mem_nil)
  have A : Alc F2 H1 (offF F' (LS σ vs ts)) H' := by
    refine ⟨fun b o h => ?_, fun b o h => ?_, hh, fun b h => ?_⟩
    · unfold offF
      rw [if_neg (fun z => by rw [(A1 b z).1] at h; cases h)]
      exact ff _ _ (sF _ _ h)
    · unfold offF at h
      split at h
      · cases h
      · exact sub' _ _ h
    · unfold offF at h
      split at h
      · exact absurd rfl h
      · rename_i nb
        rcases nf b h with h | h
        · unfold lentF at h
          rw [if_neg nb] at h
          exact .inl h
        · exact .inr h
  have off : ∀ b o, F' b = some o → (∀ us, o ≠ .lst us) → offF F' (LS σ vs ts) b = some o := fun b o h nl => by
    unfold offF
    rw [if_neg (fun z => by
      obtain ⟨_, us, hus⟩ := A1 b z
      have := sub' _ _ h
      rw [hh _ _ hus] at this
      cases this
      exact nl us rfl)]
    exact h
  have s3 := s12.trans (s2.wd.alc A)
  cases z with
  | fz y =>
    dsimp only at hm
    split at hm
    · rename_i nl
      cases hm
      exact q v H' _ s3 (Rep.off off nl res)
    · cases hm
  | fr ys =>
    dsimp only at hm
    split at hm
    · rename_i nl
      cases hm
      obtain ⟨a, us, e5, u1, u2, u3, u4⟩ := res
      refine q v H' _ s3 ⟨a, us, e5, u1, Reps.off off nl u2, ?_, s12.back a u4, fun i o => ?_⟩
      · unfold offF
        split
        · rfl
        · exact u3
      · obtain ⟨_, z, _⟩ := s12.wd.ow_there o
        rw [u4] at z; cases z
    · cases hm
  | bw i => cases hm
theorem se_callL (F : FnOk X.prog X.w X.K X.mg X.base CX0 k fa fd ps (spF X.K n f)) (hn : ∀ gs z, f gs = some z → gs.length = n) (hr : Room k X.A) (hm : X.mg x = some (.ref fa)) (hk : PySem.W.keepIn X.K (.ref fa) = true) (hb : Binds X.K fd ps []) (hg : Gl X x)
    (ha : SA X (e :: es) ms) (hdb : (x == ("__debug__" : Str)) = false := by decide) (he : starEach (e :: es) X.env = (false, eval e X.env) :: starEach es X.env := by rfl) (hpl : (backTo pos (starEach es X.env)).any (·.1) = false := by rfl) :
    SE X (.Call (.Name x p) (e :: es) [] pos) (eCallL f fs ms) := pe_weak (pe_call F hr hg hm hk hb .nil pass0 ha hdb he hpl) fun _ _ _ h => tcallL_of (E := E0) hn h
end
/-! ### reckoning -/
section
variable {ρ : Rho} {ms : M (List Vl)} {f : Fn} {fs : List Bool} {Q : Vl → Rho → Prop}
def NlV : Vl → Prop
  | .fz x => nlD x = true
  | .fr xs => nlDs xs = true
  | .bw _ => False
theorem ev_callL (h : Ev ms ρ fun rs ρ1 => ∃ ts ρ2 ds, ag1 fs rs ρ1 = some (ts, ρ2) ∧ agL ρ2 ts = some ds ∧ Fv f (ds.map .da) fun r _ => NlV r ∧ Q r ρ2) : Ev (eCallL f fs ms) ρ Q := by
  obtain ⟨rs, ρ1, e1, ts, ρ2, ds, e2, e3, r, os, e4, nl, q⟩ := h
  refine ⟨r, ρ2, ?_, q⟩
  unfold eCallL
  rw [e1]
  show (ag1 fs rs ρ1).bind _ = _
  rw [e2]
  show (agL ρ2 ts).bind _ = _
  rw [e3]
  show (f (ds.map .da)).bind _ = _
  rw [e4]
  cases r with
  | fz x => have nl2 : nlD x = true := nl; show (if nlD x = true then _ else none) = _; rw [if_pos nl2]
  | fr xs => have nl2 : nlDs xs = true := nl; show (if nlDs xs = true then _ else none) = _; rw [if_pos nl2]
  | bw i => exact nl.elim
theorem argL {fs : List Bool} {rs : List Vl} {ρ1 ρ2 : Rho} {P : List D → Rho → Prop} {ts : List (D ⊕ Nat)} {ds : List D} (h1 : ag1 fs rs ρ1 = some (ts, ρ2)) (h2 : agL ρ2 ts = some ds) (h : P ds ρ2) : ∃ ts ρ2 ds, ag1 fs rs ρ1 = some (ts, ρ2) ∧ agL ρ2 ts = some ds ∧ P ds ρ2 := ⟨ts, ρ2, ds, h1, h2, h⟩
theorem nls_strs : ∀ ts : List (List Nat), nlDs (ts.map .str) = true
  | [] => rfl
  | t :: ts => by
    show (nlD (.str t) && nlDs (ts.map .str)) = true
    rw [nls_strs ts]
    rfl
end
end Sw
/-! Sw36: walks over instances whose __iter__ hands out iter(text) or iter(list). -/
namespace Sw
open PySem PySem.Spec PyProof.Rows L2
/-- a fresh iterator over a text -/
def StrIt (t : Str) (it : Addr) : HO := .ext fun h => ∃ (tk : Tok) (ty : String), (ty = "str_ascii_iterator" ∨ ty = "str_iterator") ∧ h.IsStrIter it ty t tk 0
theorem strIt_ok {P : Program} {w : World} {H : Hp} {h : Heap} {it : Addr} {t : Str} {tk : Tok} {ty : String} (hty : ty = "str_ascii_iterator" ∨ ty = "str_iterator") (e : h.IsStrIter it ty t tk 0) : ObjOk P w H h it (StrIt t it) := by
  have e' := e
  obtain ⟨o, ho, r⟩ := e
  refine ⟨⟨tk, ty, hty, e'⟩, ⟨o, ho⟩, fun h1 h2 q k => ?_⟩
  obtain ⟨tk, ty, hty, o, ho, r⟩ := q
  exact ⟨tk, ty, hty, o, k _ ho, r⟩
def ItAt (K : PySem.W.Frag) (H : Hp) (x : V) (it : Addr) (u : HO) : Prop := (∃ t, x = .str t ∧ u = StrIt t it) ∨ ∃ l zs, x = .ref l ∧ SqL K H l zs ∧ u = ItO l it 0
def rIterA (K : PySem.W.Frag) (n : Nat) : List V → Hp → VK → Prop := fun xs H Q => ∃ x, xs = [x] ∧ ((∃ t, x = .str t) ∨ ∃ l zs, x = .ref l ∧ SqL K H l zs) ∧ ∀ it u, n ≤ it → H it = none → ItAt K H x it u → Q (.ref it) (upd H it u)
theorem call_iterA {X : Cx} : CallR X (.builtin "iter") (rIterA X.K X.s_0.heap.objs.size) := by
  intro pins s σ H xs us Q I r h
  obtain ⟨x, rfl, hx, q⟩ := h
  rcases hx with ⟨t, rfl⟩ | ⟨l, zs, rfl, hq⟩
  · obtain ⟨u, rfl, ru⟩ := r.one
    obtain ⟨tk, rfl⟩ := ru
    refine Calls.call_function_entry (by decide +kernel) (by decide +kernel) PySem.W.kdk_entry_iter (PySem.W.kdk_args_iter _) ?_
    unfold Builtin.«iter»
    refine wpAny_bind (m := someArgs "iter" 1 2 _) (wpAny_of_eq (a := [Value.str t tk]) (by first | rfl | kernel_rfl!) ?_)
    show wpAny _ _ (pyIter (.str t tk) >>= _) _ _ _
    cases ha : t.cps.all (· < 128)
    · refine wpAny_bind (wpAny_pyIter_wide ha (wpAny_pure ⟨_, rfl, ?_⟩))
      have st : (s.heap.push { cls := .type "str_iterator", data := .fields #[.str t tk, .int 0 0] }).IsStrIter s.heap.objs.size "str_iterator" t tk 0 := ⟨_, Heap.get?_push_size _ rfl, rfl, rfl⟩
      exact ⟨.ref s.heap.objs.size, _, I.laid (t' := s.toks) (fun b u e => Heap.get?_push_of_some _ e) (Nat.le_refl _) (strIt_ok (.inr rfl) st), rfl, q _ _ I.sz (I.hok.fresh (Nat.le_refl _)) (.inl ⟨t, rfl, rfl⟩)⟩
    · refine wpAny_bind (wpAny_pyIter_ascii ha (wpAny_pure ⟨_, rfl, ?_⟩))
      have st : (s.heap.push { cls := .type "str_ascii_iterator", data := .fields #[.str t tk, .int 0 0] }).IsStrIter s.heap.objs.size "str_ascii_iterator" t tk 0 := ⟨_, Heap.get?_push_size _ rfl, rfl, rfl⟩
      exact ⟨.ref s.heap.objs.size, _, I.laid (t' := s.toks) (fun b u e => Heap.get?_push_of_some _ e) (Nat.le_refl _) (strIt_ok (.inl rfl) st), rfl, q _ _ I.sz (I.hok.fresh (Nat.le_refl _)) (.inl ⟨t, rfl, rfl⟩)⟩
  · obtain ⟨u, rfl, ru⟩ := r.one
    cases ru
    obtain ⟨its, rv, pl, hz⟩ := I.list hq
    refine GNX.call_iter pl.isList ?_
    exact ⟨.ref s.heap.objs.size, _, I.laid (t' := s.toks) (fun b u e => Heap.get?_push_of_some _ e) (Nat.le_refl _) (itO_ok (Heap.get?_push_size _ rfl)), rfl, q _ _ I.sz (I.hok.fresh (Nat.le_refl _)) (.inr ⟨l, zs, rfl, hq, rfl⟩)⟩
def itD : D → Bool
  | .str _ => true
  | .lst _ => true
  | _ => false
/-- what an __iter__ promises: a fresh iterator over the field Fd -/
def spIt (K : PySem.W.Frag) (n : Nat) (c Fd : PySem.Str) (vs : List V) (H : Hp) (Q : VK) : Prop := ∃ (F : Hp) (v : V) (ks : List PySem.Str) (xs : List D) (z : D), vs = [v] ∧ Same F H ∧ Rep K F v (.obj c ks xs) ∧ fAt c Fd (.obj c ks xs) = some z ∧ itD z = true ∧
  ∀ x H' F' it u, n ≤ it → Alc F H F' H' → Rep K F' x z → H' it = none → ItAt K H' x it u → Q (.ref it) (upd H' it u)
structure ItFn (P : Program) (w : World) (K : PySem.W.Frag) (mg : Str → Option Value) (base : Heap) (k : Nat) (f : Addr) (fd : FuncData) (ps : List Str) (c Fd : PySem.Str) : Prop where
  len : ps.length = 1
  run : ∀ (A : Around) (outer : List Env) (s : Shared) (H : Hp) (us : List Value) (vs : List V) (Q : VK), Room k A → Env0 P w K mg base A outer s H → BindsTo s fd ⟨us, []⟩ (ps.zip us) → Vals vs us → spIt K s.heap.objs.size c Fd vs H Q →
    codeAny (model P w) A (.call (.ref f) ⟨us, []⟩) (CR CX0 outer P w H s Q E0) s
def tIt (K : PySem.W.Frag) (n : Nat) (c Fd : PySem.Str) : TS := tSeq (tRet (tCB (rIterA K n) (tMA K (aCons (eUn (fAt c Fd) (eVar 0)) aNil)))) tNext
theorem fn_it {P : Program} {w : World} {K : PySem.W.Frag} {mg : Str → Option Value} {base : Heap} {x qual : Str} {st : Stmt} {f : Addr} {fd : FuncData} {N ps : List Str} {k nl : Nat} {c Fd : PySem.Str} (Fu : FunG K x qual st f fd) (Sc : FnScope N ps (defScope st)) (hn : ps.length = 1) (hl : N.length = nl) (hle : 1 ≤ nl)
    (hb : ∀ (cdv : Value) (A : Around) (outer : List Env) (s : Shared) (H : Hp) (E : XK), Room k (A.deeper (envOfC qual (defScope st) s.heap.objs.size f cdv)) → PSs (cxOf CX0 P w K mg base N qual (defScope st) f cdv A outer s H E).nox (defBody st) (tIt K s.heap.objs.size c Fd)) :
    ItFn P w K mg base (k + 1) f fd ps c Fd := by
  obtain ⟨oc, od, dV, kV, doc, pm, an, cdv, ct, osl, rfl, lk, hcd⟩ := Fu.ex
  refine ⟨hn, fun A outer s H us vs Q hr e0 hbt rv h => ?_⟩
  obtain ⟨F, v, ks, xs, z, rfl, sub, R, hz, hi, q⟩ := h
  refine LamX.run_ofS lk hcd Sc hr e0 hbt rv (by rw [hn]; rfl) fun hr' => ?_
  refine ⟨_, (hb cdv A outer s H E0 hr').nox, ?_⟩
  have AR : AgsR K F H [v] [.da (.obj c ks xs)] := ⟨R, trivial⟩
  have li : liA [v] [Ag.da (.obj c ks xs)] = [] := by cases v <;> rfl
  have W := wd_start (n := 1) AR (by rw [li]; exact List.nodup_nil) sub rfl hl hle
  have snd := iaOf_snd 0 AR
  have ev : aCons (eUn (fAt c Fd) (eVar 0)) aNil ([.da (.obj c ks xs)].map slOf ++ List.replicate (nl - 1) .no) = some ([.fz z], [.da (.obj c ks xs)].map slOf ++ List.replicate (nl - 1) .no) := by
    have e1 : eUn (fAt c Fd) (eVar 0) (.d (.obj c ks xs) :: List.replicate (nl - 1) .no) = some (.fz z, .d (.obj c ks xs) :: List.replicate (nl - 1) .no) := by
      show (fAt c Fd (.obj c ks xs)).bind _ = _
      rw [hz]
      rfl
    show (eUn (fAt c Fd) (eVar 0) (.d (.obj c ks xs) :: List.replicate (nl - 1) .no)).bind _ = _
    rw [e1]
    rfl
  refine ⟨_, _, F, _, _, W, ev, fun us H1 F1 s1 R1 => ?_⟩
  obtain ⟨y, rfl, Ry⟩ := vls1 R1
  have kp : ∀ b o, H b = some o → H1 b = some o := fun b o h => s1.wd.kp b o h (by rw [snd, li]; exact List.not_mem_nil)
  refine ⟨y, rfl, ?_, fun it u hn hit hat => q y H1 F1 it u hn ⟨s1.ff, s1.wd.sub, kp, s1.wd.nw⟩ Ry hit hat⟩
  cases z with
  | str t =>
    cases Ry
    exact .inl ⟨_, rfl⟩
  | lst ys =>
    cases Ry with
    | lst h1 h2 => exact .inr ⟨_, _, rfl, SqL.of (s1.wd.sub _ _ h1)⟩
  | _ => cases hi
/-- a walk over an instance of c, whose __iter__ walks its field Fd -/
def iOwn (c Fd : PySem.Str) (m : M Vl) : M (List D) := fun ρ => (m ρ).bind fun p => match p.1 with
  | .fz x => if isOf c x = true then (fAt c Fd x).bind fun z => if itD z = true then (itemsOf z).bind fun xs => some (xs, p.2) else none else none
  | _ => none
theorem isOf_inv {c : PySem.Str} {x : D} (h : isOf c x = true) : ∃ ks xs, x = .obj c ks xs := by
  cases x with
  | obj c' ks xs =>
    have e : c' = c := of_decide_eq_true h
    subst e
    exact ⟨ks, xs, rfl⟩
  | _ => cases h
theorem iOwn_inv {c Fd : PySem.Str} {m : M Vl} {ρ ρ' : Rho} {ys : List D} (h : iOwn c Fd m ρ = some (ys, ρ')) : ∃ ks xs z, m ρ = some (.fz (.obj c ks xs), ρ') ∧ fAt c Fd (.obj c ks xs) = some z ∧ itD z = true ∧ itemsOf z = some ys := by
  unfold iOwn at h
  obtain ⟨⟨r, ρ1⟩, e1, h⟩ := Option.bind_eq_some_iff.mp h
  dsimp only at h
  split at h
  · rename_i x
    split at h
    · rename_i hc
      obtain ⟨ks, xs', rfl⟩ := isOf_inv hc
      obtain ⟨z, e2, h⟩ := Option.bind_eq_some_iff.mp h
      split at h
      · rename_i hi
        obtain ⟨xs, e3, h⟩ := Option.bind_eq_some_iff.mp h
        cases h
        exact ⟨ks, xs', z, e1, e2, hi, e3⟩
      · cases h
    · cases h
  · cases h
section
variable {X : Cx} {c Fd : PySem.Str} {C g : Addr} {fd : FuncData} {ps : List Str} {k : Nat} {pins : List (Addr × Obj)} {σ : L2.St} {H : Hp} {s : Shared}
/-- the call of __iter__, the iterator is new -/
theorem it_call {A1 : Around} {Q : Value → Shared → Prop} {E : Value → Shared → Prop} {a : Addr} {F1 : Hp} {ks : List PySem.Str} {xs : List D} {z : D} (sb : Sub X k A1) (F : ItFn X.prog X.w X.K X.mg X.base k g fd ps c Fd) (hb : Binds X.K fd ps []) (I : Inv X pins σ H s)
    (sF : Same F1 H) (R : Rep X.K F1 (.ref a) (.obj c ks xs)) (hz : fAt c Fd (.obj c ks xs) = some z) (hi : itD z = true)
    (q : ∀ x H' F' it u s', s.heap.objs.size ≤ it → Alc F1 H F' H' → Rep X.K F' x z → H' it = none → ItAt X.K H' x it u → Inv X pins σ (upd H' it u) s' → Q (.ref it) s') :
    wpAny (model X.prog X.w) A1 (call (.ref g) [.ref a]) Q E s := by
  have e0 : Env0 X.prog X.w X.K X.mg X.base A1 X.stack s H := by
    have e := I.env0
    exact ⟨by rw [sb.fr]; exact e.frames, e.mod, e.bs, e.bsz, e.funs, e.frf, e.hok, e.bare⟩
  have r2 : Vals [V.ref a] [Value.ref a] := .cons rfl .nil
  have hbt := hb s [.ref a] I.kIn (by rw [F.len]; rfl)
  rw [List.append_nil] at hbt
  refine wpAny_call (codeAny_mono (F.run A1 X.stack s H [.ref a] [.ref a] (fun v H2 => ∃ x H' F' it u, v = .ref it ∧ H2 = upd H' it u ∧ s.heap.objs.size ≤ it ∧ Alc F1 H F' H' ∧ Rep X.K F' x z ∧ H' it = none ∧ ItAt X.K H' x it u) sb.room e0 hbt r2
    ⟨F1, .ref a, ks, xs, z, rfl, sF, R, hz, hi, fun x H' F' it u hn al Rx hit hat => ⟨x, H', F', it, u, rfl, rfl, hn, al, Rx, hit, hat⟩⟩) fun r s' hq => ?_)
  cases r with
  | error e => exact hq.elim
  | ok fl =>
    cases fl with
    | ret u =>
      obtain ⟨v, H2, I2, rv, x, H', F', it, u, rfl, rfl, hn, al, Rx, hit, hat⟩ := I.after hq
      cases rv
      exact q x H' F' it u s' hn al Rx hit hat I2
    | next => exact False.elim hq
    | brk => exact False.elim hq
    | cont => exact False.elim hq
theorem si_own {tg e : Expr} {me : M Vl} (hC : ClsN X.K c C) (hs : PySem.W.findIn X.K (.ref C) "__iter__" = some (some (.ref g))) (hf : PySem.W.isFn X.K (.ref g) = true) (F : ItFn X.prog X.w X.K X.mg X.base k g fd ps c Fd) (hr : Room k X.A) (hb : Binds X.K fd ps []) (h : SE X e me) : SI X tg e (iOwn c Fd me) := by
  refine ⟨fun pins s σ H R I ⟨G, ρ, Fh, ys, ρ', W, hm, q⟩ => ?_⟩
  obtain ⟨ks, xs, z, e1, e2, hi, e3⟩ := iOwn_inv hm
  refine thn (h.run pins s σ H (fun v H1 => ∃ F1, Ste X.K G ρ σ H Fh ρ' H1 F1 ∧ Rep X.K F1 v (.obj c ks xs)) I (tm_use W e1 fun v H1 F1 s1 R1 => ⟨F1, s1, R1⟩)) fun u s1 ⟨v, H1, I1, rv, F1, st, R1⟩ => ?_
  obtain ⟨a, dx, vs, rfl, ha, hl, _⟩ := rep_ob hC R1
  cases rv
  obtain ⟨ox, od, J⟩ := ins_look I1 (st.wd.sub _ _ ha)
  obtain ⟨m, hF⟩ := I1.fr
  refine PySem.W.owit_iter hF I1.ok.mod.kin J hs hf ?_
  refine it_call ⟨hr, rfl⟩ F hb I1 st.wd.sub R1 e2 hi fun x H' F' it u s' hn al Rx hit hat I2 => ?_
  unfold PySem.W.OwitIt
  have ho := I2.hok it u upd_same
  rcases hat with ⟨t, rfl, rfl⟩ | ⟨l, zs, rfl, hq, rfl⟩
  · obtain ⟨tk, ty, hty, st'⟩ := ho.1
    have hT : s'.TypeIs (.ref it) ty := by
      obtain ⟨o, e, cc, _⟩ := st'
      exact ⟨o, e, cc⟩
    have fin : PIE X pins σ tg R (.ref it) s' := by
      refine ⟨it, [it], _, Its t, ItX.dropH (upd H' it (StrIt t it)) it, rfl, ItX.inv_drop I2 upd_same, turn_str it t tk ty hty, st', fun b hb => ?_, ?_⟩
      · have e : b = it := by simpa using hb
        rw [e]
        exact ItX.inv_fp I2 upd_same (Nat.le_trans I1.sz hn)
      · rw [ItX.dropH_upd hit]
        cases z with
        | str w =>
          cases Rx
          cases e3
          exact q _ _ F' (st.trans (st.wd.alc al)) (jr_str _)
        | lst w => cases Rx
        | _ => cases hi
    rcases hty with rfl | rfl
    · exact wpAny_specialOf hT PySem.F.slot_str_ascii_iterator_next.lookup fin
    · exact wpAny_specialOf hT PySem.F.slot_str_iterator_next.lookup fin
  · have eo : s'.heap.get? it = some (GNX.itObj l 0) := ho.1
    have hT : s'.TypeIs (.ref it) "list_iterator" := ⟨_, eo, rfl⟩
    have fin : PIE X pins σ tg R (.ref it) s' := by
      refine ⟨it, [it], _, ItX.ItlF X.K l 0, ItX.dropH (upd H' it (ItO l it 0)) it, rfl, ItX.inv_drop I2 (φ := fun h => h.get? it = some (GNX.itObj l 0)) upd_same, ItX.turn_listF l it 0, ⟨_, eo, rfl, rfl⟩, fun b hb => ?_, ?_⟩
      · have e : b = it := by simpa using hb
        rw [e]
        exact ItX.inv_fp I2 upd_same (Nat.le_trans I1.sz hn)
      · rw [ItX.dropH_upd hit]
        cases z with
        | lst w =>
          cases e3
          cases Rx with
          | lst h1 h2 =>
            refine q _ _ F' (st.trans (st.wd.alc al)) ?_
            have jr := jr_list (K := X.K) (SqL.of h1) h2
            exact ⟨fun i H s hi => by
              show (Itl X.K l).go (0 + i) H
              rw [Nat.zero_add]
              exact jr.go i H s hi, fun i H F1 x H' hi s1 s2 y => jr.yl i H F1 x H' hi s1 s2 (by
              have y : (Itl X.K l).yld (0 + i) H x H' := y
              rw [Nat.zero_add] at y
              exact y), fun i H s hi => by
              show (Itl X.K l).stop (0 + i) H
              rw [Nat.zero_add]
              exact jr.st i H s hi⟩
        | str w => cases Rx
        | _ => cases hi
    exact wpAny_specialOf hT slot_listiter_next.lookup fin
end
end Sw
/-! Sw37: list(o) of an instance whose __iter__ hands out iter(text) or iter(list), with a __len__ of its own. -/
namespace Sw
open PySem PySem.Spec PyProof.Rows L2
section
variable {X : Cx} {pins : List (Addr × Obj)} {σ : L2.St} {H : Hp} {s : Shared}
/-- the rest of an iterator is put behind the list at q -/
theorem it_loop {A1 : Around} {it q : Addr} {fp : List Addr} {n : Nat} {P : Nat → Value → Prop} {St : Nat → Heap → Prop} {out : List V} {Rs : Result → Shared → Prop} (W : Walks X.prog X.w A1.in1 it fp [it] n P St) (hP : ∀ i v, P i v → ∃ x, out[i]? = some x ∧ RelV x v) (hn : out.length = n) (hz : n < sizeLine) (hqi : it ≠ q) (hqf : q ∉ fp) (fpo : FpOk X pins H it)
    (hdone : ∀ s', Inv X pins σ (upd H q (.lst out)) s' → Rs (.ok (.ret .none)) s') :
    ∀ (m i : Nat) (s : Shared), n - i = m → i ≤ n → Inv X pins σ (upd H q (.lst (out.take i))) s → St i s.heap → codeAny (model X.prog X.w) A1 (.builtin "list.extend.loop" ⟨[.ref q, .ref it, .none], []⟩) Rs s := by
  obtain ⟨f0, f1, f2, f3, f4, f5⟩ := fpo
  have hiq : ∀ o, upd H q o it = none := fun o => by rw [upd_ne hqi]; exact f0
  intro m
  induction m with
  | zero =>
    intro i s hm hi I st
    have e : i = n := by omega
    subst e
    refine codeAny_builtin PySem.F.entry_extend_loop ?_
    rw [Around.under_plainId PySem.F.plain_extend_loop _]
    show wpAny _ A1.in1 (pyNext (.ref it) >>= _) _ _ s
    refine wpAny_bind (W.done s _ _ st fun h' tk kp => ?_)
    have I1 : Inv X pins σ (upd H q (.lst (out.take i))) { s with heap := h', toks := tk } := I.turned (it := it) (fun b o hb e => kp b o (by simpa using hb) e) (hiq _) f1 f3 f4 f5
    rw [← hn, List.take_length] at I1
    exact wpAny_pure (hdone _ I1)
  | succ m ih =>
    intro i s hm hi I st
    have hlt : i < n := by omega
    refine codeAny_builtin PySem.F.entry_extend_loop ?_
    rw [Around.under_plainId PySem.F.plain_extend_loop _]
    show wpAny _ A1.in1 (pyNext (.ref it) >>= _) _ _ s
    refine wpAny_bind (W.item i s _ _ hlt st fun v h' tk pv st' kp => ?_)
    have I1 : Inv X pins σ (upd H q (.lst (out.take i))) { s with heap := h', toks := tk } := I.turned (it := it) (fun b o hb e => kp b o (by simpa using hb) e) (hiq _) f1 f3 f4 f5
    obtain ⟨x, hx, rx⟩ := hP i v pv
    obtain ⟨z, its, k, r2, hl, e⟩ := I1.lstM upd_same
    have hlen : (out.take i).length = i := by rw [List.length_take]; omega
    show wpAny _ A1.in1 (updateSeq q (·.push v) >>= _) _ _ _
    have szi : its.length = i := by rw [← r2.length, hlen]
    refine wpAny_bind (wpAny_updateSeq e rfl (wpAny_pure ⟨plainId_quiet PySem.F.plain_extend_loop _, ?_⟩) (by rw [List.size_toArray]; omega) (by show (its.toArray.push v).size ≤ sizeLine + 1; rw [Array.size_push, List.size_toArray]; omega))
    have I2 := I1.lset (its' := its ++ [v]) (f := (·.push v)) (t' := tk) upd_same e (by simp) (r2.append (.cons rx .nil)) (by rw [List.length_append, List.length_singleton, hlen]; omega)
    rw [upd_upd, ← show out.take (i + 1) = out.take i ++ [x] from take_s hx] at I2
    refine ih (i + 1) _ (by omega) hlt I2 (W.frame _ _ _ st' fun b hb o eo => ?_)
    exact (Heap.get?_update_other _ _ (fun z => hqf (by rw [z]; exact hb))).trans eo
end
section
variable {X : Cx} {f : Fn} {c Fd : PySem.Str} {C g gl : Addr} {fd fl : FuncData} {ps pl : List Str} {k : Nat} {pins : List (Addr × Obj)} {σ : L2.St} {H : Hp} {s : Shared}
theorem own_runS {us : List Value} {vs : List V} {A1 : Around} {E' : Value → Shared → Prop} {Q : VK} {n : Nat} (F : FnOk X.prog X.w X.K X.mg X.base CX0 k g fd ps (spF X.K n f)) (sb : Sub X k A1) (hb : Binds X.K fd ps []) (I : Inv X pins σ H s) (r : Vals vs us) (h : spF X.K n f vs H Q E0) :
    wpAny (model X.prog X.w) A1 (call (.ref g) us) (EP X pins σ Q) E' s := by
  have hl : us.length = ps.length := by rw [← F.len _ _ _ _ h, ← r.length]
  have hb' := hb s us I.kIn (by simpa using hl)
  rw [List.append_nil] at hb'
  have e0 : Env0 X.prog X.w X.K X.mg X.base A1 X.stack s H := by
    have e := I.env0
    exact ⟨by rw [sb.fr]; exact e.frames, e.mod, e.bs, e.bsz, e.funs, e.frf, e.hok, e.bare⟩
  refine wpAny_call (codeAny_mono (F.run A1 X.stack s H ⟨us, []⟩ us vs Q E0 sb.room e0 hb' r h) fun r s' hq => ?_)
  cases r with
  | error e => exact hq.elim
  | ok fl =>
    cases fl with
    | ret u => exact I.after hq
    | next => exact False.elim hq
    | brk => exact False.elim hq
    | cont => exact False.elim hq
/-- the length is asked ahead of the walk -/
theorem own_lenHint {A1 : Around} {E : Value → Shared → Prop} {Q : Bool → Shared → Prop} {F1 : Hp} {a dx : Addr} {fs : List (Str × V)} {x : D} {i : Int} {os : List (List D)} (sb : Sub X (k + 1) A1)
    (hs : PySem.W.findIn X.K (.ref C) "__len__" = some (some (.ref gl))) (hf : PySem.W.isFn X.K (.ref gl) = true) (F : FnOk X.prog X.w X.K X.mg X.base CX0 k gl fl pl (spF X.K 1 f)) (hb : Binds X.K fl pl []) (I : Inv X pins σ H s) (ha : H a = some (.ins C dx fs))
    (sF : Same F1 H) (R : Rep X.K F1 (.ref a) x) (hx : f [.da x] = some (.fz (.int i), os)) (hi : 0 ≤ i ∧ i < 16777216) (q : ∀ b H' F' s', Alc F1 H F' H' → Inv X pins σ H' s' → Q b s') :
    wpAny (model X.prog X.w) A1 (Builtin.List.listLengthHint (.ref a)) Q E s := by
  obtain ⟨ox, od, J⟩ := ins_look I ha
  obtain ⟨m, hF⟩ := I.fr
  unfold Builtin.List.listLengthHint
  refine wpAny_bind (wpAny_bind (J.type.here ((PySem.W.looks_findIn I.kIn hs).here ?_)))
  refine PySem.W.KFB.if_not rfl ?_
  show wpAny _ _ (rule "list.length-hint.len" >>= _) _ _ _
  refine wpAny_bind (wpAny_rule ?_)
  refine wpAny_bind (wpAny_attempt (PySem.W.len_K hF I.ok.mod.kin J hs hf (wpAny_mono (own_runS (E' := fun _ _ => False) F sb.in1 hb I (show Vals [V.ref a] [Value.ref a] from .cons rfl .nil) (spf_data (Q := fun v H' => ∃ F', v = .int i ∧ Alc F1 H F' H') (gs := [.da x]) rfl sF ⟨R, trivial⟩ rfl hx fun v H' F' A R => ?_)) (fun w s' z => ?_) fun _ _ (z : False) => z.elim)))
  · cases R
    exact ⟨F', rfl, A⟩
  · obtain ⟨v, H', I', rv, F', rfl, al⟩ := z
    obtain ⟨t, rfl⟩ := rv
    refine ⟨⟨hi.1, Int.lt_trans hi.2 (by decide)⟩, ?_⟩
    dsimp only
    refine wpAny_bind (wpAny_pure (a := some i) ?_)
    refine PySem.W.KFB.if_not (c := Builtin.List.listTooLong i.toNat) ?_ (wpAny_pure (q _ H' F' _ al (I'.tok _)))
    unfold Builtin.List.listTooLong
    rw [decide_eq_false_iff_not]
    rw [sizeLine_eq]
    omega
theorem owitIt_at {A1 : Around} {Q : Value → Shared → Prop} {E : Value → Shared → Prop} {H' : Hp} {x : V} {it : Addr} {u : HO} (I : Inv X pins σ (upd H' it u) s) (hat : ItAt X.K H' x it u) (h : Q (.ref it) s) : PySem.W.OwitIt (model X.prog X.w) A1 Q E (.ref it) s := by
  unfold PySem.W.OwitIt
  have ho := I.hok it u upd_same
  rcases hat with ⟨t, rfl, rfl⟩ | ⟨l, zs, rfl, hq, rfl⟩
  · obtain ⟨tk, ty, hty, st'⟩ := ho.1
    have hT : s.TypeIs (.ref it) ty := by
      obtain ⟨o, e, cc, _⟩ := st'
      exact ⟨o, e, cc⟩
    rcases hty with rfl | rfl
    · exact wpAny_specialOf hT PySem.F.slot_str_ascii_iterator_next.lookup h
    · exact wpAny_specialOf hT PySem.F.slot_str_iterator_next.lookup h
  · have eo : s.heap.get? it = some (GNX.itObj l 0) := ho.1
    have hT : s.TypeIs (.ref it) "list_iterator" := ⟨_, eo, rfl⟩
    exact wpAny_specialOf hT slot_listiter_next.lookup h
/-- list(o) -/
def rOwnL (K : PySem.W.Frag) (c Fd : PySem.Str) (f : Fn) : List V → Hp → VK → Prop := fun vs H Q => ∃ (F1 : Hp) (a : Addr) (ks : List PySem.Str) (xs : List D) (z : D) (i : Int) (os : List (List D)) (ys : List D), vs = [.ref a] ∧ Same F1 H ∧ Rep K F1 (.ref a) (.obj c ks xs) ∧ fAt c Fd (.obj c ks xs) = some z ∧ itD z = true ∧ itemsOf z = some ys ∧
  ys.length < 16777216 ∧ f [.da (.obj c ks xs)] = some (.fz (.int i), os) ∧ (0 ≤ i ∧ i < 16777216) ∧ ∀ H' F' q us, Alc F1 H F' H' → H' q = none → Reps K F' us ys → Q (.ref q) (upd H' q (.lst us))
theorem reps_signs {K : PySem.W.Frag} {F : Hp} : ∀ w : List Nat, Reps K F (w.map fun c => V.str ⟨#[c]⟩) (w.map fun c => D.str [c])
  | [] => .nil
  | c :: w => .cons (.str [c]) (reps_signs w)
theorem call_listI {kl m : Nat} (hcalm : X.calm = true) (hC : ClsN X.K c C) (hs : PySem.W.findIn X.K (.ref C) "__iter__" = some (some (.ref g))) (hf : PySem.W.isFn X.K (.ref g) = true) (FI : ItFn X.prog X.w X.K X.mg X.base k g fd ps c Fd) (hb : Binds X.K fd ps [])
    (hsL : PySem.W.findIn X.K (.ref C) "__len__" = some (some (.ref gl))) (hfL : PySem.W.isFn X.K (.ref gl) = true) (FL : FnOk X.prog X.w X.K X.mg X.base CX0 kl gl fl pl (spF X.K 1 f)) (hbL : Binds X.K fl pl []) (h1 : k ≤ m) (h2 : kl + 1 ≤ m) (hr : Room (m + 2) X.A) : CallR X (.type "list") (rOwnL X.K c Fd f) := by
  intro pins s σ H vs us Q I rv h
  obtain ⟨F1, a, ks, xs, z, i, os, ys, rfl, sF, R, hz, hit, hys, hyl, hx, hi, q⟩ := h
  obtain ⟨u, rfl, ru⟩ := rv.one
  cases ru
  obtain ⟨a', dx, vs', ea, haF, _, _⟩ := rep_ob hC R
  cases ea
  have ha : H a = some (.ins C dx (ks.zip vs')) := sF _ _ haF
  have sb : Sub X m X.A.in1.in1 := (Sub.in1 (Sub.in1 (⟨hr, rfl⟩ : Sub X (m + 2) X.A)))
  refine callType_codes (Q₁ := fun obj s₁ => obj = .ref s.heap.objs.size ∧ s₁ = { s with heap := s.heap.push { cls := .type "list", data := .seq #[] } }) PySem.F.called_list (PySem.F.typeCall_list_1 _) PySem.F.entry_list_init
    (code_list_new _ ⟨rfl, rfl⟩) fun obj s₁ h₁ => ?_
  obtain ⟨rfl, rfl⟩ := h₁
  have hS : (s.heap.push { cls := .type "list", data := .seq #[] }).get? s.heap.objs.size = some { cls := .type "list", data := .seq #[] } := Heap.get?_push_size _ rfl
  refine ⟨⟨_, hS, rfl⟩, PySem.F.args_list_init_2 _ _, ?_⟩
  have fr : H s.heap.objs.size = none := I.hok.fresh (Nat.le_refl _)
  have I1 : Inv X pins σ (upd H s.heap.objs.size (.lst [])) { s with heap := s.heap.push { cls := .type "list", data := .seq #[] } } := I.lnew (its := []) (t' := s.toks) .nil (Nat.zero_le _)
  generalize hp : s.heap.objs.size = p at fr I1 hS ⊢
  show wpAny _ _ (do let old ← Builtin.List.listItems (.ref p); Builtin.List.listUpdate (.ref p) (fun _ => #[]); letGo old.toList.reverse; Builtin.List.listExtendWith (.ref p) (.ref a) .none) _ _ _
  refine wpAny_bind ?_
  unfold Builtin.List.listItems
  refine wpAny_bind (wpAny_seqItems hS rfl (wpAny_pure ?_))
  show wpAny _ _ (updateSeq p (fun _ => #[]) >>= fun _ => letGo (#[] : Array Value).toList.reverse >>= fun _ => Builtin.List.listExtendWith (.ref p) (.ref a) .none) _ _ _
  refine wpAny_bind (wpAny_updateSeq hS rfl ?_)
  have I2 := I1.lset (f := fun _ => #[]) (its := []) (its' := []) (ys := []) (t' := s.toks) upd_same hS rfl .nil (Nat.zero_le _)
  rw [upd_upd] at I2
  refine wpAny_bind (wpAny_letGo ?_)
  have hne : p ≠ a := fun e => by rw [e, ha] at fr; cases fr
  have ha2 : upd H p (.lst []) a = some (.ins C dx (ks.zip vs')) := by rw [upd_ne (Ne.symm hne)]; exact ha
  have sF2 : Same F1 (upd H p (.lst [])) := sF.trans (same_upd fr)
  obtain ⟨ox, od, J⟩ := ins_look I2 ha2
  obtain ⟨m0, hF⟩ := I2.fr
  unfold Builtin.List.listExtendWith
  refine wpAny_bind (J.type.here ?_)
  have e1 : Builtin.List.listSameRef (.ref p) (.ref a) = false := by simp [Builtin.List.listSameRef, hne]
  have e2 : (Value.ref C == Value.type "list") = false := rfl
  have e3 : (Value.ref C == Value.type "tuple") = false := rfl
  simp only [e1, e2, e3, Bool.or_false, Bool.false_eq_true, if_false]
  refine wpAny_bind (PySem.W.owit_iter hF I2.ok.mod.kin J hs hf ?_)
  refine it_call (sb.mono h1) FI hb I2 sF2 R hz hit fun x H' F' it u s' hn al Rx hitn hat I3 => ?_
  have itp : it ≠ p := fun e => by
    have := al.hh p _ (upd_same (H := H) (a := p))
    rw [← e, hitn] at this
    cases this
  have ita : it ≠ a := fun e => by
    have := al.hh a _ ha2
    rw [← e, hitn] at this
    cases this
  have young : X.s_0.heap.objs.size ≤ it := Nat.le_trans I2.sz hn
  refine owitIt_at I3 hat ?_
  refine wpAny_bind (wpAny_holding (own_lenHint (sb.mono h2) hsL hfL FL hbL I3 (by rw [upd_ne (Ne.symm ita)]; exact al.hh a _ ha2) (al.sub.trans (same_upd hitn)) (R.mono al.ff) hx hi fun b H4 F4 s4 al4 I4 => ?_))
  have h4p : H4 p = some (.lst []) := al4.hh p _ (by rw [upd_ne (Ne.symm itp)]; exact al.hh p _ upd_same)
  have h4i : H4 it = some u := al4.hh it _ upd_same
  have Rx4 : Rep X.K F4 x z := Rx.mono al4.ff
  have f'i : F' it = none := by
    cases e : F' it with
    | none => rfl
    | some o => have := al.sub it o e; rw [hitn] at this; cases this
  have f4i : F4 it = none := Classical.byContradiction fun e => by
    rcases al4.nf it e with e | e
    · exact e f'i
    · rw [upd_same] at e
      cases e
  have f1p : F1 p = none := by
    cases e : F1 p with
    | none => rfl
    | some o => have := sF p o e; rw [fr] at this; cases this
  have f'p : F' p = none := Classical.byContradiction fun e => by
    rcases al.nf p e with e | e
    · exact e f1p
    · rw [upd_same] at e
      cases e
  have f4p : F4 p = none := Classical.byContradiction fun e => by
    rcases al4.nf p e with e | e
    · exact e f'p
    · rw [upd_ne (Ne.symm itp), al.hh p _ upd_same] at e
      cases e
  have h2' : ∀ b o, H b = some o → upd H p (.lst []) b = some o := same_upd fr
  have hh4 : ∀ b o, H b = some o → H4 b = some o ∧ b ≠ it ∧ b ≠ p := fun b o e => by
    have bp : b ≠ p := fun z => by rw [z, fr] at e; cases e
    have e1 := al.hh b o (h2' b o e)
    have bi : b ≠ it := fun z => by rw [z, hitn] at e1; cases e1
    exact ⟨al4.hh b o (by rw [upd_ne bi]; exact e1), bi, bp⟩
  have alF : Alc F1 H F4 (ItX.dropH (ItX.dropH H4 it) p) := by
    refine ⟨al.ff.trans al4.ff, fun b o e => ?_, fun b o e => ?_, fun b e => ?_⟩
    · have bi : b ≠ it := fun z => by rw [z, f4i] at e; cases e
      have bp : b ≠ p := fun z => by rw [z, f4p] at e; cases e
      rw [ItX.dropH_ne bp, ItX.dropH_ne bi]
      exact al4.sub b o e
    · obtain ⟨e1, bi, bp⟩ := hh4 b o e
      rw [ItX.dropH_ne bp, ItX.dropH_ne bi]
      exact e1
    · have back : upd H p (.lst []) b = none → H b = none := fun e => by
        cases e1 : H b with
        | none => rfl
        | some o => rw [h2' b o e1] at e; cases e
      rcases al4.nf b e with e | e
      · rcases al.nf b e with e | e
        · exact .inl e
        · exact .inr (back e)
      · have bi : b ≠ it := fun z => by rw [z, upd_same] at e; cases e
        rw [upd_ne bi] at e
        refine .inr (back ?_)
        cases e1 : upd H p (.lst []) b with
        | none => rfl
        | some o => rw [al.hh b o e1] at e; cases e
  have updp : ∀ o, upd (ItX.dropH (ItX.dropH H4 it) p) p o = upd (ItX.dropH H4 it) p o := fun o => by
    funext b
    by_cases hb : b = p
    · rw [hb, upd_same, upd_same]
    · rw [upd_ne hb, upd_ne hb, ItX.dropH_ne hb]
  have dp : upd (ItX.dropH H4 it) p (.lst []) = ItX.dropH H4 it := by
    funext b
    by_cases hb : b = p
    · rw [hb, upd_same, ItX.dropH_ne (Ne.symm itp), h4p]
    · rw [upd_ne hb]
  have LOOP : ∀ s5, Inv X pins σ H4 s5 → codeAny (model X.prog X.w) X.A.in1 (.builtin "list.extend.loop" ⟨[.ref p, .ref it, .none], []⟩) (wants (fun r s₂ => r = .none ∧ EP X pins σ Q (.ref p) s₂) X.xe) s5 := by
    intro s5 I5
    have hd : X.A.in1.in1.handled = none := I5.ok.hd hcalm
    have ho := I5.hok it u h4i
    have fin : ∀ out s', Reps X.K F4 out ys → Inv X pins σ (upd (ItX.dropH H4 it) p (.lst out)) s' → wants (fun r s₂ => r = .none ∧ EP X pins σ Q (.ref p) s₂) X.xe (.ok (.ret .none)) s' := fun out s' hr' I' =>
      ⟨rfl, .ref p, _, I', rfl, by rw [← updp]; exact q _ F4 p out alF ItX.dropH_same hr'⟩
    rcases hat with ⟨t, rfl, rfl⟩ | ⟨l, zs, rfl, hq, rfl⟩
    · obtain ⟨tk, ty, hty, st'⟩ := ho.1
      have I6 := ItX.inv_drop I5 h4i
      have fpo := ItX.inv_fp I5 h4i young
      cases z with
      | str w =>
        cases Rx4
        cases hys
        rw [List.length_map] at hyl
        have W : Walks X.prog X.w X.A.in1.in1 it [it] [it] (⟨w.toArray⟩ : Str).cps.size (SignAt ⟨w.toArray⟩) (fun i h => h.IsStrIter it ty ⟨w.toArray⟩ tk i) := by
          rcases hty with e | e
          · rw [e]; exact Walks.strAscii hd it _ tk
          · rw [e]; exact Walks.strWide hd it _ tk
        have hsz : (⟨w.toArray⟩ : Str).cps.size = w.length := List.size_toArray
        refine it_loop (out := w.map fun c => V.str ⟨#[c]⟩) W (fun i v pv => ?_) (by rw [List.length_map, hsz]) (by rw [hsz, sizeLine_eq]; exact hyl) itp (by simpa using Ne.symm itp) fpo (fun s' I' => fin _ s' (reps_signs w) I') _ 0 s5 rfl (Nat.zero_le _) (by rw [List.take_zero, dp]; exact I6) st'
        obtain ⟨c0, u0, hc0, rfl⟩ := pv
        have hc1 : w[i]? = some c0 := by simpa using hc0
        exact ⟨.str ⟨#[c0]⟩, by rw [List.getElem?_map, hc1]; rfl, ⟨u0, rfl⟩⟩
      | lst w => cases Rx4
      | _ => cases hit
    · have eo : s5.heap.get? it = some (GNX.itObj l 0) := ho.1
      have h4i' : H4 it = some (.ext fun h => h.get? it = some (GNX.itObj l 0)) := h4i
      have I6 := ItX.inv_drop I5 h4i'
      have fpo := ItX.inv_fp I5 h4i' young
      cases z with
      | lst w =>
        cases hys
        cases Rx4 with
        | lst g1 g2 =>
          have gl4 : l ≠ it := fun e => by rw [e, f4i] at g1; cases g1
          have gd := (ItX.dropH_ne (H := H4) gl4).trans (al4.sub _ _ g1)
          obtain ⟨its, rv5, pl5, hz5⟩ := I6.list (SqL.of gd)
          have hsz : its.toArray.size = its.length := List.size_toArray
          have W := Walks.list (prog := X.prog) (w := X.w) (A := X.A.in1.in1) hd it l gl4 its.toArray
          have ln := g2.len
          have lv := rv5.length
          refine it_loop W (fun i v pv => ?_) (by rw [hsz]; omega) (by rw [hsz, sizeLine_eq]; omega) itp (by
            intro hm
            rcases List.mem_cons.mp hm with e | hm
            · exact itp e.symm
            · have e := List.mem_singleton.mp hm
              rw [← e] at g1
              rw [f4p] at g1
              cases g1) fpo (fun s' I' => fin _ s' g2 I') _ 0 s5 rfl (Nat.zero_le _) (by rw [List.take_zero, dp]; exact I6) ⟨⟨_, eo, rfl, rfl⟩, pl5.isList⟩
          have pv : its[i]? = some v := by simpa using pv
          have hlt := (List.getElem?_eq_some_iff.mp pv).1
          rw [← lv] at hlt
          obtain ⟨w', hw, rw'⟩ := rv5.get (List.getElem?_eq_getElem hlt)
          rw [pv] at hw
          cases hw
          exact ⟨_, List.getElem?_eq_getElem _, rw'⟩
      | str w => cases Rx4
      | _ => cases hit
  refine wpAny_ite_split (fun _ => ?_) (fun _ => wpAny_pure ⟨plainId_quiet PySem.F.plain_extend_loop _, LOOP _ I4⟩)
  refine wpAny_bind (wpAny_rule ?_)
  refine wpAny_bind ?_
  obtain ⟨z3, its3, k3, r3, hl3, g3⟩ := I4.lstM h4p
  cases r3
  show wpAny _ _ (updateSeq p (·.push .none) >>= fun _ => updateSeq p (·.pop)) _ _ _
  refine wpAny_bind (wpAny_updateSeq g3 rfl ?_)
  have J2 := I4.lset (f := (·.push Value.none)) (its' := [Value.none]) (ys := [.non]) (t' := s4.toks) h4p g3 (by simp) (.cons rfl .nil) (by rw [List.length_singleton, sizeLine_eq]; decide)
  obtain ⟨z4, its4, k4, r4, hl4, g4⟩ := J2.lstM upd_same
  obtain ⟨u4, rfl, ru4⟩ := r4.one
  refine wpAny_updateSeq g4 rfl ?_ (by show 1 ≤ sizeLine; rw [sizeLine_eq]; decide) (by show 0 ≤ sizeLine + 1; exact Nat.zero_le _)
  have J3 := J2.lset (f := (·.pop)) (its := [u4]) (its' := []) (ys := []) (t' := s4.toks) upd_same g4 (by rfl) .nil (Nat.zero_le _)
  rw [upd_upd] at J3
  have hH : upd H4 p (.lst []) = H4 := by
    funext b
    by_cases hb : b = p
    · rw [hb, upd_same, h4p]
    · rw [upd_ne hb]
  rw [hH] at J3
  exact wpAny_pure ⟨plainId_quiet PySem.F.plain_extend_loop _, LOOP _ J3⟩
def lenOk (f : Fn) (x : D) : Bool := match f [.da x] with
  | some (.fz (.int i), _) => decide (0 ≤ i ∧ i < 16777216)
  | _ => false
theorem lenOk_inv {f : Fn} {x : D} (h : lenOk f x = true) : ∃ i os, f [.da x] = some (.fz (.int i), os) ∧ (0 ≤ i ∧ i < 16777216) := by
  unfold lenOk at h
  split at h
  · rename_i i os e
    exact ⟨i, os, e, of_decide_eq_true h⟩
  · cases h
/-- list(o) -/
def eNewO (c Fd : PySem.Str) (f : Fn) (m : M Vl) : M Vl := fun ρ => (m ρ).bind fun p => match p.1 with
  | .fz x => if lenOk f x = true then (iOwn c Fd (fun _ => some p) ρ).bind fun q => if q.1.length < 16777216 then some (.fr q.1, q.2) else none else none
  | _ => none
theorem se_listO {kl m : Nat} {e : Expr} {me : M Vl} {p pos : Pos} (hcalm : X.calm = true) (hC : ClsN X.K c C) (hs : PySem.W.findIn X.K (.ref C) "__iter__" = some (some (.ref g))) (hf : PySem.W.isFn X.K (.ref g) = true) (FI : ItFn X.prog X.w X.K X.mg X.base k g fd ps c Fd) (hb : Binds X.K fd ps [])
    (hsL : PySem.W.findIn X.K (.ref C) "__len__" = some (some (.ref gl))) (hfL : PySem.W.isFn X.K (.ref gl) = true) (FL : FnOk X.prog X.w X.K X.mg X.base CX0 kl gl fl pl (spF X.K 1 f)) (hbL : Binds X.K fl pl []) (h1 : k ≤ m) (h2 : kl + 1 ≤ m) (hr : Room (m + 2) X.A)
    (hm : X.mg "list" = none) (hg : Gl X "list") (ha : SE X e me) (he : starEach [e] X.env = (false, eval e X.env) :: starEach [] X.env := by rfl) (hpl : (backTo pos (starEach [] X.env)).any (·.1) = false := by rfl) : SE X (.Call (.Name "list" p) [e] [] pos) (eNewO c Fd f me) := by
  refine pe_weak (pe_callTy (call_listI hcalm hC hs hf FI hb hsL hfL FL hbL h1 h2 hr) hg hm (by decide +kernel) (pa_cons ha pa_nil he) (by decide) (by decide) he hpl) fun σ H Q ⟨G, ρ, F, r0, ρ', W, hm, q⟩ => ?_
  unfold eNewO at hm
  obtain ⟨⟨r, ρ1⟩, e1, hm⟩ := Option.bind_eq_some_iff.mp hm
  dsimp only at hm
  split at hm
  · rename_i x
    split at hm
    · rename_i hl
      obtain ⟨⟨ys, ρ2⟩, e2, hm⟩ := Option.bind_eq_some_iff.mp hm
      dsimp only at hm
      split at hm
      · rename_i hy
        cases hm
        obtain ⟨ks, xs, z, e3, hz, hit, hys⟩ := iOwn_inv e2
        cases e3
        obtain ⟨i, os, hx, hi⟩ := lenOk_inv hl
        refine tm_use W e1 fun v H1 F1 s1 R1 => ?_
        obtain ⟨a, dx, vs, rfl, ha, _, _⟩ := rep_ob hC (show Rep X.K F1 v (.obj c ks xs) from R1)
        refine ⟨F1, a, ks, xs, z, i, os, ys, rfl, s1.wd.sub, R1, hz, hit, hys, hy, hx, hi, fun H' F' l us A hl' R' => ?_⟩
        have s2 := s1.trans (s1.wd.alc A)
        have B : Alc F' H' F' (upd H' l (.lst us)) := ⟨Same.refl _, A.sub.trans (same_upd hl'), same_upd hl', fun _ h => .inl h⟩
        refine q _ _ _ (s2.trans (s2.wd.alc B)) ⟨l, us, rfl, upd_same, R', s2.wd.sub.free hl', s2.back l hl', fun i o => ?_⟩
        obtain ⟨_, z, _⟩ := s2.wd.ow_there o
        rw [hl'] at z
        cases z
      · cases hm
    · cases hm
  · cases hm
end
end Sw
/-! Sw38: own == with a list on the right side. -/
namespace Sw
open PySem PySem.Spec PyProof.Rows L2
section
variable {X : Cx} {f : Fn} {c : PySem.Str} {C g : Addr} {fd : FuncData} {ps : List Str} {k n : Nat}
structure EqL (K : PySem.W.Frag) (C : Addr) : Prop where
  ls : PySem.W.notFirst K C (.type "list") = true
def fOwnEqL (c : PySem.Str) (f : Fn) : D → D → Option D := fun x y => if isOf c x = true then (match y with
  | .lst ys => (f [.da x, .da (.lst ys)]).bind fun r => match r.1 with
    | .fz (.bl b) => some (.bl b)
    | _ => none
  | _ => none) else none
theorem os_ownEqL {K : PySem.W.Frag} (hC : ClsN K c C) (ql : EqL K C) : OpS K (rOwnEq K C f) (fOwnEqL c f) := by
  intro H F v u x y z s hx hy e Q q
  unfold fOwnEqL at e
  split at e
  · rename_i hc
    obtain ⟨kx, xs, rfl⟩ := isOf_inv hc
    split at e
    · rename_i ys
      obtain ⟨⟨r, os⟩, e1, e2⟩ := Option.bind_eq_some_iff.mp e
      dsimp only at e2
      split at e2
      · rename_i b
        cases e2
        have ty := tyx (K := K) (fun _ _ _ h => by cases h) s hy
        have hx : Rep K F v _ := hx
        obtain ⟨a, dx, vs, rfl, ha, _⟩ := rep_ob hC hx
        obtain ⟨l, us, rfl, hl, hr⟩ := hy
        have sF : Same F (upd F l (.lst us)) := fun d o e => by
          by_cases hd : d = l
          · subst hd
            have := s _ _ e
            rw [hl] at this
            rw [upd_same, ← this]
          · rw [upd_ne hd]
            exact e
        have sH : Same (upd F l (.lst us)) H := fun d o e => by
          by_cases hd : d = l
          · subst hd
            rw [upd_same] at e
            rw [hl, e]
          · rw [upd_ne hd] at e
            exact s d o e
        refine ⟨a, dx, _, _, rfl, s _ _ ha, ty, ql.ls, spf_data (gs := [.da (.obj c kx xs), .da (.lst ys)]) rfl sH ⟨hx.mono sF, Rep.lst upd_same (hr.mono sF), trivial⟩ rfl e1 fun v H' F' A R => ?_⟩
        cases R
        refine ⟨b, rfl, ?_⟩
        cases hF : F l with
        | none =>
          refine q _ H' (ItX.dropH F' l) ⟨fun d o e => ?_, fun d o e => ?_, A.hh, fun d e => ?_⟩ (.bl _)
          · have hd : d ≠ l := fun z => by rw [z, hF] at e; cases e
            rw [ItX.dropH_ne hd]
            exact A.ff d o (sF d o e)
          · by_cases hd : d = l
            · rw [hd, ItX.dropH_same] at e
              cases e
            · rw [ItX.dropH_ne hd] at e
              exact A.sub d o e
          · have hd : d ≠ l := fun z => e (by rw [z, ItX.dropH_same])
            rw [ItX.dropH_ne hd] at e
            rcases A.nf d e with e | e
            · rw [upd_ne hd] at e
              exact .inl e
            · exact .inr e
        | some o =>
          refine q _ H' F' ⟨sF.trans A.ff, A.sub, A.hh, fun d e => ?_⟩ (.bl _)
          rcases A.nf d e with e | e
          · by_cases hd : d = l
            · rw [hd, hF]
              exact .inl fun z => by cases z
            · rw [upd_ne hd] at e
              exact .inl e
          · exact .inr e
      · cases e2
    · cases e
  · cases e
theorem oOwnEqL (hC : ClsN X.K c C) (ql : EqL X.K C) (hs : PySem.W.findIn X.K (.ref C) "__eq__" = some (some (.ref g))) (hf : PySem.W.isFn X.K (.ref g) = true) (hu : X.A.units + 64 < cLine)
    (F : FnOk X.prog X.w X.K X.mg X.base CX0 k g fd ps (spF X.K 2 f)) (hr : Room k X.A) (hb : Binds X.K fd ps []) : Op2 X (compareOp .Eq) (fOwnEqL c f) := ⟨_, op_ownEq hs hf hu F hr hb, os_ownEqL hC ql⟩
end
end Sw
/-! Sw39: staticmethods off the class. -/
namespace Sw
open PySem PySem.Spec PyProof.Rows L2
/-- C.m is a staticmethod, its def at g -/
structure SmOf (K : PySem.W.Frag) (C : Addr) (m : PySem.Str) (g : Addr) : Prop where
  ga : PySem.W.specialIn K (.ref C) "__getattribute__" = some (some (.builtin "type.__getattribute__"))
  ex : ∃ (mc : Value) (p : Addr) (rest : List Value), PySem.W.readsIn K C mc = true ∧ PySem.W.findCls K (.ref C) mc m = some (.get (.builtin "staticmethod.__get__") (.ref p) .none (.ref C)) ∧ PySem.W.recIn K p "staticmethod" = some (.ref g :: rest)
section
variable {X : Cx} {e : Expr} {es : List Expr} {ms : M (List Vl)} {f : Fn} {x m : PySem.Str} {C g : Addr} {fd : FuncData} {ps : List Str} {k n : Nat} {p pos apos : Pos}
theorem pe_sm {sp : Sp} {t : TA} {dvs : List V} {ds : List Value} {E : XK} {CX : CXT} {pl : Sem Bool} (F : FnOk X.prog X.w X.K X.mg X.base CX k g fd ps sp) (hr : Room k X.A) (hg : Gl X x) (hm : X.mg x = some (.ref C)) (sm : SmOf X.K C m g) (hk : PySem.W.keepIn X.K (.ref g) = true) (hb : Binds X.K fd ps ds) (hd : Vals dvs ds) (hx : Passes CX X E)
    (ha : PA X (e :: es) t) (hdb : (x == ("__debug__" : Str)) = false := by decide) (he : starEach (e :: es) X.env = (false, eval e X.env) :: starEach es X.env := by rfl) (hpl : (backTo pos (starEach es X.env)).any (·.1) = false := by rfl)
    (ht : eval (.Call (.Attribute (.Name x p) m apos) (e :: es) [] pos) X.env = (do
      let ov ← eval (.Name x p) X.env
      standAt apos.atName
      let (f, first) ← holding [ov] (getMethod ov m pl)
      callWith pos f first (backTo pos (starEach (e :: es) X.env)) (backToKw pos (keywordEach [] X.env))) := by rfl) :
    PE X (.Call (.Attribute (.Name x p) m apos) (e :: es) [] pos) (tCall sp dvs E t) := by
  refine ⟨fun pins s σ H Q I h => ?_⟩
  obtain ⟨mc, q, rest, hrd, hat, hrc⟩ := sm.ex
  refine PySem.W.methodCall_KW (pl := pl) (ld_glob I hg hm ?_ hdb) ht
  refine PySem.W.method_cls I.kIn sm.ga (PySem.W.cls_bind I.kIn hrd hat (wpAny_call (PySem.W.sm_get (s := { s with toks := s.toks + 1 }) I.kIn hrc (PySem.W.handed_on rfl ?_))))
  have I1 : Inv X pins σ H { s with toks := s.toks + 1 } := I.tok _
  refine PySem.W.callWith_K (h₀ := X.base) I.ok.mod.kin hk (thn (ha.run pos pins _ σ H _ I1 h) fun us s1 ⟨vs, H1, I2, r, q⟩ => ⟨I2.kIn, ?_⟩) he hpl
  exact run_fn F hr hb hd hx I2 r q
theorem se_sm {fs : List Bool} {pl : Sem Bool} (F : FnOk X.prog X.w X.K X.mg X.base CX0 k g fd ps (spF X.K n f)) (hn : ∀ gs z, f gs = some z → gs.length = n) (hr : Room k X.A) (hg : Gl X x) (hm : X.mg x = some (.ref C)) (sm : SmOf X.K C m g) (hk : PySem.W.keepIn X.K (.ref g) = true) (hb : Binds X.K fd ps [])
    (ha : SA X (e :: es) ms) (hdb : (x == ("__debug__" : Str)) = false := by decide) (he : starEach (e :: es) X.env = (false, eval e X.env) :: starEach es X.env := by rfl) (hpl : (backTo pos (starEach es X.env)).any (·.1) = false := by rfl)
    (ht : eval (.Call (.Attribute (.Name x p) m apos) (e :: es) [] pos) X.env = (do
      let ov ← eval (.Name x p) X.env
      standAt apos.atName
      let (f, first) ← holding [ov] (getMethod ov m pl)
      callWith pos f first (backTo pos (starEach (e :: es) X.env)) (backToKw pos (keywordEach [] X.env))) := by rfl) :
    SE X (.Call (.Attribute (.Name x p) m apos) (e :: es) [] pos) (eCall f fs ms) := pe_weak (pe_sm F hr hg hm sm hk hb .nil pass0 ha hdb he hpl ht) fun _ _ _ h => tcall_of (dvs := []) hn h
end
end Sw
/-! Sw40: list(zip(a, b)) of two lists. -/
namespace Sw
open PySem PySem.Spec PyProof.Rows L2
section
variable {prog : Program} {w : World} {A : Around} {E : Value → Shared → Prop} {s : Shared}
theorem wpAny_loadIfAlive {M : Model} {a : Addr} {Q : Option Obj → Shared → Prop} (h : Q (s.heap.get? a) s) : wpAny M A (loadIfAlive a) Q E s := fun Γ p hΓ => by
  unfold loadIfAlive
  rw [Sem.wp_loadIfAlive]
  exact (wpAny_pure h : wpAny M A (pure (s.heap.get? a)) Q E s) Γ p hΓ
/-- a zip whose first tuple is still held -/
abbrev ZLate (h : Heap) (z TI TO T0 : Addr) (b : Bool) : Prop := h.get? z = some { cls := .type "zip", dict := none, data := .fields #[rawInt (T0 : Nat), .bool b, .bool false, .ref TI, .ref TO], slots := #[] }
theorem late_free {z TI TO T0 : Addr} {b : Bool} {o : Obj} {Q : Bool → Shared → Prop} (hz : ZLate s.heap z TI TO T0 b) (ho : s.heap.get? T0 = some o) (h : ∀ h', ZLate h' z TI TO T0 true → (∀ c o, c ≠ z → s.heap.get? c = some o → h'.get? c = some o) → h'.objs.size = s.heap.objs.size → Q false { s with heap := h' }) :
    wpAny (model prog w) A (Builtin.SmallTypes.ownedTupleIsFree (.ref z)) Q E s := by
  unfold Builtin.SmallTypes.ownedTupleIsFree
  refine wpAny_bind (wpAny_field hz rfl (x := rawInt (T0 : Nat)) rfl ?_)
  show wpAny _ _ (loadIfAlive (Int.toNat (T0 : Nat)) >>= _) _ _ _
  rw [show Int.toNat ((T0 : Nat) : Int) = T0 from Int.toNat_natCast T0]
  refine wpAny_bind (wpAny_loadIfAlive ?_)
  rw [ho]
  show wpAny _ _ (field (.ref z) 1 >>= _) _ _ _
  refine wpAny_bind (wpAny_field hz rfl (x := .bool b) rfl ?_)
  cases b with
  | true =>
    show wpAny _ _ (if (Value.bool true != Value.bool true) = true then _ else _) _ _ _
    rw [if_neg (by decide)]
    exact wpAny_pure (h s.heap hz (fun _ _ _ e => e) rfl)
  | false =>
    show wpAny _ _ (if (Value.bool false != Value.bool true) = true then _ else _) _ _ _
    rw [if_pos (by decide)]
    refine wpAny_bind (wpAny_setField_rec hz (by simp) fun h' hz' hs => wpAny_pure (h h' hz' (fun c o hc e => (hs.2 c hc).trans e) hs.1))
theorem late_item {z TI TO T0 i1 i2 l1 l2 : Addr} {b : Bool} {o : Obj} {k : Nat} {xs ys : Array Value} {x y : Value} {Q : Option Value → Shared → Prop} (D : ZipApart z TI TO i1 i2 l1 l2) (hz : ZLate s.heap z TI TO T0 b) (ho : s.heap.get? T0 = some o)
    (hTI : IsPair s.heap TI (.ref i1) (.ref i2)) (h1 : s.heap.IsListIter i1 l1 k) (h2 : s.heap.IsListIter i2 l2 k) (hl1 : s.heap.IsList l1 xs) (hl2 : s.heap.IsList l2 ys) (hx : xs[k]? = some x) (hy : ys[k]? = some y)
    (hQ : ∀ h', ZLate h' z TI TO T0 true → h'.IsListIter i1 l1 (k + 1) → h'.IsListIter i2 l2 (k + 1) → IsPair h' s.heap.objs.size x y → h'.objs.size = s.heap.objs.size + 1 →
      (∀ c o, c ≠ z → c ≠ i1 → c ≠ i2 → s.heap.get? c = some o → h'.get? c = some o) → Q (some (.ref s.heap.objs.size)) { s with heap := h' }) : wpAny (model prog w) A (pyNext (.ref z)) Q E s := by
  have hT : s.TypeIs (.ref z) "zip" := ⟨_, hz, rfl⟩
  unfold pyNext
  refine wpAny_bind (wpAny_attempt (wpAny_callSpecial?_slot (name := Str.ofString "__next__") hT PySem.F.slot_zip_next
    (wpAny_call_entry PySem.F.slot_zip_next hT PySem.F.entry_zip_next ?_ (PySem.F.args_zip_next_1 _))))
  show wpAny _ _ (field (.ref z) 2 >>= _) _ _ _
  refine wpAny_bind (wpAny_field hz rfl (x := .bool false) rfl ?_)
  show wpAny _ _ (field (.ref z) 3 >>= _) _ _ _
  refine wpAny_bind (wpAny_field hz rfl (x := .ref TI) rfl ?_)
  refine wpAny_bind (wpAny_seqItems hTI rfl ?_)
  show wpAny _ _ (Builtin.SmallTypes.ownedTupleIsFree (.ref z) >>= _) _ _ _
  refine wpAny_bind (late_free hz ho fun h₁ hz₁ k₁ s₁ => ?_)
  dsimp only
  rw [if_neg Bool.false_ne_true]
  refine wpAny_bind ?_
  rw [← Array.forIn_toList]
  simp only [List.forIn_cons, List.forIn_nil]
  refine wpAny_bind (wpAny_bind (wpAny_holding ?_))
  show wpAny _ _ (Builtin.SmallTypes.nextOf (.ref i1) >>= _) _ _ _
  have g1 : h₁.IsListIter i1 l1 k := h1.at fun o e => k₁ i1 o D.i1z e
  have gl1 : h₁.IsList l1 xs := hl1.at fun o e => k₁ l1 o D.l1z e
  refine wpAny_bind (wpAny_nextOf_list_item g1 gl1 hx fun h₂ h1₂ hs₂ => wpAny_pure ?_)
  refine wpAny_pure ?_
  dsimp only
  refine wpAny_bind (wpAny_bind (wpAny_holding ?_))
  show wpAny _ _ (Builtin.SmallTypes.nextOf (.ref i2) >>= _) _ _ _
  have g2 : h₂.IsListIter i2 l2 k := h2.at fun o e => (hs₂.2 i2 D.i12.symm).trans (k₁ i2 o D.i2z e)
  have gl2 : h₂.IsList l2 ys := hl2.at fun o e => (hs₂.2 l2 D.l2i1).trans (k₁ l2 o D.l2z e)
  refine wpAny_bind (wpAny_nextOf_list_item g2 gl2 hy fun h₃ h2₃ hs₃ => wpAny_pure ?_)
  refine wpAny_pure ?_
  dsimp only
  refine wpAny_pure ?_
  dsimp only
  refine wpAny_bind (wpAny_newTuple (hsz := by show 2 ≤ sizeLine; decide) ?_)
  have sz : h₃.objs.size = s.heap.objs.size := by rw [hs₃.1, hs₂.1, s₁]
  have kk : ∀ c o, c ≠ z → c ≠ i1 → c ≠ i2 → s.heap.get? c = some o → h₃.get? c = some o := fun c o c1 c2 c3 e => (hs₃.2 c c3).trans ((hs₂.2 c c2).trans (k₁ c o c1 e))
  have z3 : ZLate h₃ z TI TO T0 true := (hs₃.2 z D.i2z.symm).trans ((hs₂.2 z D.i1z.symm).trans hz₁)
  have i1₃ : h₃.IsListIter i1 l1 (k + 1) := h1₂.at fun o e => (hs₃.2 i1 D.i12).trans e
  refine wpAny_pure ⟨_, rfl, wpAny_pure ?_⟩
  have fin := hQ (h₃.push { cls := .type "tuple", data := .seq #[x, y] }) (Heap.get?_push_of_some _ z3) (i1₃.at fun o e => Heap.get?_push_of_some _ e) (h2₃.at fun o e => Heap.get?_push_of_some _ e) (by rw [← sz]; exact Heap.get?_push_size _ rfl) (by rw [Heap.size_push, sz]) (fun c o c1 c2 c3 e => Heap.get?_push_of_some _ (kk c o c1 c2 c3 e))
  show Q (some (.ref h₃.objs.size)) { s with heap := h₃.push { cls := .type "tuple", data := .seq #[x, y] } }
  rw [sz]
  exact fin
theorem late_end {z TI TO T0 i1 i2 l1 l2 : Addr} {b : Bool} {o : Obj} {k : Nat} {xs ys : Array Value} {Q : Option Value → Shared → Prop} (hh : A.handled = none) (D : ZipApart z TI TO i1 i2 l1 l2) (hz : ZLate s.heap z TI TO T0 b) (ho : s.heap.get? T0 = some o)
    (hTI : IsPair s.heap TI (.ref i1) (.ref i2)) (h1 : s.heap.IsListIter i1 l1 k) (h2 : s.heap.IsListIter i2 l2 k) (hl1 : s.heap.IsList l1 xs) (hl2 : s.heap.IsList l2 ys) (hx : xs[k]? = none)
    (hQ : ∀ h', (∀ c o, c ≠ z → c ≠ i1 → s.heap.get? c = some o → h'.get? c = some o) → Q none { s with heap := h' }) : wpAny (model prog w) A (pyNext (.ref z)) Q E s := by
  have hT : s.TypeIs (.ref z) "zip" := ⟨_, hz, rfl⟩
  unfold pyNext
  refine wpAny_bind (wpAny_attempt (wpAny_callSpecial?_slot (name := Str.ofString "__next__") hT PySem.F.slot_zip_next
    (wpAny_call_entry PySem.F.slot_zip_next hT PySem.F.entry_zip_next ?_ (PySem.F.args_zip_next_1 _))))
  show wpAny _ _ (field (.ref z) 2 >>= _) _ _ _
  refine wpAny_bind (wpAny_field hz rfl (x := .bool false) rfl ?_)
  show wpAny _ _ (field (.ref z) 3 >>= _) _ _ _
  refine wpAny_bind (wpAny_field hz rfl (x := .ref TI) rfl ?_)
  refine wpAny_bind (wpAny_seqItems hTI rfl ?_)
  show wpAny _ _ (Builtin.SmallTypes.ownedTupleIsFree (.ref z) >>= _) _ _ _
  refine wpAny_bind (late_free hz ho fun h₁ hz₁ k₁ s₁ => ?_)
  dsimp only
  rw [if_neg Bool.false_ne_true]
  refine wpAny_bind ?_
  rw [← Array.forIn_toList]
  simp only [List.forIn_cons, List.forIn_nil]
  refine wpAny_bind (wpAny_bind (wpAny_holding ?_))
  show wpAny _ _ (Builtin.SmallTypes.nextOf (.ref i1) >>= _) _ _ _
  have g1 : h₁.IsListIter i1 l1 k := h1.at fun o e => k₁ i1 o D.i1z e
  have gl1 : h₁.IsList l1 xs := hl1.at fun o e => k₁ l1 o D.l1z e
  refine wpAny_bind (wpAny_nextOf_list_end (A := A.in1) hh g1 gl1 hx fun h₂ e hs₂ he => ?_)
  obtain ⟨oe, hoe, hce⟩ := he
  refine wpAny_bind (wpAny_isInstance (T := "StopIteration") (b := true) ⟨oe, hoe, hce⟩ isSubtype_stop ?_)
  exact wpAny_pure (hQ _ fun c o c1 c2 e => hs₂ c o c2 (k₁ c o c1 e))
end
theorem FpOk.up {X : Cx} {pins : List (Addr × Obj)} {H : Hp} {c p : Addr} {o : HO} (h : FpOk X pins H c) (n : c ≠ p) : FpOk X pins (upd H p o) c := ⟨by rw [upd_ne n]; exact h.1, h.2⟩
/-- the pairs -/
def zipP : List D → List D → List D
  | x :: xs, y :: ys => .tup [x, y] :: zipP xs ys
  | _, _ => []
theorem zipP_get {xs : List D} : ∀ {ys : List D} {i : Nat} {x y : D}, xs[i]? = some x → ys[i]? = some y → (zipP xs ys)[i]? = some (.tup [x, y]) := by
  induction xs with
  | nil => intro ys i x y h _; simp at h
  | cons a xs ih =>
    intro ys i x y h h'
    cases ys with
    | nil => simp at h'
    | cons b ys =>
      cases i with
      | zero =>
        simp only [List.getElem?_cons_zero, Option.some.injEq] at h h'
        rw [h, h']
        rfl
      | succ i =>
        rw [List.getElem?_cons_succ] at h h'
        show (D.tup [a, b] :: zipP xs ys)[i + 1]? = _
        rw [List.getElem?_cons_succ]
        exact ih h h'
theorem zipP_len : ∀ {xs ys : List D}, xs.length = ys.length → (zipP xs ys).length = xs.length
  | [], [], _ => rfl
  | [], _ :: _, h => by cases h
  | _ :: _, [], h => by cases h
  | _ :: xs, _ :: ys, h => by
    show (zipP xs ys).length + 1 = xs.length + 1
    rw [zipP_len (Nat.succ.inj h)]
section
variable {X : Cx} {pins : List (Addr × Obj)} {σ : L2.St}
theorem zip_loop {A1 : Around} {z TI TO i1 i2 a b p : Addr} {us ws : List V} {dxs dys : List D} {F1 H1 : Hp} {Rs : Result → Shared → Prop} (hh : A1.in1.handled = none) (D : ZipApart z TI TO i1 i2 a b) (ha : SqL X.K H1 a us) (hb : SqL X.K H1 b ws) (ra : Reps X.K F1 us dxs) (rb : Reps X.K F1 ws dys) (hl : dxs.length = dys.length) (hz : dxs.length < sizeLine)
    (np : ∀ c ∈ [z, TI, TO, i1, i2], c ≠ p) (hdone : ∀ H F ts s', Inv X pins σ (upd H p (.lst ts)) s' → Alc F1 H1 F H → H p = none → Reps X.K F ts (zipP dxs dys) → Rs (.ok (.ret .none)) s') :
    ∀ (m i : Nat) (H F : Hp) (s : Shared) (ts : List V), dxs.length - i = m → i ≤ dxs.length → Inv X pins σ (upd H p (.lst ts)) s → H p = none → Alc F1 H1 F H → Reps X.K F ts ((zipP dxs dys).take i) → (∀ c ∈ [z, TI, TO, i1, i2], FpOk X pins H c) →
      IsPair s.heap TI (.ref i1) (.ref i2) → (∃ x y, IsPair s.heap TO x y) → s.heap.IsListIter i1 a i → s.heap.IsListIter i2 b i → ((i = 0 ∧ IsZip s.heap z TI TO .none) ∨ ∃ T0 f1 xs0, ZLate s.heap z TI TO T0 f1 ∧ H T0 = some (.tup xs0)) →
      codeAny (model X.prog X.w) A1 (.builtin "list.extend.loop" ⟨[.ref p, .ref z, .none], []⟩) Rs s := by
  have zl := zipP_len hl
  intro m
  induction m with
  | zero =>
    intro i H F s ts hm hi I hp A R fo hTI hTO h1 h2 hst
    have e : i = dxs.length := by omega
    have hpq := same_upd (o := .lst ts) hp
    obtain ⟨its, rv, pl, hz1⟩ := I.list ((A.hh.trans hpq).seq ha)
    obtain ⟨its2, rv2, pl2, hz2⟩ := I.list ((A.hh.trans hpq).seq hb)
    have l1 := rv.length
    have l2 := ra.len
    have hx : its.toArray[i]? = none := by
      rw [List.getElem?_toArray]
      exact List.getElem?_eq_none (by omega)
    refine codeAny_builtin PySem.F.entry_extend_loop ?_
    rw [Around.under_plainId PySem.F.plain_extend_loop _]
    show wpAny _ A1.in1 (pyNext (.ref z) >>= _) _ _ s
    rw [e, ← zl, List.take_length] at R
    have fin : ∀ h', (∀ c o, c ≠ z → c ≠ TO → c ≠ i1 → c ≠ i2 → s.heap.get? c = some o → h'.get? c = some o) → Inv X pins σ (upd H p (.lst ts)) { s with heap := h' } := fun h' hk =>
      I.turnedL (t' := s.toks) (ch := [z, TI, TO, i1, i2]) (fun c o hc e => hk c o (fun q => hc (by simp [q])) (fun q => hc (by simp [q])) (fun q => hc (by simp [q])) (fun q => hc (by simp [q])) e) fun c hc => FpOk.up (fo c hc) (np c hc)
    rcases hst with ⟨e0, hz0⟩ | ⟨T0, f1, xs0, hz0, hT0⟩
    · obtain ⟨x0, y0, hTO⟩ := hTO
      exact wpAny_bind (wpAny_pyNext_zip_end hh D hz0 hTI hTO h1 h2 pl.isList pl2.isList (.inl hx) fun h' hk => wpAny_pure (hdone H F ts _ (fin h' hk) A hp R))
    · obtain ⟨_, _, _, _, d, _⟩ : ObjOk X.prog X.w (upd H p (.lst ts)) s.heap T0 (.tup xs0) := I.hok T0 _ (hpq _ _ hT0)
      exact wpAny_bind (late_end hh D hz0 d hTI h1 h2 pl.isList pl2.isList hx fun h' hk => wpAny_pure (hdone H F ts _ (fin h' fun c o c1 _ c3 _ e => hk c o c1 c3 e) A hp R))
  | succ m ih =>
    intro i H F s ts hm hi I hp A R fo hTI hTO h1 h2 hst
    have hlt : i < dxs.length := by omega
    have hpq := same_upd (o := .lst ts) hp
    obtain ⟨its, rv, pl, hz1⟩ := I.list ((A.hh.trans hpq).seq ha)
    obtain ⟨its2, rv2, pl2, hz2⟩ := I.list ((A.hh.trans hpq).seq hb)
    obtain ⟨x, hx, rx⟩ := ra.get' (List.getElem?_eq_getElem hlt)
    obtain ⟨y, hy, ry⟩ := rb.get' (List.getElem?_eq_getElem (show i < dys.length by omega))
    obtain ⟨u, hu, ru⟩ := rv.get hx
    obtain ⟨w, hw, rw'⟩ := rv2.get hy
    have hu' : its.toArray[i]? = some u := by rw [List.getElem?_toArray]; exact hu
    have hw' : its2.toArray[i]? = some w := by rw [List.getElem?_toArray]; exact hw
    have zi := zipP_get (List.getElem?_eq_getElem hlt) (List.getElem?_eq_getElem (show i < dys.length by omega))
    have tsl : ts.length = i := by rw [R.len, List.length_take, zl]; omega
    refine codeAny_builtin PySem.F.entry_extend_loop ?_
    rw [Around.under_plainId PySem.F.plain_extend_loop _]
    show wpAny _ A1.in1 (pyNext (.ref z) >>= _) _ _ s
    have hT : upd H p (.lst ts) s.heap.objs.size = none := I.hok.fresh (Nat.le_refl _)
    have pT : s.heap.objs.size ≠ p := fun e => by rw [e, upd_same] at hT; cases hT
    have hTn : H s.heap.objs.size = none := by rw [upd_ne pT] at hT; exact hT
    have step : ∀ h', IsPair h' s.heap.objs.size u w → h'.objs.size = s.heap.objs.size + 1 → (∀ c o, c ≠ z → c ≠ TO → c ≠ i1 → c ≠ i2 → s.heap.get? c = some o → h'.get? c = some o) → h'.IsListIter i1 a (i + 1) → h'.IsListIter i2 b (i + 1) → (∃ x y, IsPair h' TO x y) →
        (∃ T0 f1 xs0, ZLate h' z TI TO T0 f1 ∧ upd H s.heap.objs.size (.tup [x, y]) T0 = some (.tup xs0)) →
        wpAny (model X.prog X.w) A1.in1 (updateSeq p (·.push (.ref s.heap.objs.size)) >>= fun _ => again (.builtin "list.extend.loop" ⟨[.ref p, .ref z, .none], []⟩)) (fun fin s' => match fin with | .done f => Rs (.ok f) s' | .again c' => c'.quiet = true ∧ codeAny (model X.prog X.w) A1 c' Rs s') (fun e s' => Rs (.error e) s') { s with heap := h' } := by
      intro h' hT' hsz hk g1 g2 gTO gz
      have new : ObjOk X.prog X.w (upd (upd H p (.lst ts)) s.heap.objs.size (.tup [x, y])) h' s.heap.objs.size (.tup [x, y]) := ⟨by show 2 ≤ sizeLine; decide, [u, w], .cons ru (.cons rw' .nil), ⟨_, hT', rfl, _, rfl⟩⟩
      have I1 : Inv X pins σ (upd (upd H p (.lst ts)) s.heap.objs.size (.tup [x, y])) { s with heap := h' } :=
        I.turnedNew (t' := s.toks) (ch := [z, TI, TO, i1, i2]) (fun c o hc e => hk c o (fun q => hc (by simp [q])) (fun q => hc (by simp [q])) (fun q => hc (by simp [q])) (fun q => hc (by simp [q])) e) (fun c hc => FpOk.up (fo c hc) (np c hc)) (Nat.le_refl _) new
      obtain ⟨z9, its9, k9, r9, hl9, e9⟩ := I1.lstM (l := p) (by rw [upd_ne (Ne.symm pT), upd_same])
      have sz9 : its9.length = i := by rw [← r9.length, tsl]
      refine wpAny_bind (wpAny_updateSeq e9 rfl (wpAny_pure ⟨plainId_quiet PySem.F.plain_extend_loop _, ?_⟩) (by rw [List.size_toArray]; omega) (by show (its9.toArray.push _).size ≤ sizeLine + 1; rw [Array.size_push, List.size_toArray]; omega))
      have I2 := I1.lset (its' := its9 ++ [.ref s.heap.objs.size]) (f := (·.push (.ref s.heap.objs.size))) (t' := s.toks) (by rw [upd_ne (Ne.symm pT), upd_same]) e9 (by simp) (r9.append (.cons (show RelV (.ref s.heap.objs.size) (.ref s.heap.objs.size) from rfl) .nil)) (by rw [List.length_append, List.length_singleton, tsl]; omega)
      have eH : ∀ l, upd (upd (upd H p (.lst ts)) s.heap.objs.size (.tup [x, y])) p l = upd (upd H s.heap.objs.size (.tup [x, y])) p l := fun l => by
        funext c
        by_cases hc : c = p
        · rw [hc, upd_same, upd_same]
        · rw [upd_ne hc, upd_ne hc]
          by_cases hc2 : c = s.heap.objs.size
          · rw [hc2, upd_same, upd_same]
          · rw [upd_ne hc2, upd_ne hc2, upd_ne hc]
      rw [eH] at I2
      have An : Alc F H (upd F s.heap.objs.size (.tup [x, y])) (upd H s.heap.objs.size (.tup [x, y])) := Alc.new A.sub hTn
      have lt : ∀ c ∈ [z, TI, TO, i1, i2], c ≠ s.heap.objs.size := fun c hc => by
        have e' : c = z ∨ c = TI ∨ c = TO ∨ c = i1 ∨ c = i2 := by simpa using hc
        refine Nat.ne_of_lt ?_
        rcases e' with q | q | q | q | q
        · rw [q]
          rcases hst with ⟨_, e⟩ | ⟨_, _, _, e, _⟩
          · exact Heap.lt_size e
          · exact Heap.lt_size e
        · rw [q]; exact Heap.lt_size hTI
        · rw [q]; obtain ⟨_, _, e⟩ := hTO; exact Heap.lt_size e
        · rw [q]; obtain ⟨_, e, _⟩ := h1; exact Heap.lt_size e
        · rw [q]; obtain ⟨_, e, _⟩ := h2; exact Heap.lt_size e
      have up : ∀ c o, c ≠ p → h'.get? c = some o → (h'.update p (Obj.mapSeq (·.push (.ref s.heap.objs.size)))).get? c = some o := fun c o hc e => (Heap.get?_update_other _ _ (Ne.symm hc)).trans e
      refine ih (i + 1) (upd H s.heap.objs.size (.tup [x, y])) (upd F s.heap.objs.size (.tup [x, y])) _ (ts ++ [.ref s.heap.objs.size]) (by omega) hlt I2 (by rw [upd_ne (Ne.symm pT)]; exact hp) (A.trans An) ?_ (fun c hc => FpOk.up (fo c hc) (lt c hc)) ?_ ?_ (g1.at fun o e => up i1 o (np i1 (by simp)) e) (g2.at fun o e => up i2 o (np i2 (by simp)) e) (.inr ?_)
      · rw [take_s zi]
        exact (R.mono An.ff).append (.cons (.tup (SqT.of upd_same) (.cons (rx.mono (A.ff.trans An.ff)) (.cons (ry.mono (A.ff.trans An.ff)) .nil))) .nil)
      · exact up TI _ (np TI (by simp)) (hk TI _ D.TIz D.TITO D.TIi1 D.TIi2 hTI)
      · obtain ⟨x', y', e⟩ := gTO
        exact ⟨x', y', up TO _ (np TO (by simp)) e⟩
      · obtain ⟨T0, f1, xs0, e, e'⟩ := gz
        exact ⟨T0, f1, xs0, up z _ (np z (by simp)) e, e'⟩
    rcases hst with ⟨e0, hz0⟩ | ⟨T0, f1, xs0, hz0, hT0⟩
    · obtain ⟨x0, y0, hTO'⟩ := hTO
      refine wpAny_bind (wpAny_pyNext_zip_item D hz0 hTI hTO' h1 h2 pl.isList pl2.isList hu' hw' fun h' z' TO' h1' h2' hT' hsz hk => ?_)
      exact step h' hT' hsz hk h1' h2' ⟨_, _, TO'⟩ ⟨s.heap.objs.size, false, _, z', upd_same⟩
    · obtain ⟨_, _, _, _, d, _⟩ : ObjOk X.prog X.w (upd H p (.lst ts)) s.heap T0 (.tup xs0) := I.hok T0 _ (hpq _ _ hT0)
      refine wpAny_bind (late_item D hz0 d hTI h1 h2 pl.isList pl2.isList hu' hw' fun h' z' h1' h2' hT' hsz hk => ?_)
      obtain ⟨x0, y0, hTO'⟩ := hTO
      have nT0 : T0 ≠ s.heap.objs.size := fun e => by rw [e, hTn] at hT0; cases hT0
      exact step h' hT' hsz (fun c o c1 _ c3 c4 e => hk c o c1 c3 c4 e) h1' h2' ⟨x0, y0, hk TO _ D.TOz D.TOi1 D.TOi2 hTO'⟩ ⟨T0, true, xs0, z', by rw [upd_ne nT0]; exact hT0⟩
theorem nolen_zip : typeLookup (.type "zip") "__len__" = pure none := by rw [typeLookup_type, builtinLookup_eq_fast]; kernel_rfl
theorem nohint_zip : typeLookup (.type "zip") "__length_hint__" = pure none := by rw [typeLookup_type, builtinLookup_eq_fast]; kernel_rfl
def tLZ (K : PySem.W.Frag) (ta : TA) : TE := fun σ H Q => ta σ H fun vs H1 => ∃ (F1 : Hp) (a b : Addr) (us ws : List V) (dxs dys : List D), vs = [.ref a, .ref b] ∧ Same F1 H1 ∧ SqL K H1 a us ∧ SqL K H1 b ws ∧ Reps K F1 us dxs ∧ Reps K F1 ws dys ∧ dxs.length = dys.length ∧ dxs.length < 16777216 ∧
  ∀ H' F' q ts, Alc F1 H1 F' H' → H' q = none → Reps K F' ts (zipP dxs dys) → Q (.ref q) (upd H' q (.lst ts))
theorem pe_listZip {e e2 : Expr} {ta : TA} {p pos p2 pos2 : Pos} (hcalm : X.calm = true) (hgl : Gl X "list") (hml : X.mg "list" = none) (hg : Gl X "zip") (hm : X.mg "zip" = none) (ha : PA X [e, e2] ta)
    (hs0 : starEach [.Call (.Name "zip" p2) [e, e2] [] pos2] X.env = (false, eval (.Call (.Name "zip" p2) [e, e2] [] pos2) X.env) :: starEach [] X.env := by rfl) (hpl0 : (backTo pos (starEach [] X.env)).any (·.1) = false := by rfl)
    (hs : starEach [e, e2] X.env = (false, eval e X.env) :: starEach [e2] X.env := by rfl) (hpl : (backTo pos2 (starEach [e2] X.env)).any (·.1) = false := by rfl) :
    PE X (.Call (.Name "list" p) [.Call (.Name "zip" p2) [e, e2] [] pos2] [] pos) (tLZ X.K ta) := by
  refine ⟨fun pins s0 σ H0 Q I0 h => ?_⟩
  refine wpAny_Call_Name_kw (ld_blt (u := .type "list") I0 hgl hml (by decide +kernel) ?_ (by decide) (by decide))
  refine PyProof.Rows.callWith_type1 ?_ hs0 hpl0
  rw [hs0]
  show wpAny _ _ (spliced ((false, eval (.Call (.Name "zip" p2) [e, e2] [] pos2) X.env) :: backTo pos (starEach [] X.env))) _ _ s0
  refine Calls.spliced_cons ?_
  refine Call_ (ld_blt I0 hg hm PyProof.Rows.boot_zip (PyProof.Rows.callWith_type1 (thn (ha.run pos2 pins s0 σ H0 _ I0 h) fun us1 s1 ⟨vs, H1, I1, r1, q1⟩ => ?_) hs hpl))
  obtain ⟨F1, a, b, us, ws, dxs, dys, rfl, sF, hqx, hqy, rx, ry, hl, hz, q⟩ := q1
  cases r1 with
  | cons r rr =>
  cases rr with
  | cons r' rr =>
  cases rr
  cases r
  cases r'
  obtain ⟨its, rv, p1, _⟩ := I1.list hqx
  obtain ⟨its2, rv2, pp2, _⟩ := I1.list hqy
  have la : a < s1.heap.objs.size := p1.lt
  have lb : b < s1.heap.objs.size := pp2.lt
  refine call_zip_2 p1.isList pp2.isList fun h' hz' hTI hTO h1 h2 hsz hk => Calls.spliced_nil ?_
  have I2 : Inv X pins σ H1 { s1 with heap := h' } := I1.kept (t' := s1.toks) hk
  have D := PySem.W.ktu_apart s1.heap.objs.size a b la lb
  have fo : ∀ c ∈ [s1.heap.objs.size + 4, s1.heap.objs.size + 2, s1.heap.objs.size + 3, s1.heap.objs.size, s1.heap.objs.size + 1], s1.heap.objs.size ≤ c ∧ c < s1.heap.objs.size + 5 := fun c hcm => by
    have e' : c = s1.heap.objs.size + 4 ∨ c = s1.heap.objs.size + 2 ∨ c = s1.heap.objs.size + 3 ∨ c = s1.heap.objs.size ∨ c = s1.heap.objs.size + 1 := by simpa using hcm
    omega
  generalize hz0 : s1.heap.objs.size + 4 = z at hz' D fo ⊢
  generalize hTI0 : s1.heap.objs.size + 2 = TI at hz' hTI D fo ⊢
  generalize hTO0 : s1.heap.objs.size + 3 = TO at hz' hTO D fo ⊢
  generalize hi20 : s1.heap.objs.size + 1 = i2 at hTI h2 D fo ⊢
  have fpo : ∀ c ∈ [z, TI, TO, s1.heap.objs.size, i2], FpOk X pins H1 c := fun c hc => I1.fpOk (fo c hc).1 (I1.hok.fresh (fo c hc).1)
  generalize hs2 : ({ s1 with heap := h' } : Shared) = s2 at I2
  have eh : s2.heap = h' := by rw [← hs2]
  have hs2' : s2 = { s2 with heap := h' } := by rw [← hs2]
  rw [← eh] at hz' hTI hTO h1 h2 hsz
  refine callType_codes (Q₁ := fun obj s₁ => obj = .ref s2.heap.objs.size ∧ s₁ = { s2 with heap := s2.heap.push { cls := .type "list", data := .seq #[] } }) PySem.F.called_list (PySem.F.typeCall_list_1 _) PySem.F.entry_list_init
    (code_list_new _ ⟨rfl, rfl⟩) fun obj s₁ h₁ => ?_
  obtain ⟨rfl, rfl⟩ := h₁
  have hS : (s2.heap.push { cls := .type "list", data := .seq #[] }).get? s2.heap.objs.size = some { cls := .type "list", data := .seq #[] } := Heap.get?_push_size _ rfl
  refine ⟨⟨_, hS, rfl⟩, PySem.F.args_list_init_2 _ _, ?_⟩
  have fr : H1 s2.heap.objs.size = none := I2.hok.fresh (Nat.le_refl _)
  have I3 : Inv X pins σ (upd H1 s2.heap.objs.size (.lst [])) { s2 with heap := s2.heap.push { cls := .type "list", data := .seq #[] } } := I2.lnew (its := []) (t' := s2.toks) .nil (Nat.zero_le _)
  have np : ∀ c ∈ [z, TI, TO, s1.heap.objs.size, i2], c ≠ s2.heap.objs.size := fun c hc => by
    have := (fo c hc).2
    rw [hsz]
    exact Nat.ne_of_lt this
  have keep : ∀ c o, s2.heap.get? c = some o → (s2.heap.push { cls := .type "list", data := .seq #[] }).get? c = some o := fun c o e => Heap.get?_push_of_some _ e
  generalize hp : s2.heap.objs.size = p at fr I3 hS np ⊢
  show wpAny _ _ (do let old ← Builtin.List.listItems (.ref p); Builtin.List.listUpdate (.ref p) (fun _ => #[]); letGo old.toList.reverse; Builtin.List.listExtendWith (.ref p) (.ref z) .none) _ _ _
  refine wpAny_bind ?_
  unfold Builtin.List.listItems
  refine wpAny_bind (wpAny_seqItems hS rfl (wpAny_pure ?_))
  show wpAny _ _ (updateSeq p (fun _ => #[]) >>= fun _ => letGo (#[] : Array Value).toList.reverse >>= fun _ => Builtin.List.listExtendWith (.ref p) (.ref z) .none) _ _ _
  refine wpAny_bind (wpAny_updateSeq hS rfl ?_)
  have I4 := I3.lset (f := fun _ => #[]) (its := []) (its' := []) (ys := []) (t' := s2.toks) upd_same hS rfl .nil (Nat.zero_le _)
  rw [upd_upd] at I4
  refine wpAny_bind (wpAny_letGo ?_)
  have oth : ∀ (f : Array Value → Array Value) (h : Heap) c o, c ≠ p → h.get? c = some o → (h.update p (Obj.mapSeq f)).get? c = some o := fun f h c o hc e => (Heap.get?_update_other _ _ (Ne.symm hc)).trans e
  have hz3 : IsZip ((s2.heap.push { cls := .type "list", data := .seq #[] }).update p (Obj.mapSeq fun _ => #[])) z TI TO .none := oth _ _ _ _ (np z (by simp)) (keep _ _ hz')
  have hT : Shared.TypeIs { s2 with heap := (s2.heap.push { cls := .type "list", data := .seq #[] }).update p (Obj.mapSeq fun _ => #[]) } (.ref z) "zip" := ⟨_, hz3, rfl⟩
  unfold Builtin.List.listExtendWith
  refine wpAny_bind (wpAny_typeOf hT ?_)
  have e1 : Builtin.List.listSameRef (.ref p) (.ref z) = false := by simp [Builtin.List.listSameRef, Ne.symm (np z (by simp))]
  have e2' : (Value.type "zip" == Value.type "list") = false := by decide
  have e3 : (Value.type "zip" == Value.type "tuple") = false := by decide
  simp only [e1, e2', e3, Bool.or_false, Bool.false_eq_true, if_false]
  refine wpAny_bind (wpAny_pyIter_zip hz3 ?_)
  refine wpAny_bind (wpAny_holding ?_)
  unfold Builtin.List.listLengthHint
  refine wpAny_bind (wpAny_specialOf hT nolen_zip ?_)
  show wpAny _ _ (specialOf (Value.ref z) (Str.ofString "__length_hint__") >>= _) _ _ _
  refine wpAny_bind (wpAny_specialOf hT nohint_zip ?_)
  refine wpAny_pure ?_
  show wpAny _ _ (rule "list.extend.makes-room" >>= fun _ => Builtin.List.listTouch (.ref p) >>= fun _ => again (.builtin "list.extend.loop" ⟨[.ref p, .ref z, .none], []⟩)) _ _ _
  refine wpAny_bind (wpAny_rule ?_)
  refine wpAny_bind ?_
  obtain ⟨z3, its3, k3, r3, hl3, g3⟩ := I4.lstM (l := p) upd_same
  cases r3
  show wpAny _ _ (updateSeq p (·.push .none) >>= fun _ => updateSeq p (·.pop)) _ _ _
  refine wpAny_bind (wpAny_updateSeq g3 rfl ?_)
  have J2 := I4.lset (f := (·.push Value.none)) (its' := [Value.none]) (ys := [.non]) (t' := s2.toks) upd_same g3 (by simp) (.cons rfl .nil) (by rw [List.length_singleton, sizeLine_eq]; decide)
  rw [upd_upd] at J2
  obtain ⟨z4, its4, k4, r4, hl4, g4⟩ := J2.lstM upd_same
  obtain ⟨u4, rfl, ru4⟩ := r4.one
  refine wpAny_updateSeq g4 rfl ?_ (by show 1 ≤ sizeLine; rw [sizeLine_eq]; decide) (by show 0 ≤ sizeLine + 1; exact Nat.zero_le _)
  have J3 := J2.lset (f := (·.pop)) (its := [u4]) (its' := []) (ys := []) (t' := s2.toks) upd_same g4 (by rfl) .nil (Nat.zero_le _)
  rw [upd_upd] at J3
  have all3 : ∀ c o, c ∈ [z, TI, TO, s1.heap.objs.size, i2] → s2.heap.get? c = some o → ((((s2.heap.push { cls := .type "list", data := .seq #[] }).update p (Obj.mapSeq fun _ => #[])).update p (Obj.mapSeq (·.push Value.none))).update p (Obj.mapSeq (·.pop))).get? c = some o := fun c o hc e =>
    oth _ _ _ _ (np c hc) (oth _ _ _ _ (np c hc) (oth _ _ _ _ (np c hc) (keep _ _ e)))
  refine wpAny_pure ⟨plainId_quiet PySem.F.plain_extend_loop _, ?_⟩
  refine zip_loop (A1 := X.A.in1) (Rs := wants (fun r s₂ => r = .none ∧ EP X pins σ Q (.ref p) s₂) X.xe) (F1 := F1) (H1 := H1) (I1.ok.hd hcalm) D hqx hqy rx ry hl (by rw [sizeLine_eq]; exact hz) np (fun H F ts s' I' A hp' R => ⟨rfl, .ref p, _, I', rfl, q H F p ts A hp' R⟩) _ 0 H1 F1 _ [] rfl (Nat.zero_le _) J3 fr (Alc.refl sF) .nil fpo (all3 TI _ (by simp) hTI) ⟨_, _, all3 TO _ (by simp) hTO⟩ (h1.at fun o e => all3 _ o (by simp) e) (h2.at fun o e => all3 _ o (by simp) e) (.inl ⟨rfl, all3 z _ (by simp) hz'⟩)
/-- list(zip(a, b)) -/
def eLZ (ms : M (List Vl)) : M Vl := fun ρ => (ms ρ).bind fun p => match p.1 with
  | [r1, r2] => (look p.2 r1).bind fun x => (look p.2 r2).bind fun y => match x, y with
    | .lst xs, .lst ys => if xs.length = ys.length ∧ xs.length < 16777216 then some (.fr (zipP xs ys), p.2) else none
    | _, _ => none
  | _ => none
theorem se_listZip {e e2 : Expr} {ms : M (List Vl)} {p pos p2 pos2 : Pos} (hcalm : X.calm = true) (hgl : Gl X "list") (hml : X.mg "list" = none) (hg : Gl X "zip") (hm : X.mg "zip" = none) (ha : SA X [e, e2] ms)
    (hs0 : starEach [.Call (.Name "zip" p2) [e, e2] [] pos2] X.env = (false, eval (.Call (.Name "zip" p2) [e, e2] [] pos2) X.env) :: starEach [] X.env := by rfl) (hpl0 : (backTo pos (starEach [] X.env)).any (·.1) = false := by rfl)
    (hs : starEach [e, e2] X.env = (false, eval e X.env) :: starEach [e2] X.env := by rfl) (hpl : (backTo pos2 (starEach [e2] X.env)).any (·.1) = false := by rfl) :
    SE X (.Call (.Name "list" p) [.Call (.Name "zip" p2) [e, e2] [] pos2] [] pos) (eLZ ms) := by
  refine pe_weak (pe_listZip hcalm hgl hml hg hm ha hs0 hpl0 hs hpl) fun σ H Q ⟨G, ρ, F, r0, ρ', W, hm, q⟩ => ?_
  unfold eLZ at hm
  obtain ⟨⟨rs, ρ1⟩, e1, hm⟩ := Option.bind_eq_some_iff.mp hm
  split at hm
  · rename_i r1 r2 hr
    dsimp only at hr
    subst hr
    obtain ⟨x, e2, hm⟩ := Option.bind_eq_some_iff.mp hm
    obtain ⟨y, e3, hm⟩ := Option.bind_eq_some_iff.mp hm
    split at hm
    · split at hm
      · rename_i hl
        cases hm
        refine ⟨G, ρ, F, [r1, r2], ρ1, W, e1, fun vs H1 F1 s1 R1 => ?_⟩
        obtain ⟨v, w, rfl, Rv, Rw⟩ : ∃ v w, vs = [v, w] ∧ VlS X.K σ F1 v r1 ∧ VlS X.K σ F1 w r2 := by
          match vs, R1 with
          | [v, w], z => exact ⟨v, w, rfl, z.1, z.2.1⟩
        obtain ⟨a, us, rfl, h1, h2⟩ := vw_of s1.wd Rv e2
        obtain ⟨b, ws, rfl, g1, g2⟩ := vw_of s1.wd Rw e3
        exact ⟨F1, a, b, us, ws, _, _, rfl, s1.wd.sub, SqL.of h1, SqL.of g1, h2, g2, hl.1, hl.2, fun H' F' p ts A hp hr => new_fr (s1.trans (s1.wd.alc A)) hr hp q⟩
      · cases hm
    · cases hm
  · cases hm
end
end Sw
/-! Sw41: x[y] by an own __getitem__. -/
namespace Sw
open PySem PySem.Spec PyProof.Rows L2
section
variable {X : Cx} {f : Fn} {c : PySem.Str} {C g : Addr} {fd : FuncData} {ps : List Str} {k n : Nat} {a b : Expr} {ma mb : M Vl} {pos : Pos}
def OwnIx (b : Expr) : Prop := ∀ x i, subscripted b true (.ref x) i = runValue (.builtin "lifetime.subscript" ⟨[.ref x, i], []⟩)
def IxO (X : Cx) (b : Expr) (r : R2) : Prop :=
  ∀ (value : Expr) (pins : List (Addr × Obj)) (s : Shared) (σ : L2.St) (H : Hp) (x y : V) (v u : Value) (Q : VK), Inv X pins σ H s → RelV x v → RelV y u → r x y H Q →
    wpAny (model X.prog X.w) X.A (subscriptTail value b v u) (EP X pins σ Q) X.xe s
theorem IxO.of {r : R2} (h : IxR X r) (hs : PlainIx b) : IxO X b r := fun value pins s σ H x y v u Q I rx ry q => h value b pins s σ H x y v u Q I rx ry q (hs _ _)
theorem IxO.or {r r' : R2} (h : IxO X b r) (h' : IxO X b r') : IxO X b (fun x y H Q => r x y H Q ∨ r' x y H Q) := by
  intro value pins s σ H x y v u Q I rx ry q
  rcases q with q | q
  · exact h value pins s σ H x y v u Q I rx ry q
  · exact h' value pins s σ H x y v u Q I rx ry q
theorem se_ixo {r : R2} {f : D → D → Option D} (ho : IxO X b r) (hf : OpS X.K r f) (ha : SE X a ma) (hb : SE X b mb) : SE X (.Subscript a b pos) (eBin f ma mb) := by
  refine pe_weak (t := tOp r (tM X.K ma) (tM X.K mb)) ⟨fun pins s σ H Q I h => ?_⟩ fun _ _ _ h => top_of hf h
  exact Subscript_ (binT ha hb I h fun v u s2 x y H2 I2 rx ry q => ho a pins s2 σ H2 x y v u Q I2 rx ry q)
/-- x[y] by an own __getitem__ -/
def rOwnIx (K : PySem.W.Frag) (C : Addr) (f : Fn) : R2 := fun x y H Q => ∃ a dx fs, x = .ref a ∧ H a = some (.ins C dx fs) ∧ spF K 2 f [x, y] H Q E0
def fOwnIx (c : PySem.Str) (f : Fn) : D → D → Option D := fun x y => if (isOf c x && notL y) = true then (f [.da x, .da y]).bind fun r => match r.1 with
  | .fz z => some z
  | _ => none else none
theorem os_ownIx {K : PySem.W.Frag} (hC : ClsN K c C) : OpS K (rOwnIx K C f) (fOwnIx c f) := by
  intro H F v u x y z s hx hy e Q q
  unfold fOwnIx at e
  split at e
  · rename_i hc
    rw [Bool.and_eq_true] at hc
    obtain ⟨kx, xs, rfl⟩ := isOf_ok hc.1
    obtain ⟨⟨r, os⟩, e1, e2⟩ := Option.bind_eq_some_iff.mp e
    have hy := nl_rep (notL_ok hc.2) hy
    have hx : Rep K F v _ := hx
    obtain ⟨a, dx, vs, rfl, ha, _⟩ := rep_ob hC hx
    cases r with
    | fz w =>
      cases e2
      exact ⟨a, dx, _, rfl, s _ _ ha, spf_data (gs := [.da (.obj c kx xs), .da y]) rfl s ⟨hx, hy, trivial⟩ (by cases u <;> rfl) e1 fun v H' F' A R => q v H' F' A R⟩
    | fr w => cases e2
    | bw i => cases e2
  · cases e
theorem op_ownIx (hs : PySem.W.findIn X.K (.ref C) "__getitem__" = some (some (.ref g))) (hn : PySem.W.fnIn X.K g = true) (hf : PySem.W.isFn X.K (.ref g) = true)
    (F : FnOk X.prog X.w X.K X.mg X.base CX0 k g fd ps (spF X.K 2 f)) (hr : Room (k + 1) X.A) (hb : Binds X.K fd ps []) (ho : OwnIx b) : IxO X b (rOwnIx X.K C f) := by
  intro value pins s σ H x y v u Q I rx ry h
  obtain ⟨a, dx, fs, rfl, ha, sp⟩ := h
  cases rx
  obtain ⟨ox, od, J⟩ := ins_look I ha
  obtain ⟨m, hF⟩ := I.fr
  exact PySem.W.sub_K hF I.ok.mod.kin J hs hn hf (own_run1 F hr hb I (show Vals [V.ref a, y] [Value.ref a, u] from .cons rfl (.cons ry .nil)) sp) (ho a u)
theorem oOwnIx (hC : ClsN X.K c C) (hs : PySem.W.findIn X.K (.ref C) "__getitem__" = some (some (.ref g))) (hn : PySem.W.fnIn X.K g = true) (hf : PySem.W.isFn X.K (.ref g) = true)
    (F : FnOk X.prog X.w X.K X.mg X.base CX0 k g fd ps (spF X.K 2 f)) (hr : Room (k + 1) X.A) (hb : Binds X.K fd ps []) (ho : OwnIx b) (hp : PlainIx b) : ∃ r, IxO X b r ∧ OpS X.K r (orF fIx (fOwnIx c f)) := by
  obtain ⟨_, h1, h2⟩ := oIx (X := X)
  exact ⟨_, IxO.or (IxO.of h1 hp) (op_ownIx hs hn hf F hr hb ho), OpS.or h2 (os_ownIx hC)⟩
theorem se_ixO (hC : ClsN X.K c C) (hs : PySem.W.findIn X.K (.ref C) "__getitem__" = some (some (.ref g))) (hn : PySem.W.fnIn X.K g = true) (hf : PySem.W.isFn X.K (.ref g) = true)
    (F : FnOk X.prog X.w X.K X.mg X.base CX0 k g fd ps (spF X.K 2 f)) (hr : Room (k + 1) X.A) (hb : Binds X.K fd ps []) (ha : SE X a ma) (hb2 : SE X b mb) (hp : PlainIx b) (ho : OwnIx b) : SE X (.Subscript a b pos) (eBin (orF fIx (fOwnIx c f)) ma mb) :=
  let ⟨_, h1, h2⟩ := oOwnIx hC hs hn hf F hr hb ho hp
  se_ixo h1 h2 ha hb2
end
section
variable {p : Pos} {n : Str}
theorem ownIx_name : OwnIx (.Name n p) := fun _ _ => by with_unfolding_all rfl
end
end Sw
/-! Sw42: a == x, x an instance, a a text, a number, a tuple, a list, None: x's own __eq__ answers. -/
namespace Sw
open PySem PySem.Spec PyProof.Rows L2
section
variable {prog : Program} {w : World} {A : Around} {E : Value → Shared → Prop} {s : Shared} {K : PySem.W.Frag} {x C L f : Addr} {h₀ : Heap} {m : Str → Option Value} {ox : Obj} {od : Option Obj} {a : Value} {T id : String}
theorem refl_K {Q : Value → Shared → Prop} (hu : A.units < cLine) (F : Fr h₀ L s.heap m) (X₀ : K.In h₀) (I : PySem.W.InstAt s.heap x ox C od) (ha : s.TypeIs a T) (hn : PySem.W.subIn K (.ref C) (.type T) = some false)
    (h1 : Slot T (cmpInfo .Eq).2.1 id) (hc : wpAny (model prog w) A (call (.builtin id) [a, .ref x]) (fun v s' => v = .notImplemented ∧ s' = s) E s)
    (hs : PySem.W.findIn K (.ref C) "__eq__" = some (some (.ref f))) (hf : PySem.W.isFn K (.ref f) = true)
    (h : wpAny (model prog w) A (call (.ref f) [.ref x, a]) (PySem.W.CmpBack Q) E s) : wpAny (model prog w) A (richCompare .Eq a (.ref x)) Q E s := by
  have X := X₀.keeps F.keep
  have one : wpAny (model prog w) A (tryCompare (.ref x) "__eq__" a) (fun r s' => ∃ v, r = some v ∧ Q v s') E s := by
    unfold tryCompare
    refine wpAny_bind (PySem.W.ifBound_K X I hs hf (wpAny_mono h (fun v s' hv => ?_) fun _ _ e => e))
    cases v <;> first | exact hv.elim | exact wpAny_pure ⟨_, rfl, hv⟩
  unfold richCompare
  simp only [ha.oneThing_none]
  refine wpAny_holding (wpAny_bind (wpAny_cRoomFor hu ?_))
  refine wpAny_bind (wpAny_typeOf ha (wpAny_bind (I.type.here ?_)))
  rw [if_pos (show (Value.type T != Value.ref C) = true from rfl)]
  refine wpAny_bind ((PySem.W.looks_subIn X hn).here ?_)
  simp only [Bool.false_eq_true, if_false, Bool.not_false, if_true]
  refine wpAny_bind (m := tryCompare a _ (.ref x)) (wpAny_tryCompare_declines ha h1 (wpAny_mono hc (fun v s₁ h₁ => ⟨h₁.1, ?_⟩) fun _ _ x => x))
  obtain rfl := h₁.2
  refine wpAny_bind (m := tryCompare (.ref x) _ a) (wpAny_mono one (fun r s' z => ?_) fun _ _ e => e)
  obtain ⟨v, rfl, hq⟩ := z
  exact wpAny_pure hq
theorem notInst {M : Model} {U : String} {Q : Bool → Shared → Prop} (X : K.In s.heap) (I : PySem.W.InstAt s.heap x ox C od) (hn : PySem.W.subIn K (.ref C) (.type U) = some false) (q : Q false s) : wpAny M A (isInstance (.ref x) (.type U)) Q E s := by
  unfold isInstance
  exact wpAny_bind (I.type.here ((PySem.W.looks_subIn X hn).here q))
theorem dec_tuple {P : Fin → Shared → Prop} (X : K.In s.heap) (I : PySem.W.InstAt s.heap x ox C od) (hn : PySem.W.subIn K (.ref C) (.type "tuple") = some false) (q : P (.done (.ret .notImplemented)) s) :
    wpAny (model prog w) A (Builtin.«tuple.__eq__» ⟨[a, .ref x], []⟩) P E s := by
  unfold Builtin.«tuple.__eq__»
  wp_walk using (notInst X I hn)
  exact q
theorem dec_list {P : Fin → Shared → Prop} (X : K.In s.heap) (I : PySem.W.InstAt s.heap x ox C od) (hn : PySem.W.subIn K (.ref C) (.type "list") = some false) (q : P (.done (.ret .notImplemented)) s) :
    wpAny (model prog w) A (Builtin.«list.__eq__» ⟨[a, .ref x], []⟩) P E s := by
  unfold Builtin.«list.__eq__»
  wp_walk using (notInst X I hn)
  exact q
theorem dec_str {z : Str} {t : Tok} {c : Value} {d sl} {P : Fin → Shared → Prop} (hx : s.heap.get? x = some ⟨c, d, .plain, sl⟩) (q : P (.done (.ret .notImplemented)) s) :
    wpAny (model prog w) A (Builtin.«str.__eq__» ⟨[.str z t, .ref x], []⟩) P E s := by
  unfold Builtin.«str.__eq__»
  wp_walk using (wpAny_load hx)
  exact q
theorem dec_int {i : Int} {t : Tok} {c : Value} {d sl} {P : Fin → Shared → Prop} (hx : s.heap.get? x = some ⟨c, d, .plain, sl⟩) (q : P (.done (.ret .notImplemented)) s) :
    wpAny (model prog w) A (Builtin.«int.__eq__» ⟨[.int i t, .ref x], []⟩) P E s := by
  unfold Builtin.«int.__eq__»
  wp_walk using (wpAny_load hx)
  exact q
theorem dec_bool {i : Bool} {c : Value} {d sl} {P : Fin → Shared → Prop} (hx : s.heap.get? x = some ⟨c, d, .plain, sl⟩) (q : P (.done (.ret .notImplemented)) s) :
    wpAny (model prog w) A (Builtin.«int.__eq__» ⟨[.bool i, .ref x], []⟩) P E s := by
  unfold Builtin.«int.__eq__»
  wp_walk using (wpAny_load hx)
  exact q
theorem dec_none {P : Fin → Shared → Prop} (q : P (.done (.ret .notImplemented)) s) :
    wpAny (model prog w) A (Builtin.«NoneType.__eq__» ⟨[.none, .ref x], []⟩) P E s := by
  unfold Builtin.«NoneType.__eq__»
  wp_walk
  exact q
end
/-! ### a == x -/
structure RqC (K : PySem.W.Frag) (C : Addr) : Prop where
  no : PySem.W.subIn K (.ref C) (.type "NoneType") = some false
  bl : PySem.W.subIn K (.ref C) (.type "bool") = some false
  it : PySem.W.subIn K (.ref C) (.type "int") = some false
  st : PySem.W.subIn K (.ref C) (.type "str") = some false
  tp : PySem.W.subIn K (.ref C) (.type "tuple") = some false
  ls : PySem.W.subIn K (.ref C) (.type "list") = some false
section
variable {X : Cx} {f : Fn} {c : PySem.Str} {C g : Addr} {fd : FuncData} {ps : List Str} {k n : Nat}
theorem typeIs_of {pins : List (Addr × Obj)} {σ : L2.St} {H : Hp} {s : Shared} {x : V} {u : Value} {T : String} (I : Inv X pins σ H s) (rx : RelV x u) (ty : TyX X.K H x (.type T)) : s.TypeIs u T := by
  generalize ht : Value.type T = t at ty
  cases ty with
  | base b =>
    cases b with
    | non => cases ht; cases (show u = Value.none from rx); rfl
    | bl y => cases ht; cases (show u = Value.bool y from rx); rfl
    | int i => cases ht; obtain ⟨t, q⟩ := (show ∃ t, u = Value.int i t from rx); cases q; rfl
    | str y => cases ht; obtain ⟨t, q⟩ := (show ∃ t, u = Value.str y t from rx); cases q; rfl
    | flt y => cases ht; obtain ⟨t, q⟩ := (show ∃ t, u = Value.float y t from rx); cases q; rfl
    | @lst a xs ea =>
      cases ht
      cases (show u = Value.ref a from rx)
      obtain ⟨_, _, n, _, h1⟩ := (show ObjOk X.prog X.w H s.heap a (.lst xs) from I.hok a _ ea)
      exact ⟨_, h1, rfl⟩
    | @frz a ob xs ea =>
      cases ht
      cases (show u = Value.ref a from rx)
      obtain ⟨_, _, _, n, _, h1⟩ := (show ObjOk X.prog X.w H s.heap a (.frz ob (.lst xs)) from I.hok a _ ea)
      exact ⟨_, h1, rfl⟩
    | @tup a xs ea =>
      cases ht
      cases (show u = Value.ref a from rx)
      obtain ⟨_, _, _, o, h1, h2, _⟩ := (show ObjOk X.prog X.w H s.heap a (.tup xs) from I.hok a _ ea)
      exact ⟨o, h1, h2⟩
    | @dK a kvs ea =>
      cases ht
      cases (show u = Value.ref a from rx)
      obtain ⟨_, _, vs, _, o, es, ep, h1, h2, _⟩ := (show ObjOk X.prog X.w H s.heap a (.dK kvs) from I.hok a _ ea)
      exact ⟨o, h1, h2.1⟩
    | @dT a kvs ea =>
      cases ht
      cases (show u = Value.ref a from rx)
      obtain ⟨_, _, xs, _, o, es, ep, h1, h2, _⟩ := (show ObjOk X.prog X.w H s.heap a (.dT kvs) from I.hok a _ ea)
      exact ⟨o, h1, h2.1⟩
    | @ins a C dx fs ea cl ha hn htk hm => cases ht
  | byt y => cases ht; obtain ⟨t, q⟩ := (show ∃ t, u = Value.bytes y t from rx); cases q; rfl
  | @set a S n ea =>
    cases ht
    cases (show u = Value.ref a from rx)
    obtain ⟨o, _, _, _, e, ex, _⟩ := I.hok a _ ea
    exact ⟨o, e, ex.1⟩
  | @kList a o e c => cases ht; cases (show u = Value.ref a from rx); exact ⟨o, I.kIn a o e, c⟩
  | @kTuple a o e c => cases ht; cases (show u = Value.ref a from rx); exact ⟨o, I.kIn a o e, c⟩
  | @kDict a o e c => cases ht; cases (show u = Value.ref a from rx); exact ⟨o, I.kIn a o e, c⟩
  | @fTuple a o xs e => cases ht; cases (show u = Value.ref a from rx); obtain ⟨_, _, _, _, o, h1, h2, _⟩ := (show ObjOk X.prog X.w H s.heap a (.frz o (.tup xs)) from I.hok a _ e); exact ⟨o, h1, h2⟩
  | @fDict a o kvs e => cases ht; cases (show u = Value.ref a from rx); obtain ⟨_, _, _, vs, _, o, es, ep, h1, h2, _⟩ := (show ObjOk X.prog X.w H s.heap a (.frz o (.dK kvs)) from I.hok a _ e); exact ⟨o, h1, h2.1⟩
inductive Six : String → Prop where
  | no : Six "NoneType"
  | bl : Six "bool"
  | it : Six "int"
  | st : Six "str"
  | tp : Six "tuple"
  | ls : Six "list"
theorem six_tyN : ∀ {x : D}, isO x = false → Six (tyN x)
  | .non, _ => .no
  | .bl _, _ => .bl
  | .int _, _ => .it
  | .str _, _ => .st
  | .tup _, _ => .tp
  | .lst _, _ => .ls
  | .scr _, _ => .ls
  | .obj _ _ _, h => nomatch h
theorem ty_none {H : Hp} {x : V} (ty : TyX X.K H x (.type "NoneType")) : x = .non := by
  generalize ht : Value.type "NoneType" = t at ty
  cases ty with
  | base b => cases b <;> first | rfl | (simp at ht)
  | _ => simp at ht
theorem ty_bool {H : Hp} {x : V} (ty : TyX X.K H x (.type "bool")) : ∃ b, x = .bl b := by
  generalize ht : Value.type "bool" = t at ty
  cases ty with
  | base b => cases b <;> first | exact ⟨_, rfl⟩ | (simp at ht)
  | _ => simp at ht
theorem ty_int {H : Hp} {x : V} (ty : TyX X.K H x (.type "int")) : ∃ b, x = .int b := by
  generalize ht : Value.type "int" = t at ty
  cases ty with
  | base b => cases b <;> first | exact ⟨_, rfl⟩ | (simp at ht)
  | _ => simp at ht
theorem ty_str {H : Hp} {x : V} (ty : TyX X.K H x (.type "str")) : ∃ b, x = .str b := by
  generalize ht : Value.type "str" = t at ty
  cases ty with
  | base b => cases b <;> first | exact ⟨_, rfl⟩ | (simp at ht)
  | _ => simp at ht
theorem declines {pins : List (Addr × Obj)} {σ : L2.St} {H : Hp} {s : Shared} {x : V} {u : Value} {T : String} {a dx : Addr} {od : Option Obj} {A : Around} {E : Value → Shared → Prop} (I : Inv X pins σ H s) (rx : RelV x u) (ty : TyX X.K H x (.type T)) (hT : Six T)
    (J : PySem.W.InstAt s.heap a (PySem.W.instObj C dx) C od) (q : RqC X.K C) :
    ∃ id, Slot T (cmpInfo .Eq).2.1 id ∧ PySem.W.subIn X.K (.ref C) (.type T) = some false ∧ wpAny (model X.prog X.w) A (call (.builtin id) [u, .ref a]) (fun v s' => v = .notImplemented ∧ s' = s) E s := by
  have ti := typeIs_of I rx ty
  cases hT with
  | no =>
    cases ty_none ty
    cases (show u = Value.none from rx)
    exact ⟨_, PySem.F.slot_NoneType_eq, q.no, wpAny_call_entry PySem.F.slot_NoneType_eq ti PySem.F.entry_NoneType_eq (dec_none ⟨_, rfl, rfl, rfl⟩) (PySem.F.args_NoneType_eq_2 _ _)⟩
  | bl =>
    obtain ⟨b, rfl⟩ := ty_bool ty
    cases (show u = Value.bool b from rx)
    exact ⟨_, PySem.F.slot_bool_eq, q.bl, wpAny_call_entry PySem.F.slot_bool_eq ti PySem.F.entry_int_eq (dec_bool J.at_ ⟨_, rfl, rfl, rfl⟩) (PySem.F.args_int_eq_2 _ _)⟩
  | it =>
    obtain ⟨b, rfl⟩ := ty_int ty
    obtain ⟨t, rfl⟩ := (show ∃ t, u = Value.int b t from rx)
    exact ⟨_, PySem.F.slot_int_eq, q.it, wpAny_call_entry PySem.F.slot_int_eq ti PySem.F.entry_int_eq (dec_int J.at_ ⟨_, rfl, rfl, rfl⟩) (PySem.F.args_int_eq_2 _ _)⟩
  | st =>
    obtain ⟨b, rfl⟩ := ty_str ty
    obtain ⟨t, rfl⟩ := (show ∃ t, u = Value.str b t from rx)
    exact ⟨_, PySem.F.slot_str_eq, q.st, wpAny_call_entry PySem.F.slot_str_eq ti PySem.F.entry_str_eq (dec_str J.at_ ⟨_, rfl, rfl, rfl⟩) (PySem.F.args_str_eq_2 _ _)⟩
  | tp => exact ⟨_, PySem.F.slot_tuple_eq, q.tp, wpAny_call_entry PySem.F.slot_tuple_eq ti PySem.F.entry_tuple_eq (dec_tuple I.kIn J q.tp ⟨_, rfl, rfl, rfl⟩) (PySem.F.args_tuple_eq_2 _ _)⟩
  | ls => exact ⟨_, PySem.F.slot_list_eq, q.ls, wpAny_call_entry PySem.F.slot_list_eq ti PySem.F.entry_list_eq (dec_list I.kIn J q.ls ⟨_, rfl, rfl, rfl⟩) (PySem.F.args_list_eq_2 _ _)⟩
def rReqEq (K : PySem.W.Frag) (C : Addr) (f : Fn) : R2 := fun x y H Q => ∃ a dx fs T, y = .ref a ∧ H a = some (.ins C dx fs) ∧ TyX K H x (.type T) ∧ Six T ∧ spF K 2 f [y, x] H (fun v H' => ∃ b, v = .bl b ∧ Q (.bl b) H') E0
theorem op_reqEq (q6 : RqC X.K C) (hs : PySem.W.findIn X.K (.ref C) "__eq__" = some (some (.ref g))) (hf : PySem.W.isFn X.K (.ref g) = true) (hu : X.A.units + 64 < cLine)
    (F : FnOk X.prog X.w X.K X.mg X.base CX0 k g fd ps (spF X.K 2 f)) (hr : Room k X.A) (hb : Binds X.K fd ps []) : OpR X (compareOp .Eq) (rReqEq X.K C f) := by
  intro pins s σ H x y v u Q I rx ry h
  obtain ⟨a, dx, fs, T, rfl, ha, ty, hT, sp⟩ := h
  cases ry
  obtain ⟨mA, O, _⟩ := ins_get I.hok ha
  obtain ⟨od, J, _⟩ := O.look
  obtain ⟨m, hF⟩ := I.fr
  obtain ⟨id, h1, hn, hc⟩ := declines (A := X.A) (E := X.xe) I rx ty hT J q6
  show wpAny (model X.prog X.w) X.A (richCompare .Eq v (.ref a)) (EP X pins σ Q) X.xe s
  refine refl_K (by omega) hF I.ok.mod.kin J (typeIs_of I rx ty) hn h1 hc hs hf (wpAny_mono (own_run F hr hb I (show Vals [V.ref a, x] [Value.ref a, v] from .cons rfl (.cons rx .nil)) sp) (fun w s' z => ?_) fun _ _ z => z)
  obtain ⟨v, H', I', rv, b, rfl, q⟩ := z
  cases rv
  exact (show EP X pins σ Q (.bool b) s' from ⟨.bl b, H', I', rfl, q⟩)
def fReqEq (c : PySem.Str) (f : Fn) : D → D → Option D := fun x y => if (isOf c y && !isO x && notL x) = true then (f [.da y, .da x]).bind fun r => match r.1 with
  | .fz (.bl b) => some (.bl b)
  | _ => none else none
theorem os_reqEq {K : PySem.W.Frag} (hC : ClsN K c C) : OpS K (rReqEq K C f) (fReqEq c f) := by
  intro H F v u x y z s hx hy e Q q
  unfold fReqEq at e
  split at e
  · rename_i hc
    rw [Bool.and_eq_true, Bool.and_eq_true] at hc
    obtain ⟨ky, ys, rfl⟩ := isOf_ok hc.1.1
    obtain ⟨⟨r, os⟩, e1, e2⟩ := Option.bind_eq_some_iff.mp e
    have ho : isO x = false := by cases h : isO x <;> simp_all
    have ty := tyx (K := K) (fun _ _ _ h => by subst h; cases ho) s hx
    have hx := nl_rep (notL_ok hc.2) hx
    have hy : Rep K F u _ := hy
    obtain ⟨a, dx, vs, rfl, ha, _⟩ := rep_ob hC hy
    dsimp only at e2
    split at e2
    · rename_i b
      cases e2
      refine ⟨a, dx, _, _, rfl, s _ _ ha, ty, six_tyN ho, spf_data (gs := [.da (.obj c ky ys), .da x]) rfl s ⟨hy, hx, trivial⟩ (by cases v <;> rfl) e1 fun v H' F' A R => ?_⟩
      cases R
      exact ⟨b, rfl, q _ H' F' A (.bl _)⟩
    · cases e2
  · cases e
def fReqEqL (c : PySem.Str) (f : Fn) : D → D → Option D := fun x y => if isOf c y = true then (match x with
  | .lst ys => (f [.da y, .da (.lst ys)]).bind fun r => match r.1 with
    | .fz (.bl b) => some (.bl b)
    | _ => none
  | _ => none) else none
theorem os_reqEqL {K : PySem.W.Frag} (hC : ClsN K c C) : OpS K (rReqEq K C f) (fReqEqL c f) := by
  intro H F v u x y z s hx hy e Q q
  unfold fReqEqL at e
  split at e
  · rename_i hc
    obtain ⟨kx, xs, rfl⟩ := isOf_inv hc
    split at e
    · rename_i ys
      obtain ⟨⟨r, os⟩, e1, e2⟩ := Option.bind_eq_some_iff.mp e
      dsimp only at e2
      split at e2
      · rename_i b
        cases e2
        have ty := tyx (K := K) (fun _ _ _ h => by cases h) s hx
        have hy : Rep K F u _ := hy
        obtain ⟨a, dx, vs, rfl, ha, _⟩ := rep_ob hC hy
        obtain ⟨l, us, rfl, hl, hr⟩ := hx
        have sF : Same F (upd F l (.lst us)) := fun d o e => by
          by_cases hd : d = l
          · subst hd
            have := s _ _ e
            rw [hl] at this
            rw [upd_same, ← this]
          · rw [upd_ne hd]
            exact e
        have sH : Same (upd F l (.lst us)) H := fun d o e => by
          by_cases hd : d = l
          · subst hd
            rw [upd_same] at e
            rw [hl, e]
          · rw [upd_ne hd] at e
            exact s d o e
        refine ⟨a, dx, _, _, rfl, s _ _ ha, ty, .ls, spf_data (gs := [.da (.obj c kx xs), .da (.lst ys)]) rfl sH ⟨hy.mono sF, Rep.lst upd_same (hr.mono sF), trivial⟩ rfl e1 fun v H' F' A R => ?_⟩
        cases R
        refine ⟨b, rfl, ?_⟩
        cases hF : F l with
        | none =>
          refine q _ H' (ItX.dropH F' l) ⟨fun d o e => ?_, fun d o e => ?_, A.hh, fun d e => ?_⟩ (.bl _)
          · have hd : d ≠ l := fun z => by rw [z, hF] at e; cases e
            rw [ItX.dropH_ne hd]
            exact A.ff d o (sF d o e)
          · by_cases hd : d = l
            · rw [hd, ItX.dropH_same] at e
              cases e
            · rw [ItX.dropH_ne hd] at e
              exact A.sub d o e
          · have hd : d ≠ l := fun z => e (by rw [z, ItX.dropH_same])
            rw [ItX.dropH_ne hd] at e
            rcases A.nf d e with e | e
            · rw [upd_ne hd] at e
              exact .inl e
            · exact .inr e
        | some o =>
          refine q _ H' F' ⟨sF.trans A.ff, A.sub, A.hh, fun d e => ?_⟩ (.bl _)
          rcases A.nf d e with e | e
          · by_cases hd : d = l
            · rw [hd, hF]
              exact .inl fun z => by cases z
            · rw [upd_ne hd] at e
              exact .inl e
          · exact .inr e
      · cases e2
    · cases e
  · cases e
theorem oReqEq (hC : ClsN X.K c C) (q6 : RqC X.K C) (hs : PySem.W.findIn X.K (.ref C) "__eq__" = some (some (.ref g))) (hf : PySem.W.isFn X.K (.ref g) = true) (hu : X.A.units + 64 < cLine)
    (F : FnOk X.prog X.w X.K X.mg X.base CX0 k g fd ps (spF X.K 2 f)) (hr : Room k X.A) (hb : Binds X.K fd ps []) : Op2 X (compareOp .Eq) (fReqEq c f) := ⟨_, op_reqEq q6 hs hf hu F hr hb, os_reqEq hC⟩
theorem oReqEqL (hC : ClsN X.K c C) (q6 : RqC X.K C) (hs : PySem.W.findIn X.K (.ref C) "__eq__" = some (some (.ref g))) (hf : PySem.W.isFn X.K (.ref g) = true) (hu : X.A.units + 64 < cLine)
    (F : FnOk X.prog X.w X.K X.mg X.base CX0 k g fd ps (spF X.K 2 f)) (hr : Room k X.A) (hb : Binds X.K fd ps []) : Op2 X (compareOp .Eq) (fReqEqL c f) := ⟨_, op_reqEq q6 hs hf hu F hr hb, os_reqEqL hC⟩
end
end Sw
/-! Sw43: x[y] by an own __getitem__ that may raise. -/
namespace Sw
open PySem PySem.Spec PyProof.Rows L2
section
variable {X : Cx} {Wx : WX} {f : Fn} {xf : XFn} {c : PySem.Str} {C g : Addr} {fd : FuncData} {ps : List Str} {k n : Nat} {a b : Expr} {ma mb : M Vl} {pos : Pos} {pins : List (Addr × Obj)} {σ : L2.St} {H : Hp} {s : Shared} {Q : VK}
theorem own_run1X {us : List Value} {vs : List V} {sp : Sp} {E : XK} (F : FnOk X.prog X.w X.K X.mg X.base (L2N.CX X.prog X.w) k g fd ps sp) (hx : PassesAt (L2N.CX X.prog X.w) X σ E) (hr : Room (k + 1) X.A) (hb : Binds X.K fd ps []) (I : Inv X pins σ H s) (r : Vals vs us) (h : sp vs H Q E) :
    wpAny (model X.prog X.w) X.A.in1 (call (.ref g) us) (EP X pins σ Q) X.xe s := by
  have hl : us.length = ps.length := by rw [← F.len _ _ _ _ h, ← r.length]
  have hb' := hb s us I.kIn (by simpa using hl)
  rw [List.append_nil] at hb'
  refine wpAny_call (codeAny_mono (F.run X.A.in1 X.stack s H ⟨us, []⟩ us vs Q E hr.in1 I.env0.in1 hb' r h) fun r s' hq => ?_)
  cases r with
  | error e => exact hx pins H s e s' I hq
  | ok fl =>
    cases fl with
    | ret u => exact I.after hq
    | next => exact False.elim hq
    | brk => exact False.elim hq
    | cont => exact False.elim hq
theorem op_ownIxN (hs : PySem.W.findIn X.K (.ref C) "__getitem__" = some (some (.ref g))) (hn : PySem.W.fnIn X.K g = true) (hf : PySem.W.isFn X.K (.ref g) = true)
    (F : FnOk X.prog X.w X.K X.mg X.base (L2N.CX X.prog X.w) k g fd ps (spFX X.K 2 f xf)) (hr : Room (k + 1) X.A) (hb : Binds X.K fd ps []) (ho : OwnIx b) : IxO X b (rOwnIx X.K C f) := by
  intro value pins s σ H x y v u Q I rx ry h
  obtain ⟨a, dx, fs, rfl, ha, sp⟩ := h
  cases rx
  obtain ⟨ox, od, J⟩ := ins_look I ha
  obtain ⟨m, hF⟩ := I.fr
  exact PySem.W.sub_K hF I.ok.mod.kin J hs hn hf (own_run1X F (E := E0) (fun pins H s e s' I c => passLN pins σ H s e s' I c) hr hb I (show Vals [V.ref a, y] [Value.ref a, u] from .cons rfl (.cons ry .nil)) (.inl sp)) (ho a u)
theorem se_ixN (hC : ClsN X.K c C) (hs : PySem.W.findIn X.K (.ref C) "__getitem__" = some (some (.ref g))) (hn : PySem.W.fnIn X.K g = true) (hf : PySem.W.isFn X.K (.ref g) = true)
    (F : FnOk X.prog X.w X.K X.mg X.base (L2N.CX X.prog X.w) k g fd ps (spFX X.K 2 f xf)) (hr : Room (k + 1) X.A) (hb : Binds X.K fd ps []) (ha : SE X a ma) (hb2 : SE X b mb) (ho : OwnIx b) : SE X (.Subscript a b pos) (eBin (fOwnIx c f) ma mb) :=
  se_ixo (op_ownIxN hs hn hf F hr hb ho) (os_ownIx hC) ha hb2
theorem fnIn_g {K : PySem.W.Frag} {x qual : PySem.Str} {st : Stmt} {f : Addr} {fd : FuncData} (F : FunG K x qual st f fd) : PySem.W.fnIn K f = true := by
  obtain ⟨_, _, _, _, _, _, _, _, _, _, _, lk, _⟩ := F.ex
  unfold PySem.W.fnIn
  rw [lk]
/-- the exception of x[y] -/
def xIx (c : PySem.Str) (xf : XFn) (a b : M Vl) : XS := fun ρ => (a ρ).bind fun p => (b p.2).bind fun q => (look q.2 (stl p.1)).bind fun x => (look q.2 (stl q.1)).bind fun y => if (isOf c x && notL y) = true then (xf [.da x, .da y]).bind fun e => some (e, q.2) else none
def rIxX (K : PySem.W.Frag) (C : Addr) (f : Fn) (xf : XFn) (E : XK) : R2 := fun x y H Q => ∃ a dx fs, x = .ref a ∧ H a = some (.ins C dx fs) ∧ spFX K 2 f xf [x, y] H Q E
theorem os_ixX {K : PySem.W.Frag} {E : XK} (hC : ClsN K c C) : OpS K (rIxX K C f xf E) (fOwnIx c f) := by
  intro H F v u x y z s hx hy e Q q
  obtain ⟨a, dx, fs, h1, h2, h3⟩ := os_ownIx hC H F v u x y z s hx hy e Q q
  exact ⟨a, dx, fs, h1, h2, .inl h3⟩
theorem tixX_of {K : PySem.W.Frag} (hC : ClsN K c C) {σ : L2.St} {H : Hp} {Q : VK} (h : tMX K Wx (eBin (fOwnIx c f) ma mb) (xIx c xf ma mb) σ H Q) : tOp (rIxX K C f xf (WE Wx σ)) (tM K ma) (tM K mb) σ H Q := by
  rcases h with h | ⟨G, ρ, F, ex, ρ', W, hm, q⟩
  · exact top_of (os_ixX hC) h
  · unfold xIx at hm
    obtain ⟨⟨x, ρ1⟩, e1, hm⟩ := Option.bind_eq_some_iff.mp hm
    obtain ⟨⟨y, ρ2⟩, e2, hm⟩ := Option.bind_eq_some_iff.mp hm
    obtain ⟨dx, e3, hm⟩ := Option.bind_eq_some_iff.mp hm
    obtain ⟨dy, e4, hm⟩ := Option.bind_eq_some_iff.mp hm
    dsimp only at hm
    split at hm
    · rename_i hc
      obtain ⟨x, e5, hm⟩ := Option.bind_eq_some_iff.mp hm
      cases hm
      rw [Bool.and_eq_true] at hc
      obtain ⟨kx, xs, rfl⟩ := isOf_ok hc.1
      refine tm_use W e1 fun v H1 F1 s1 R1 => ?_
      refine tm_use s1.wd e2 fun u H2 F2 s2 R2 => ?_
      have V1 := vw_of s2.wd (R1.ste s2) e3
      have V2 := nl_rep (notL_ok hc.2) (vw_of s2.wd R2 e4)
      have V1 : Rep K F2 v _ := V1
      obtain ⟨a, dx, vs, rfl, ha, _⟩ := rep_ob hC V1
      refine ⟨a, dx, _, rfl, s2.wd.sub _ _ ha, .inr ⟨rfl, F2, [.da (.obj c kx xs), .da dy], _, s2.wd.sub, ⟨V1, V2, trivial⟩, rfl, e5, fun cls d H' F' ff sub kp nf R => ?_⟩⟩
      have s3 := after_call (is := []) (as := []) (os := []) s2.wd List.nodup_nil rfl (fun k i a h _ => by simp at h) ff sub (fun b o h _ => kp b o h) nf trivial
      exact q H' F' s3.wd ((s1.ff.trans s2.ff).trans ff) cls d R
    · cases hm
theorem se_ixX (tk : L2N.Takes X Wx) (hC : ClsN X.K c C) (hs : PySem.W.findIn X.K (.ref C) "__getitem__" = some (some (.ref g))) (hn : PySem.W.fnIn X.K g = true) (hf : PySem.W.isFn X.K (.ref g) = true)
    (F : FnOk X.prog X.w X.K X.mg X.base (L2N.CX X.prog X.w) k g fd ps (spFX X.K 2 f xf)) (hr : Room (k + 1) X.A) (hb : Binds X.K fd ps []) (ha : SE X a ma) (hb2 : SE X b mb) (ho : OwnIx b) : SEX X Wx (.Subscript a b pos) (eBin (fOwnIx c f) ma mb) (xIx c xf ma mb) := by
  refine pe_weak (t := fun σ H Q => tOp (rIxX X.K C f xf (WE Wx σ)) (tM X.K ma) (tM X.K mb) σ H Q) ⟨fun pins s σ H Q I h => ?_⟩ fun _ _ _ h => tixX_of hC h
  refine Subscript_ (binT ha hb2 I h fun v u s2 x y H2 I2 rx ry q => ?_)
  obtain ⟨a', dx, fs, rfl, hi, sp⟩ := q
  cases rx
  obtain ⟨ox, od, J⟩ := ins_look I2 hi
  obtain ⟨m, hF⟩ := I2.fr
  exact PySem.W.sub_K hF I2.ok.mod.kin J hs hn hf (own_run1X F (L2N.passAt tk σ) hr hb I2 (show Vals [V.ref a', y] [Value.ref a', u] from .cons rfl (.cons ry .nil)) sp) (ho a' u)
end
end Sw
/-! Sw44: == of data without truth values tells whether they are the same; sorted; small rules for own classes. -/
namespace Sw
open L2 PySem
mutual
/-- no truth value, no instance, no script within -/
def nbD : D → Bool
  | .bl _ => false
  | .obj _ _ _ => false
  | .scr _ => false
  | .lst xs => nbDs xs
  | .tup xs => nbDs xs
  | _ => true
def nbDs : List D → Bool
  | [] => true
  | x :: xs => nbD x && nbDs xs
end
theorem str_mk {s t : List Nat} : ((⟨s.toArray⟩ : Str) = ⟨t.toArray⟩) ↔ s = t := by
  constructor
  · intro h
    have h2 : s.toArray = t.toArray := congrArg Str.cps h
    simpa using h2
  · intro h
    rw [h]
mutual
theorem eqv_iff : ∀ x y : D, nbD x = true → nbD y = true → (PyData.eqv (toP x) (toP y) = true ↔ x = y)
  | .non, y, _, hy => by cases y <;> simp_all [toP, PyData.eqv, nbD]
  | .int i, y, _, hy => by cases y <;> simp_all [toP, PyData.eqv, nbD]
  | .str s, y, _, hy => by
    cases y with
    | str t =>
      simp only [toP, PyData.eqv, beq_iff_eq, D.str.injEq]
      exact str_mk
    | _ => simp_all [toP, PyData.eqv, nbD]
  | .lst xs, y, hx, hy => by
    cases y with
    | lst ys =>
      have h := eqvs_iff xs ys (by simpa [nbD] using hx) (by simpa [nbD] using hy)
      simp only [toP, PyData.eqv, D.lst.injEq]
      exact h
    | _ => simp_all [toP, PyData.eqv, nbD]
  | .tup xs, y, hx, hy => by
    cases y with
    | tup ys =>
      have h := eqvs_iff xs ys (by simpa [nbD] using hx) (by simpa [nbD] using hy)
      simp only [toP, PyData.eqv, D.tup.injEq]
      exact h
    | _ => simp_all [toP, PyData.eqv, nbD]
  | .bl _, _, hx, _ => by simp [nbD] at hx
  | .obj _ _ _, _, hx, _ => by simp [nbD] at hx
  | .scr _, _, hx, _ => by simp [nbD] at hx
theorem eqvs_iff : ∀ xs ys : List D, nbDs xs = true → nbDs ys = true → (PyData.eqvAll (toPs xs) (toPs ys) = true ↔ xs = ys)
  | [], [], _, _ => by simp [toPs, PyData.eqvAll]
  | [], y :: ys, _, _ => by simp [toPs, PyData.eqvAll]
  | x :: xs, [], _, _ => by simp [toPs, PyData.eqvAll]
  | x :: xs, y :: ys, hx, hy => by
    simp only [nbDs, Bool.and_eq_true] at hx hy
    simp only [toPs, PyData.eqvAll, Bool.and_eq_true, List.cons.injEq, eqv_iff x y hx.1 hy.1, eqvs_iff xs ys hx.2 hy.2]
end
theorem eqv_dec {x y : D} {p : Prop} [Decidable p] (nx : nbD x = true) (ny : nbD y = true) (h : x = y ↔ p) : PyData.eqv (toP x) (toP y) = decide p := by
  rw [Bool.eq_iff_iff, eqv_iff x y nx ny, h, decide_eq_true_iff]
theorem eq_dec {x y : D} {p : Prop} [Decidable p] (h0 : fEqS x y = none) (hx : shD x = true) (hy : shD y = true) (nx : nbD x = true) (ny : nbD y = true) (h : x = y ↔ p) : fEq x y = some (.bl (decide p)) := by
  show orF fEqS fEqD _ _ = _
  unfold orF
  rw [h0]
  show fEqD x y = _
  unfold fEqD
  rw [if_pos (by rw [hx, hy]; rfl), eqv_dec nx ny h]
theorem ne_dec {x y : D} {p : Prop} [Decidable p] (h0 : fNeS x y = none) (hx : shD x = true) (hy : shD y = true) (nx : nbD x = true) (ny : nbD y = true) (h : x = y ↔ p) : fNe x y = some (.bl (!decide p)) := by
  show orF fNeS fNeD _ _ = _
  unfold orF
  rw [h0]
  show fNeD x y = _
  unfold fNeD
  rw [if_pos (by rw [hx, hy]; rfl), eqv_dec nx ny h]
theorem nbDs_all : ∀ {xs : List D}, (∀ x ∈ xs, nbD x = true) → nbDs xs = true
  | [], _ => rfl
  | x :: xs, h => by
    show (nbD x && nbDs xs) = true
    rw [h x List.mem_cons_self, nbDs_all fun y hy => h y (List.mem_cons_of_mem _ hy)]
    rfl
theorem okDs_all : ∀ {xs : List D}, (∀ x ∈ xs, okD x = true) → okDs xs = true
  | [], _ => rfl
  | x :: xs, h => by
    show (okD x && okDs xs) = true
    rw [h x List.mem_cons_self, okDs_all fun y hy => h y (List.mem_cons_of_mem _ hy)]
    rfl
theorem dpDs_all {k : Nat} : ∀ {xs : List D}, (∀ x ∈ xs, dpD x ≤ k) → dpDs xs ≤ k
  | [], _ => Nat.zero_le _
  | x :: xs, h => by
    show max (dpD x) (dpDs xs) ≤ k
    exact Nat.max_le.mpr ⟨h x List.mem_cons_self, dpDs_all fun y hy => h y (List.mem_cons_of_mem _ hy)⟩
theorem flat_all {xs : List D} (h : ∀ x ∈ xs, flatD x = true) : xs.all flatD = true := List.all_eq_true.mpr h
/-- sorted -/
theorem ev_sortG {ms : M (List Vl)} {ρ : Rho} {Q : Vl → Rho → Prop} (h : Ev ms ρ fun rs ρ1 => ∃ r xs ys, rs = [r] ∧ look ρ1 r = some (.lst xs) ∧ sortG xs = some ys ∧ Q (.fr ys) ρ1) : Ev (eSortG ms) ρ Q := by
  obtain ⟨rs, ρ1, e1, r, xs, ys, rfl, e2, e3, q⟩ := h
  refine ⟨_, ρ1, ?_, q⟩
  unfold eSortG
  rw [e1]
  show (look ρ1 r).bind _ = _
  rw [e2]
  show (sortG xs).bind _ = _
  rw [e3]
  rfl
theorem sortE_perm (xs : List D) : (sortE xs).Perm xs := List.mergeSort_perm _ _
theorem sortG_of {xs : List D} (ok : ∀ x ∈ xs, okD x = true) (dp : ∀ x ∈ xs, dpD x ≤ 8) (k : (∀ x ∈ xs, tupQ x = true) ∨ (∀ x ∈ xs, othQ x = true)) (al : ∀ x ∈ xs, ∀ y ∈ xs, PySem.W.alike (toP x) (toP y) = true) (hl : xs.length ≤ lim) : sortG xs = some (sortE xs) := by
  have q : sortQ xs = true := by
    unfold sortQ
    have a1 : (xs.all fun x => shD x && decide ((toP x).depth ≤ 8)) = true := by
      rw [List.all_eq_true]
      intro x hx
      rw [shD_of (ok x hx) (Nat.le_trans (dp x hx) (by decide)), dep_of, decide_eq_true (dp x hx)]
      rfl
    have a2 : (xs.all tupQ || xs.all othQ) = true := by
      rcases k with k | k
      · rw [List.all_eq_true.mpr k]; rfl
      · rw [List.all_eq_true.mpr k, Bool.or_true]
    have a3 : (xs.all fun x => xs.all fun y => PySem.W.alike (toP x) (toP y)) = true := List.all_eq_true.mpr fun x hx => List.all_eq_true.mpr fun y hy => al x hx y hy
    rw [a1, a2, a3, decide_eq_true hl]
    rfl
  unfold sortG
  rw [if_pos q]
theorem alike_str {s t : List Nat} : PySem.W.alike (toP (.str s)) (toP (.str t)) = true := by
  unfold toP PySem.W.alike
  rfl
theorem alike_int {i j : Int} : PySem.W.alike (toP (.int i)) (toP (.int j)) = true := by
  unfold toP PySem.W.alike
  rfl
theorem perm_map {α : Type} {f : α → D} (inj : ∀ a b, f a = f b → a = b) : ∀ {ys : List D} {xs : List α}, ys.Perm (xs.map f) → ∃ zs : List α, ys = zs.map f ∧ zs.Perm xs := by
  intro ys
  induction ys with
  | nil =>
    intro xs h
    have := h.symm.eq_nil
    cases xs with
    | nil => exact ⟨[], rfl, .nil⟩
    | cons a xs => cases this
  | cons y ys ih =>
    intro xs h
    have hy : y ∈ xs.map f := h.subset List.mem_cons_self
    obtain ⟨a, ha, rfl⟩ := List.mem_map.mp hy
    obtain ⟨l, r, rfl⟩ := List.append_of_mem ha
    have h2 : (f a :: ys).Perm (f a :: (l ++ r).map f) := by
      refine h.trans ?_
      rw [List.map_append, List.map_cons, List.map_append]
      exact List.perm_middle
    obtain ⟨zs, rfl, hz⟩ := ih (List.perm_cons (a := f a) |>.mp h2)
    exact ⟨a :: zs, rfl, (List.Perm.cons a hz).trans List.perm_middle.symm⟩
/-! own == -/
theorem giv_ownEq {c : PySem.Str} {f : Fn} {x y : D} {Q : D → Prop} (hx : isOf c x = true) (hy : isOf c y = true) (q : Fv f [.da x, .da y] fun r _ => ∃ b, r = .fz (.bl b) ∧ Q (.bl b)) : Giv (fOwnEq c f x y) Q := by
  obtain ⟨r, os, e, b, rfl, q⟩ := q
  refine ⟨_, ?_, q⟩
  unfold fOwnEq
  rw [hx, hy, if_pos (show (true && (true || _)) = true from rfl), e]
  rfl
/-- own == with something that is no instance, no list and no script on the right -/
theorem giv_ownEqV {c : PySem.Str} {f : Fn} {x y : D} {Q : D → Prop} (hx : isOf c x = true) (hy : (isOf c y || (!isO y && notL y && !fOwnEq.isScr y)) = true) (q : Fv f [.da x, .da y] fun r _ => ∃ b, r = .fz (.bl b) ∧ Q (.bl b)) : Giv (fOwnEq c f x y) Q := by
  obtain ⟨r, os, e, b, rfl, q⟩ := q
  refine ⟨_, ?_, q⟩
  unfold fOwnEq
  rw [if_pos (show (isOf c x && (isOf c y || (!isO y && notL y && !fOwnEq.isScr y))) = true by rw [hx, hy]; rfl), e]
  rfl
theorem giv_ownEqL {c : PySem.Str} {f : Fn} {x : D} {t : List D} {Q : D → Prop} (hx : isOf c x = true) (q : Fv f [.da x, .da (.lst t)] fun r _ => ∃ b, r = .fz (.bl b) ∧ Q (.bl b)) : Giv (fOwnEqL c f x (.lst t)) Q := by
  obtain ⟨r, os, e, b, rfl, q⟩ := q
  refine ⟨_, ?_, q⟩
  unfold fOwnEqL
  rw [if_pos hx]
  dsimp only
  rw [e]
  rfl
/-- a == x answered by x's own == -/
theorem giv_reqEq {c : PySem.Str} {f : Fn} {x y : D} {Q : D → Prop} (hy : isOf c y = true) (hx : (!isO x && notL x) = true) (q : Fv f [.da y, .da x] fun r _ => ∃ b, r = .fz (.bl b) ∧ Q (.bl b)) : Giv (fReqEq c f x y) Q := by
  obtain ⟨r, os, e, b, rfl, q⟩ := q
  refine ⟨_, ?_, q⟩
  unfold fReqEq
  rw [if_pos (show (isOf c y && !isO x && notL x) = true by rw [hy, Bool.true_and]; exact hx), e]
  rfl
theorem giv_reqEqL {c : PySem.Str} {f : Fn} {t : List D} {y : D} {Q : D → Prop} (hy : isOf c y = true) (q : Fv f [.da y, .da (.lst t)] fun r _ => ∃ b, r = .fz (.bl b) ∧ Q (.bl b)) : Giv (fReqEqL c f (.lst t) y) Q := by
  obtain ⟨r, os, e, b, rfl, q⟩ := q
  refine ⟨_, ?_, q⟩
  unfold fReqEqL
  rw [if_pos hy]
  dsimp only
  rw [e]
  rfl
end Sw
namespace K84
open Sw

def tx_0123456789abcd : List Nat := [9, 10, 32, 33, 34, 35, 36, 38, 39, 40, 41, 42, 43, 44, 45, 46, 47, 48, 49, 50, 51, 52, 53, 54, 55, 56, 57, 58, 59, 60, 61, 62, 63, 64, 65, 66, 67, 68, 69, 70, 71, 72, 73, 74, 75, 76, 77, 78, 79, 80, 81, 82, 83, 84, 85, 86, 87, 88, 89, 90, 91, 92, 93, 94, 95, 96]
def tx_abcdefghijklmn : List Nat := [97, 98, 99, 100, 101, 102, 103, 104, 105, 106, 107, 108, 109, 110, 111, 112, 113, 114, 115, 116, 117, 118, 119, 120, 121, 122, 123, 124, 125, 126]
def tx_abcdefghijklmn2 : List Nat := [97, 98, 99, 100, 101, 102, 103, 104, 105, 106, 107, 108, 109, 110, 111, 112, 113, 114, 115, 116, 117, 118, 119, 120, 121, 122, 48, 49, 50, 51, 52, 53, 54, 55, 56, 57, 95]
def tx_abcdefghijklmn3 : List Nat := [97, 98, 99, 100, 101, 102, 103, 104, 105, 106, 107, 108, 109, 110, 111, 112, 113, 114, 115, 116, 117, 118, 119, 120, 121, 122]
def tx_0123456789 : List Nat := [48, 49, 50, 51, 52, 53, 54, 55, 56, 57, 95]
/-- is the exception's class c one of k -/
def xt (c k : PySem.Str) : Option Bool := if c = "UnknownGroup" then List.lookup k [("BadTree", false), ("NoSuchText", false), ("NotPlain", false), ("NotRegular", false), ("OutOfSteps", false), ("PatternFault", false), ("SpanError", true), ("StreamClosed", false), ("TemplateFault", false), ("TooManyAnswers", false), ("TooManyStates", false), ("UnknownGroup", true), ("ValueError", true)] else none
/-- __eq__(self, other): slots 0=self 1=other -/
def b_Answer_eq : S := (sSeq (sIf (tNot (tE (eUn (fIsC "Answer") (eVar 1)))) (sRet (eC (.bl false))) sNx)
  (sRet (eAnd (eBin fEq (eUn (fAt "Answer" "text") (eVar 0)) (eUn (fAt "Answer" "text") (eVar 1))) (eAnd (eBin fEq (eUn (fAt "Answer" "start") (eVar 0)) (eUn (fAt "Answer" "start") (eVar 1))) (eAnd (eBin fEq (eUn (fAt "Answer" "end") (eVar 0)) (eUn (fAt "Answer" "end") (eVar 1))) (eBin fEq (eUn (fAt "Answer" "row") (eVar 0)) (eUn (fAt "Answer" "row") (eVar 1))))))))
def f_Answer_eq : Fn := fnS 2 2 b_Answer_eq
/-- __init__(self, text, start, end, row): slots 0=self 1=text 2=start 3=end 4=row 5=triple -/
def i_Answer : SI0 := (iSeq (iFld "text" (eVar 1))
  (iSeq (iFld "start" (eVar 2))
  (iSeq (iFld "end" (eVar 3))
  (iSeq (iFld "row" (eVar 4))
  (iSeq (iFld "_names" (eLc [5] (iSq (eVar 4)) (gN 5) tYesM (eBin fIx (eVar 5) (eC (.int 0)))))
  iNx)))))
def g_Answer : List D → Option (List PySem.Str × List D) := fun ds => if ds.length = 4 then (i_Answer (.no :: (ds.map .d ++ List.replicate (6 - (4 + 1)) .no), [], [])).bind fun r => some r.2 else none
theorem g_Answer_len : ∀ (ds : List D) (z : List PySem.Str × List D), g_Answer ds = some z → ds.length = 4 := fun ds z h => by
  unfold g_Answer at h
  split at h
  · assumption
  · cases h
/-- _law_apart(_law_answer, _law_due): slots 0=_law_answer 1=_law_due 2=_law_names_here 3=_law_other 4=_law_triple -/
def b_law_apart : S := (sSeq (sAsg 2 (eLc [4] (iSq (eBin fIx (eVar 1) (eC (.int 3)))) (gN 4) tYesM (eBin fIx (eVar 4) (eC (.int 0)))))
  (sSeq (sFor (iSq (eLst (aCons (eVar 1) (aCons (eNew (eVar 1)) (aCons (eSl fSlA (eVar 1) (oSome (eC (.int 1))) oNo) (aCons (eBin fIx (eVar 1) (eC (.int 3))) (aCons (eVar 2) (aCons (eBin fIx (eVar 1) (eC (.int 0))) (aCons (eSl fSlA (eBin fIx (eVar 1) (eC (.int 0))) (oSome (eBin fIx (eVar 1) (eC (.int 1)))) (oSome (eBin fIx (eVar 1) (eC (.int 2))))) (aCons (eBin fIx (eVar 1) (eC (.int 1))) (aCons (eBlt cLen (aCons (eVar 2) aNil)) (aCons (eC .non) aNil)))))))))))) (gN 3) (sIf (tOr (tE (eBin (orF (orF (orF (orF fEq (fOwnEq "Answer" f_Answer_eq)) (fOwnEqL "Answer" f_Answer_eq)) (fReqEq "Answer" f_Answer_eq)) (fReqEqL "Answer" f_Answer_eq)) (eVar 0) (eVar 3))) (tE (eBin (orF (orF (orF (orF fEq (fOwnEq "Answer" f_Answer_eq)) (fOwnEqL "Answer" f_Answer_eq)) (fReqEq "Answer" f_Answer_eq)) (fReqEqL "Answer" f_Answer_eq)) (eVar 3) (eVar 0)))) (sRet (eC (.bl false))) sNx))
  (sRet (eC (.bl true)))))
def f_law_apart : Fn := fnS 2 5 b_law_apart
/-- _law_next(_law_draw_here, _law_many): slots 0=_law_draw_here 1=_law_many 2=_law_at -/
def b_law_next : S := (sSeq (sAsg 2 (eBin fIx (eVar 0) (eC (.int 0))))
  (sSeq (sIf (tE (eBin fLt (eVar 2) (eBlt cLen (aCons (eBin fIx (eVar 0) (eC (.int 3))) aNil)))) (sSeq (sSetI 0 (eC (.int 0)) (eBin fAdd (eVar 2) (eC (.int 1))))
  (sRet (eBin fMod (eBlt cInt (aCons (eBin fIx (eBin fIx (eVar 0) (eC (.int 3))) (eVar 2)) aNil)) (eVar 1)))) sNx)
  (sSeq (sSetI 0 (eC (.int 1)) (eBin fMod (eBlt cInt (aCons (eBin fAdd (eBin fMul (eBin fIx (eVar 0) (eC (.int 1))) (eC (.int 48271))) (eC (.int 12345))) aNil)) (eC (.int 2147483647))))
  (sSeq (sSetI 0 (eC (.int 2)) (eBin fMod (eBlt cInt (aCons (eBin fAdd (eBin fMul (eBin fIx (eVar 0) (eC (.int 2))) (eC (.int 69621))) (eC (.int 777))) aNil)) (eC (.int 2147483629))))
  (sRet (eBin fMod (eBlt cInt (aCons (eBin fAdd (eBin fDiv (eBin fIx (eVar 0) (eC (.int 1))) (eC (.int 64))) (eBin fDiv (eBin fIx (eVar 0) (eC (.int 2))) (eC (.int 128)))) aNil)) (eVar 1)))))))
def f_law_next : Fn := fnS 2 3 b_law_next
/-- _law_signs(): slots 0=_law_signs_here -/
def b_law_signs : S := (sSeq (sAsg 0 (eC (.str tx_0123456789abcd)))
  (sRet (eBin fAdd (eVar 0) (eC (.str tx_abcdefghijklmn)))))
def f_law_signs : Fn := fnS 0 1 b_law_signs
/-- _law_changes(_law_draw_here, _law_due, _law_names_here): slots 0=_law_draw_here 1=_law_due 2=_law_names_here 3=_law_text 4=_law_start 5=_law_end 6=_law_row_here 7=_law_signs_here 8=_law_found 9=_law_known 10=_law_name 11=_law_k 12=_law_at 13=_law_sign 14=_law_triple -/
def b_law_changes : S := (sSeq (sAsg 3 (eBin fIx (eVar 1) (eC (.int 0))))
  (sSeq (sAsg 4 (eBin fIx (eVar 1) (eC (.int 1))))
  (sSeq (sAsg 5 (eBin fIx (eVar 1) (eC (.int 2))))
  (sSeq (sAsg 6 (eBin fIx (eVar 1) (eC (.int 3))))
  (sSeq (sAsg 7 (eCall f_law_signs [] aNil))
  (sSeq (sAsg 8 (eLst aNil))
  (sSeq (sIf (tE (eBin fLt (eBlt cLen (aCons (eVar 3) aNil)) (eC (.int 300)))) (sApp 8 (eTup (aCons (eAdd (eVar 3) (eBin fIx (eVar 7) (eCall f_law_next [true, false] (aCons (eVar 0) (aCons (eC (.int 96)) aNil))))) (aCons (eVar 4) (aCons (eVar 5) (aCons (eVar 6) aNil)))))) sNx)
  (sSeq (sIf (tE (eBin fGt (eBlt cLen (aCons (eVar 3) aNil)) (eC (.int 0)))) (sSeq (sAsg 12 (eCall f_law_next [true, false] (aCons (eVar 0) (aCons (eBlt cLen (aCons (eVar 3) aNil)) aNil))))
  (sSeq (sAsg 13 (eBin fIx (eVar 7) (eBin fMod (eBlt cInt (aCons (eBin fAdd (eBin fAdd (eMet fFind (eVar 7) (aCons (eBin fIx (eVar 3) (eVar 12)) aNil)) (eC (.int 1))) (eCall f_law_next [true, false] (aCons (eVar 0) (aCons (eC (.int 95)) aNil)))) aNil)) (eC (.int 96)))))
  (sApp 8 (eTup (aCons (eAdd (eAdd (eSl fSlA (eVar 3) oNo (oSome (eVar 12))) (eVar 13)) (eSl fSlA (eVar 3) (oSome (eBin fAdd (eVar 12) (eC (.int 1)))) oNo)) (aCons (eVar 4) (aCons (eVar 5) (aCons (eVar 6) aNil)))))))) sNx)
  (sSeq (sIf (tE (eBin fGt (eVar 4) (eC (.int 0)))) (sApp 8 (eTup (aCons (eVar 3) (aCons (eBin fSub (eVar 4) (eC (.int 1))) (aCons (eVar 5) (aCons (eVar 6) aNil)))))) sNx)
  (sSeq (sIf (tE (eBin fLt (eVar 5) (eBlt cLen (aCons (eVar 3) aNil)))) (sApp 8 (eTup (aCons (eVar 3) (aCons (eVar 4) (aCons (eBin fAdd (eVar 5) (eC (.int 1))) (aCons (eVar 6) aNil)))))) sNx)
  (sSeq (sAsg 9 (eLc [14] (iSq (eVar 6)) (gN 14) tYesM (eBin fIx (eVar 14) (eC (.int 0)))))
  (sSeq (sFor (iSq (eVar 2)) (gN 10) (sIf (tE (eBin fNi (eVar 10) (eVar 9))) (sApp 8 (eTup (aCons (eVar 3) (aCons (eVar 4) (aCons (eVar 5) (aCons (eBlt cTup (aCons (eSortG (aCons (eAdd (eNew (eVar 6)) (eLst (aCons (eTup (aCons (eVar 10) (aCons (eVar 4) (aCons (eVar 5) aNil)))) aNil))) aNil)) aNil)) aNil)))))) sNx))
  (sSeq (sFor (iR1 (aCons (eBlt cLen (aCons (eVar 6) aNil)) aNil)) (gN 11) (sSeq (sApp 8 (eTup (aCons (eVar 3) (aCons (eVar 4) (aCons (eVar 5) (aCons (eAdd (eSl fSlA (eVar 6) oNo (oSome (eVar 11))) (eSl fSlA (eVar 6) (oSome (eBin fAdd (eVar 11) (eC (.int 1)))) oNo)) aNil))))))
  (sIf (tOr (tE (eBin fGt (eBin fIx (eBin fIx (eVar 6) (eVar 11)) (eC (.int 1))) (eVar 4))) (tE (eBin fLt (eBin fIx (eBin fIx (eVar 6) (eVar 11)) (eC (.int 2))) (eVar 5)))) (sApp 8 (eTup (aCons (eVar 3) (aCons (eVar 4) (aCons (eVar 5) (aCons (eBin fAdd (eBin fAdd (eSl fSlA (eVar 6) oNo (oSome (eVar 11))) (eTup (aCons (eTup (aCons (eBin fIx (eBin fIx (eVar 6) (eVar 11)) (eC (.int 0))) (aCons (eVar 4) (aCons (eVar 5) aNil)))) aNil))) (eSl fSlA (eVar 6) (oSome (eBin fAdd (eVar 11) (eC (.int 1)))) oNo)) aNil)))))) (sIf (tE (eBin fLt (eVar 4) (eVar 5))) (sApp 8 (eTup (aCons (eVar 3) (aCons (eVar 4) (aCons (eVar 5) (aCons (eBin fAdd (eBin fAdd (eSl fSlA (eVar 6) oNo (oSome (eVar 11))) (eTup (aCons (eTup (aCons (eBin fIx (eBin fIx (eVar 6) (eVar 11)) (eC (.int 0))) (aCons (eVar 4) (aCons (eVar 4) aNil)))) aNil))) (eSl fSlA (eVar 6) (oSome (eBin fAdd (eVar 11) (eC (.int 1)))) oNo)) aNil)))))) sNx))))
  (sRet (eVar 8)))))))))))))))
def f_law_changes : Fn := fnS 3 15 b_law_changes
/-- _law_draw(_law_script): slots 0=_law_script 1=_law_digits 2=_law_one 3=_law_two 4=_law_cell 5=_law_rest 6=_law_k -/
def b_law_draw : S := (sSeq (sAsg 1 (eLst aNil))
  (sSeq (sAsg 2 (eC (.int 7)))
  (sSeq (sAsg 3 (eC (.int 11)))
  (sSeq (sFor (iSq (eVar 0)) (gN 4) (sSeq (sAsg 2 (eBin fMod (eBlt cInt (aCons (eBin fAdd (eBin fMul (eVar 2) (eC (.int 48271))) (eVar 4)) aNil)) (eC (.int 2147483647))))
  (sSeq (sAsg 3 (eBin fMod (eBlt cInt (aCons (eBin fAdd (eBin fMul (eVar 3) (eC (.int 69621))) (eBin fDiv (eVar 4) (eC (.int 1009)))) aNil)) (eC (.int 2147483629))))
  (sSeq (sAsg 5 (eVar 4))
  (sSeq (sIf (tE (eBin fLt (eVar 4) (eBin fPow (eC (.int 10)) (eC (.int 18))))) (sAsg 5 (eC (.int 0))) sNx)
  (sFor (iR1 (aCons (eC (.int 60)) aNil)) (gN 6) (sIf (tE (eBin fGt (eVar 5) (eC (.int 0)))) (sSeq (sApp 1 (eBin fMod (eBlt cInt (aCons (eVar 5) aNil)) (eC (.int 5040))))
  (sAsg 5 (eBin fDiv (eVar 5) (eC (.int 5040))))) sNx)))))))
  (sRet (eLst (aCons (eC (.int 0)) (aCons (eVar 2) (aCons (eVar 3) (aCons (eVar 1) (aCons (eC (.int 3)) aNil)))))))))))
def f_law_draw : Fn := fnS 1 7 b_law_draw
/-- _law_near_name(_law_draw_here, _law_name): slots 0=_law_draw_here 1=_law_name 2=_law_others 3=_law_choice 4=_law_at -/
def b_law_near_name : S := (sSeq (sAsg 2 (eC (.str tx_abcdefghijklmn2)))
  (sSeq (sAsg 3 (eCall f_law_next [true, false] (aCons (eVar 0) (aCons (eC (.int 3)) aNil))))
  (sSeq (sAsg 4 (eCall f_law_next [true, false] (aCons (eVar 0) (aCons (eBlt cLen (aCons (eVar 1) aNil)) aNil))))
  (sSeq (sIf (tAnd (tE (eBin fEq (eVar 3) (eC (.int 0)))) (tE (eBin fGt (eBlt cLen (aCons (eVar 1) aNil)) (eC (.int 1))))) (sRet (eSl fSlA (eVar 1) oNo (oSome (eBin fSub (eBlt cLen (aCons (eVar 1) aNil)) (eC (.int 1)))))) sNx)
  (sSeq (sIf (tAnd (tE (eBin fEq (eVar 3) (eC (.int 1)))) (tE (eBin fLt (eBlt cLen (aCons (eVar 1) aNil)) (eC (.int 12))))) (sRet (eAdd (eVar 1) (eBin fIx (eVar 2) (eCall f_law_next [true, false] (aCons (eVar 0) (aCons (eC (.int 37)) aNil)))))) sNx)
  (sRet (eAdd (eAdd (eSl fSlA (eVar 1) oNo (oSome (eVar 4))) (eBin fIx (eVar 2) (eCall f_law_next [true, false] (aCons (eVar 0) (aCons (eC (.int 26)) aNil))))) (eSl fSlA (eVar 1) (oSome (eBin fAdd (eVar 4) (eC (.int 1)))) oNo))))))))
def f_law_near_name : Fn := fnS 2 5 b_law_near_name
/-- _law_new_name(_law_draw_here): slots 0=_law_draw_here 1=_law_firsts 2=_law_others 3=_law_name 4=_law_k -/
def b_law_new_name : S := (sSeq (sAsg 1 (eC (.str tx_abcdefghijklmn3)))
  (sSeq (sAsg 2 (eBin fAdd (eVar 1) (eC (.str tx_0123456789))))
  (sSeq (sAsg 3 (eBin fIx (eVar 1) (eCall f_law_next [true, false] (aCons (eVar 0) (aCons (eC (.int 26)) aNil)))))
  (sSeq (sFor (iR1 (aCons (eCall f_law_next [true, false] (aCons (eVar 0) (aCons (eC (.int 12)) aNil))) aNil)) (gN 4) (sAsg 3 (eAdd (eVar 3) (eBin fIx (eVar 2) (eCall f_law_next [true, false] (aCons (eVar 0) (aCons (eC (.int 37)) aNil)))))))
  (sRet (eVar 3))))))
def f_law_new_name : Fn := fnS 1 5 b_law_new_name
/-- _law_names(_law_draw_here): slots 0=_law_draw_here 1=_law_names_here 2=_law_k 3=_law_name -/
def b_law_names : S := (sSeq (sAsg 1 (eLst (aCons (eCall f_law_new_name [true] (aCons (eVar 0) aNil)) aNil)))
  (sSeq (sFor (iR1 (aCons (eCall f_law_next [true, false] (aCons (eVar 0) (aCons (eC (.int 7)) aNil))) aNil)) (gN 2) (sSeq (sAsg 3 (eCall f_law_near_name [true, false] (aCons (eVar 0) (aCons (eBin fIx (eVar 1) (eCall f_law_next [true, false] (aCons (eVar 0) (aCons (eBlt cLen (aCons (eVar 1) aNil)) aNil)))) aNil))))
  (sSeq (sIf (tE (eBin fEq (eCall f_law_next [true, false] (aCons (eVar 0) (aCons (eC (.int 2)) aNil))) (eC (.int 0)))) (sAsg 3 (eCall f_law_new_name [true] (aCons (eVar 0) aNil))) sNx)
  (sIf (tE (eBin fNi (eVar 3) (eVar 1))) (sApp 1 (eVar 3)) sNx))))
  (sRet (eSortG (aCons (eVar 1) aNil)))))
def f_law_names : Fn := fnS 1 4 b_law_names
/-- __contains__(self, name): slots 0=self 1=name -/
def b_Answer_contains : S := (sRet (eBin fIn (eVar 1) (eUn (fAt "Answer" "_names") (eVar 0))))
def f_Answer_contains : Fn := fnS 2 2 b_Answer_contains
/-- __len__(self): slots 0=self -/
def b_Answer_len : S := (sRet (eBlt cLen (aCons (eUn (fAt "Answer" "_names") (eVar 0)) aNil)))
def f_Answer_len : Fn := fnS 1 1 b_Answer_len
/-- span(self, name): slots 0=self 1=name 2=known 3=start 4=end -/
def b_Answer_span : S := (sSeq (sFor (iSq (eUn (fAt "Answer" "row") (eVar 0))) (gT 3 (gsC (gN 2) (gsC (gN 3) (gsC (gN 4) gsN)))) (sIf (tE (eBin fEq (eVar 2) (eVar 1))) (sRet (eTup (aCons (eVar 3) (aCons (eVar 4) aNil)))) sNx))
  (sRet (eC .non)))
def f_Answer_span : Fn := fnS 2 5 b_Answer_span
/-- whole(self): slots 0=self -/
def b_Answer_whole : S := (sRet (eSl fSlA (eUn (fAt "Answer" "text") (eVar 0)) (oSome (eUn (fAt "Answer" "start") (eVar 0))) (oSome (eUn (fAt "Answer" "end") (eVar 0)))))
def f_Answer_whole : Fn := fnS 1 1 b_Answer_whole
/-- _law_int(_law_value): slots 0=_law_value -/
def b_law_int : S := (sRet (eAnd (eUn (fIsi "int") (eVar 0)) (eNot (eUn (fIsi "bool") (eVar 0)))))
def f_law_int : Fn := fnS 1 1 b_law_int
/-- _law_is_row(_law_row_here): slots 0=_law_row_here 1=_law_triple -/
def b_law_is_row : S := (sSeq (sIf (tNot (tE (eUn (fIsi "tuple") (eVar 0)))) (sRet (eC (.bl false))) sNx)
  (sSeq (sFor (iSq (eVar 0)) (gN 1) (sSeq (sIf (tOr (tNot (tE (eUn (fIsi "tuple") (eVar 1)))) (tE (eBin fNe (eBlt cLen (aCons (eVar 1) aNil)) (eC (.int 3))))) (sRet (eC (.bl false))) sNx)
  (sIf (tOr (tNot (tE (eUn (fIsi "str") (eBin fIx (eVar 1) (eC (.int 0)))))) (tOr (tNot (tE (eCall f_law_int [] (aCons (eBin fIx (eVar 1) (eC (.int 1))) aNil)))) (tNot (tE (eCall f_law_int [] (aCons (eBin fIx (eVar 1) (eC (.int 2))) aNil)))))) (sRet (eC (.bl false))) sNx)))
  (sRet (eC (.bl true)))))
def f_law_is_row : Fn := fnS 1 2 b_law_is_row
/-- __getitem__(self, name): slots 0=self 1=name 2=found -/
def b_Answer_getitem : S := (sSeq (sAsg 2 (eMeth "Answer" "span" f_Answer_span (eVar 0) (aCons (eVar 1) aNil)))
  (sSeq (sIf (tE (eBin fIs (eVar 2) (eC .non))) (sRaise1 "UnknownGroup" "name" (eVar 1)) sNx)
  (sRet (eSl fSlA (eUn (fAt "Answer" "text") (eVar 0)) (oSome (eBin fIx (eVar 2) (eC (.int 0)))) (oSome (eBin fIx (eVar 2) (eC (.int 1))))))))
def f_Answer_getitem : Fn := fnS 2 3 b_Answer_getitem
def x_Answer_getitem : XFn := fnE 2 3 b_Answer_getitem
/-- _law_set_to(_law_answer, _law_triple, _law_text): slots 0=_law_answer 1=_law_triple 2=_law_text 3=_law_span 4=_law_piece -/
def b_law_set_to : S := (sSeq (sIf (tE (eBin (orF fNi (fOwnIn "Answer" f_Answer_contains true)) (eBin fIx (eVar 1) (eC (.int 0))) (eVar 0))) (sRet (eC (.bl false))) sNx)
  (sSeq (sAsg 3 (eMeth "Answer" "span" f_Answer_span (eVar 0) (aCons (eBin fIx (eVar 1) (eC (.int 0))) aNil)))
  (sSeq (sIf (tOr (tNot (tE (eUn (fIsi "tuple") (eVar 3)))) (tOr (tE (eBin fNe (eBlt cLen (aCons (eVar 3) aNil)) (eC (.int 2)))) (tOr (tNot (tE (eCall f_law_int [] (aCons (eBin fIx (eVar 3) (eC (.int 0))) aNil)))) (tNot (tE (eCall f_law_int [] (aCons (eBin fIx (eVar 3) (eC (.int 1))) aNil))))))) (sRet (eC (.bl false))) sNx)
  (sSeq (sAsg 4 (eBin (fOwnIx "Answer" f_Answer_getitem) (eVar 0) (eBin fIx (eVar 1) (eC (.int 0)))))
  (sRet (eAnd (eBin fEq (eVar 3) (eTup (aCons (eBin fIx (eVar 1) (eC (.int 1))) (aCons (eBin fIx (eVar 1) (eC (.int 2))) aNil)))) (eAnd (eUn (fIsi "str") (eVar 4)) (eBin fEq (eVar 4) (eSl fSlA (eVar 2) (oSome (eBin fIx (eVar 1) (eC (.int 1)))) (oSome (eBin fIx (eVar 1) (eC (.int 2)))))))))))))
def f_law_set_to : Fn := fnS 3 5 b_law_set_to
/-- _law_unknown(_law_answer, _law_name): slots 0=_law_answer 1=_law_name 2=_law_found 3=e -/
def b_law_unknown : S := (sSeq (sAsg 2 (eC .non))
  (sSeq (sTry 3 (fun e => xt e.c "SpanError") (sX (sAsg 2 (eBin (fOwnIx "Answer" f_Answer_getitem) (eVar 0) (eVar 1))) (xIx "Answer" x_Answer_getitem (eVar 0) (eVar 1))) (fun a dx e => (sSeq (sIf (tOr (tNot (tE (eIsx 3 a dx e.f.isSome (xt e.c "UnknownGroup")))) (tNot (tE (eIsx 3 a dx e.f.isSome (xt e.c "ValueError"))))) (sRet (eC (.bl false))) sNx)
  (sSeq (sIf (tE (eIsx 3 a dx e.f.isSome (xAny (xt e.c) ["PatternFault", "TemplateFault", "BadTree", "NotRegular", "NotPlain", "StreamClosed"]))) (sRet (eC (.bl false))) sNx)
  (sSeq (sIf (tE (eIsx 3 a dx e.f.isSome (xAny (xt e.c) ["OutOfSteps", "TooManyStates", "TooManyAnswers", "NoSuchText"]))) (sRet (eC (.bl false))) sNx)
  (sRet (eAnd (eBin fIs (eVar 2) (eC .non)) (eAnd (eUn (fIsi "str") (eFldX 3 a dx e.f.isSome "name")) (eBin fEq (eFldX 3 a dx e.f.isSome "name") (eVar 1))))))))))
  (sRet (eC (.bl false)))))
def f_law_unknown : Fn := fnS 2 4 b_law_unknown
/-- _law_shows(_law_answer, _law_due, _law_names_here): slots 0=_law_answer 1=_law_due 2=_law_names_here 3=_law_known 4=_law_triple 5=_law_name -/
def b_law_shows : S := (sSeq (sIf (tOr (tNot (tE (eUn (fIsi "str") (eUn (fAt "Answer" "text") (eVar 0))))) (tOr (tNot (tE (eCall f_law_int [] (aCons (eUn (fAt "Answer" "start") (eVar 0)) aNil)))) (tNot (tE (eCall f_law_int [] (aCons (eUn (fAt "Answer" "end") (eVar 0)) aNil)))))) (sRet (eC (.bl false))) sNx)
  (sSeq (sIf (tOr (tNot (tE (eCall f_law_is_row [] (aCons (eUn (fAt "Answer" "row") (eVar 0)) aNil)))) (tE (eBin fNe (eTup (aCons (eUn (fAt "Answer" "text") (eVar 0)) (aCons (eUn (fAt "Answer" "start") (eVar 0)) (aCons (eUn (fAt "Answer" "end") (eVar 0)) (aCons (eUn (fAt "Answer" "row") (eVar 0)) aNil))))) (eVar 1)))) (sRet (eC (.bl false))) sNx)
  (sSeq (sIf (tOr (tNot (tE (eUn (fIsi "str") (eProp "Answer" f_Answer_whole (eVar 0))))) (tE (eBin fNe (eProp "Answer" f_Answer_whole (eVar 0)) (eSl fSlA (eBin fIx (eVar 1) (eC (.int 0))) (oSome (eBin fIx (eVar 1) (eC (.int 1)))) (oSome (eBin fIx (eVar 1) (eC (.int 2)))))))) (sRet (eC (.bl false))) sNx)
  (sSeq (sAsg 3 (eLc [4] (iSq (eBin fIx (eVar 1) (eC (.int 3)))) (gN 4) tYesM (eBin fIx (eVar 4) (eC (.int 0)))))
  (sSeq (sIf (tOr (tE (eBin fNe (eBlt (cLenO "Answer" f_Answer_len) (aCons (eVar 0) aNil)) (eBlt (cLenO "Answer" f_Answer_len) (aCons (eVar 3) aNil)))) (tOr (tE (eBin fNe (eNewO "Answer" "_names" f_Answer_len (eVar 0)) (eVar 3))) (tE (eBin fNe (eLc [5] (iOwn "Answer" "_names" (eVar 0)) (gN 5) tYesM (eVar 5)) (eVar 3))))) (sRet (eC (.bl false))) sNx)
  (sSeq (sFor (iSq (eBin fIx (eVar 1) (eC (.int 3)))) (gN 4) (sIf (tNot (tE (eCall f_law_set_to [] (aCons (eVar 0) (aCons (eVar 4) (aCons (eBin fIx (eVar 1) (eC (.int 0))) aNil)))))) (sRet (eC (.bl false))) sNx))
  (sSeq (sFor (iSq (eVar 2)) (gN 5) (sIf (tE (eBin (orF fNi (fOwnIn "Answer" f_Answer_contains true)) (eVar 5) (eVar 3))) (sIf (tOr (tE (eBin (orF fIn (fOwnIn "Answer" f_Answer_contains false)) (eVar 5) (eVar 0))) (tOr (tE (eBin fNt (eMeth "Answer" "span" f_Answer_span (eVar 0) (aCons (eVar 5) aNil)) (eC .non))) (tNot (tE (eCall f_law_unknown [] (aCons (eVar 0) (aCons (eVar 5) aNil))))))) (sRet (eC (.bl false))) sNx) sNx))
  (sRet (eC (.bl true))))))))))
def f_law_shows : Fn := fnS 3 6 b_law_shows
/-- _law_letters(_law_draw_here): slots 0=_law_draw_here 1=_law_choice 2=_law_signs_here 3=_law_first 4=_law_second 5=_law_third 6=_law_k -/
def b_law_letters : S := (sSeq (sAsg 1 (eCall f_law_next [true, false] (aCons (eVar 0) (aCons (eC (.int 6)) aNil))))
  (sSeq (sIf (tE (eBin fEq (eVar 1) (eC (.int 0)))) (sRet (eC (.str [10, 97, 98]))) sNx)
  (sSeq (sIf (tE (eBin fEq (eVar 1) (eC (.int 1)))) (sRet (eC (.str [32, 97, 98]))) sNx)
  (sSeq (sIf (tE (eBin fEq (eVar 1) (eC (.int 2)))) (sRet (eC (.str [97, 98, 99]))) sNx)
  (sSeq (sAsg 2 (eCall f_law_signs [] aNil))
  (sSeq (sAsg 3 (eCall f_law_next [true, false] (aCons (eVar 0) (aCons (eC (.int 96)) aNil))))
  (sSeq (sAsg 4 (eBin fMod (eBlt cInt (aCons (eBin fAdd (eBin fAdd (eVar 3) (eC (.int 1))) (eCall f_law_next [true, false] (aCons (eVar 0) (aCons (eC (.int 95)) aNil)))) aNil)) (eC (.int 96))))
  (sSeq (sAsg 5 (eBin fMod (eBlt cInt (aCons (eBin fAdd (eBin fAdd (eVar 3) (eC (.int 1))) (eCall f_law_next [true, false] (aCons (eVar 0) (aCons (eC (.int 95)) aNil)))) aNil)) (eC (.int 96))))
  (sSeq (sIf (tE (eBin fEq (eVar 5) (eVar 4))) (sAsg 5 (eBin fMod (eBlt cInt (aCons (eBin fAdd (eVar 5) (eC (.int 1))) aNil)) (eC (.int 96)))) sNx)
  (sSeq (sIf (tE (eBin fEq (eVar 5) (eVar 3))) (sAsg 5 (eBin fMod (eBlt cInt (aCons (eBin fAdd (eVar 5) (eC (.int 1))) aNil)) (eC (.int 96)))) sNx)
  (sRet (eMet fJoin (eC (.str [])) (aCons (eLc [6] (iR1 (aCons (eC (.int 96)) aNil)) (gN 6) (tOr (tE (eBin fEq (eVar 6) (eVar 3))) (tOr (tE (eBin fEq (eVar 6) (eVar 4))) (tE (eBin fEq (eVar 6) (eVar 5))))) (eBin fIx (eVar 2) (eVar 6))) aNil)))))))))))))
def f_law_letters : Fn := fnS 1 7 b_law_letters
/-- _law_row(_law_draw_here, _law_names_here, _law_start, _law_end): slots 0=_law_draw_here 1=_law_names_here 2=_law_start 3=_law_end 4=_law_low 5=_law_high 6=_law_row_here 7=_law_turn 8=_law_name 9=_law_one 10=_law_two 11=_law_first 12=_law_last 13=_law_choice -/
def b_law_row : S := (sSeq (sAsg 4 (eVar 2))
  (sSeq (sAsg 5 (eVar 3))
  (sSeq (sAsg 6 (eLst aNil))
  (sSeq (sAsg 7 (eCall f_law_next [true, false] (aCons (eVar 0) (aCons (eBin fAdd (eBlt cLen (aCons (eVar 1) aNil)) (eC (.int 1))) aNil))))
  (sSeq (sFor (iSq (eAdd (eSl fSlA (eVar 1) (oSome (eVar 7)) oNo) (eSl fSlA (eVar 1) oNo (oSome (eVar 7))))) (gN 8) (sIf (tE (eBin fGt (eCall f_law_next [true, false] (aCons (eVar 0) (aCons (eC (.int 3)) aNil))) (eC (.int 0)))) (sSeq (sAsg 9 (eAdd (eVar 4) (eCall f_law_next [true, false] (aCons (eVar 0) (aCons (eBin fAdd (eBin fSub (eVar 5) (eVar 4)) (eC (.int 1))) aNil)))))
  (sSeq (sAsg 10 (eAdd (eVar 4) (eCall f_law_next [true, false] (aCons (eVar 0) (aCons (eBin fAdd (eBin fSub (eVar 5) (eVar 4)) (eC (.int 1))) aNil)))))
  (sSeq (sAsg 11 (eBlt cMin (aCons (eVar 9) (aCons (eVar 10) aNil))))
  (sSeq (sAsg 12 (eBlt cMax (aCons (eVar 9) (aCons (eVar 10) aNil))))
  (sSeq (sApp 6 (eTup (aCons (eVar 8) (aCons (eVar 11) (aCons (eVar 12) aNil)))))
  (sSeq (sAsg 13 (eCall f_law_next [true, false] (aCons (eVar 0) (aCons (eC (.int 3)) aNil))))
  (sIf (tE (eBin fEq (eVar 13) (eC (.int 0)))) (sAsg 4 (eVar 12)) (sIf (tE (eBin fEq (eVar 13) (eC (.int 1)))) (sAsg 5 (eVar 11)) (sSeq (sAsg 4 (eVar 11))
  (sAsg 5 (eVar 12))))))))))) sNx))
  (sRet (eBlt cTup (aCons (eSortG (aCons (eVar 6) aNil)) aNil))))))))
def f_law_row : Fn := fnS 4 14 b_law_row
/-- _law_values(_law_draw_here, _law_names_here): slots 0=_law_draw_here 1=_law_names_here 2=_law_pool 3=_law_size 4=_law_text 5=_law_one 6=_law_two 7=_law_start 8=_law_end 9=_law_k -/
def b_law_values : S := (sSeq (sAsg 2 (eCall f_law_signs [] aNil))
  (sSeq (sIf (tE (eBin fEq (eCall f_law_next [true, false] (aCons (eVar 0) (aCons (eC (.int 2)) aNil))) (eC (.int 0)))) (sAsg 2 (eCall f_law_letters [true] (aCons (eVar 0) aNil))) sNx)
  (sSeq (sAsg 3 (eCall f_law_next [true, false] (aCons (eVar 0) (aCons (eC (.int 13)) aNil))))
  (sSeq (sIf (tE (eBin fEq (eCall f_law_next [true, false] (aCons (eVar 0) (aCons (eC (.int 8)) aNil))) (eC (.int 0)))) (sAsg 3 (eBin fAdd (eC (.int 100)) (eCall f_law_next [true, false] (aCons (eVar 0) (aCons (eC (.int 201)) aNil))))) sNx)
  (sSeq (sAsg 4 (eMet fJoin (eC (.str [])) (aCons (eLc [9] (iR1 (aCons (eVar 3) aNil)) (gN 9) tYesM (eBin fIx (eVar 2) (eCall f_law_next [true, false] (aCons (eVar 0) (aCons (eBlt cLen (aCons (eVar 2) aNil)) aNil))))) aNil)))
  (sSeq (sAsg 5 (eCall f_law_next [true, false] (aCons (eVar 0) (aCons (eBin fAdd (eVar 3) (eC (.int 1))) aNil))))
  (sSeq (sAsg 6 (eCall f_law_next [true, false] (aCons (eVar 0) (aCons (eBin fAdd (eVar 3) (eC (.int 1))) aNil))))
  (sSeq (sAsg 7 (eBlt cMin (aCons (eVar 5) (aCons (eVar 6) aNil))))
  (sSeq (sAsg 8 (eBlt cMax (aCons (eVar 5) (aCons (eVar 6) aNil))))
  (sRet (eTup (aCons (eVar 4) (aCons (eVar 7) (aCons (eVar 8) (aCons (eCall f_law_row [true, false, false, false] (aCons (eVar 0) (aCons (eVar 1) (aCons (eVar 7) (aCons (eVar 8) aNil))))) aNil)))))))))))))))
def f_law_values : Fn := fnS 2 10 b_law_values
/-- law(_law_script): slots 0=_law_script 1=_law_draw_here 2=_law_names_here 3=_law_first 4=_law_second 5=_law_asked 6=_law_one 7=_law_two 8=_law_k 9=_law_twin 10=_law_due 11=_law_other -/
def b_law : S := (sSeq (sAsg 1 (eCall f_law_draw [] (aCons (eVar 0) aNil)))
  (sSeq (sAsg 2 (eCall f_law_names [true] (aCons (eVar 1) aNil)))
  (sSeq (sAsg 3 (eCall f_law_values [true, false] (aCons (eVar 1) (aCons (eVar 2) aNil))))
  (sSeq (sAsg 4 (eCall f_law_values [true, false] (aCons (eVar 1) (aCons (eVar 2) aNil))))
  (sSeq (sAsg 5 (eAdd (eVar 2) (eLst (aCons (eCall f_law_near_name [true, false] (aCons (eVar 1) (aCons (eBin fIx (eVar 2) (eCall f_law_next [true, false] (aCons (eVar 1) (aCons (eBlt cLen (aCons (eVar 2) aNil)) aNil)))) aNil))) aNil))))
  (sSeq (sAsg 6 (eMake "Answer" g_Answer (aCons (eBin fIx (eVar 3) (eC (.int 0))) (aCons (eBin fIx (eVar 3) (eC (.int 1))) (aCons (eBin fIx (eVar 3) (eC (.int 2))) (aCons (eBin fIx (eVar 3) (eC (.int 3))) aNil))))))
  (sSeq (sAsg 7 (eMake "Answer" g_Answer (aCons (eBin fIx (eVar 4) (eC (.int 0))) (aCons (eBin fIx (eVar 4) (eC (.int 1))) (aCons (eBin fIx (eVar 4) (eC (.int 2))) (aCons (eBin fIx (eVar 4) (eC (.int 3))) aNil))))))
  (sSeq (sFor (iR1 (aCons (eC (.int 2)) aNil)) (gN 8) (sIf (tOr (tNot (tE (eCall f_law_shows [] (aCons (eVar 6) (aCons (eVar 3) (aCons (eVar 5) aNil)))))) (tNot (tE (eCall f_law_shows [] (aCons (eVar 7) (aCons (eVar 4) (aCons (eVar 5) aNil))))))) (sRet (eC (.bl false))) sNx))
  (sSeq (sAsg 9 (eMake "Answer" g_Answer (aCons (eBin fIx (eVar 3) (eC (.int 0))) (aCons (eBin fIx (eVar 3) (eC (.int 1))) (aCons (eBin fIx (eVar 3) (eC (.int 2))) (aCons (eBlt cTup (aCons (eNew (eBin fIx (eVar 3) (eC (.int 3)))) aNil)) aNil))))))
  (sSeq (sIf (tOr (tNot (tE (eBin (orF fEq (fOwnEq "Answer" f_Answer_eq)) (eVar 6) (eVar 9)))) (tOr (tNot (tE (eBin (orF fEq (fOwnEq "Answer" f_Answer_eq)) (eVar 9) (eVar 6)))) (tE (eBin fNe (eBin (orF fEq (fOwnEq "Answer" f_Answer_eq)) (eVar 6) (eVar 7)) (eBin (orF fEq (fOwnEq "Answer" f_Answer_eq)) (eVar 3) (eVar 4)))))) (sRet (eC (.bl false))) sNx)
  (sSeq (sIf (tOr (tNot (tE (eCall f_law_apart [] (aCons (eVar 6) (aCons (eVar 3) aNil))))) (tNot (tE (eCall f_law_apart [] (aCons (eVar 7) (aCons (eVar 4) aNil)))))) (sRet (eC (.bl false))) sNx)
  (sSeq (sFor (iSq (eCall f_law_changes [true, false, false] (aCons (eVar 1) (aCons (eVar 3) (aCons (eVar 2) aNil))))) (gN 10) (sSeq (sAsg 11 (eMake "Answer" g_Answer (aCons (eBin fIx (eVar 10) (eC (.int 0))) (aCons (eBin fIx (eVar 10) (eC (.int 1))) (aCons (eBin fIx (eVar 10) (eC (.int 2))) (aCons (eBin fIx (eVar 10) (eC (.int 3))) aNil))))))
  (sIf (tOr (tE (eBin (orF fEq (fOwnEq "Answer" f_Answer_eq)) (eVar 6) (eVar 11))) (tOr (tE (eBin (orF fEq (fOwnEq "Answer" f_Answer_eq)) (eVar 11) (eVar 6))) (tNot (tE (eCall f_law_shows [] (aCons (eVar 11) (aCons (eVar 10) (aCons (eVar 5) aNil)))))))) (sRet (eC (.bl false))) sNx)))
  (sRet (eCall f_law_shows [] (aCons (eVar 6) (aCons (eVar 3) (aCons (eVar 5) aNil)))))))))))))))))
def f_law : Fn := fnS 1 12 b_law
end K84
open Sw L2
local macro_rules | `(tactic| walk_at "fn") => `(tactic| (fail))
local macro_rules | `(tactic| walk_at "s1") => `(tactic| (first | ((with_reducible refine gEv ?_); (first | ((with_reducible refine' ev_tAnd_d ?s0 ?s1 ?_); (case s0 => (intro Q q; walk_at "g"; (first | exact q | exact toD_n q | exact toD_t q | exact toD_f q | exact toD_b q))); (case s1 => (intro hp Q q; walk_at "g"; (first | exact q | exact toD_n q | exact toD_t q | exact toD_f q | exact toD_b q)))) | ((with_reducible refine' ev_tOr_d ?s0 ?s1 ?_); (case s0 => (intro Q q; walk_at "g"; (first | exact q | exact toD_n q | exact toD_t q | exact toD_f q | exact toD_b q))); (case s1 => (intro hp Q q; walk_at "g"; (first | exact q | exact toD_n q | exact toD_t q | exact toD_f q | exact toD_b q)))) | with_reducible refine ev_c ?_ | ((with_reducible refine' ev_vd ?s0 ?_); (case s0 => (rfl))) | ((with_reducible refine' ev_vo ?s0 ?_); (case s0 => (rfl))) | ((with_reducible refine' ev_vi ?s0 ?_); (case s0 => (rfl))) | with_reducible refine ev_bin ?_ | with_reducible refine ev_add ?_ | with_reducible refine ev_un ?_ | with_reducible refine ev_anil ?_ | with_reducible refine ev_acons ?_ | with_reducible refine ev_blt ?_ | with_reducible refine ev_met ?_ | with_reducible refine ev_ono ?_ | with_reducible refine ev_osome ?_ | with_reducible refine ev_sl ?_ | with_reducible refine ev_tup ?_ | with_reducible refine ev_lst ?_ | with_reducible refine ev_tE ?_ | with_reducible refine ev_tyes ?_ | with_reducible refine ev_tAnd ?_ | with_reducible refine ev_tOr ?_ | with_reducible refine ev_tNot ?_ | with_reducible refine ev_eAnd ?_ | with_reducible refine ev_eOr ?_ | with_reducible refine ev_eNot ?_ | with_reducible refine ev_eIf ?_ | with_reducible refine ev_chain ?_ | with_reducible refine ev_call ?_ | with_reducible refine ev_prop ?_ | with_reducible refine ev_meth ?_)) | ((with_reducible refine gGiv ?_); (first | ((with_reducible refine' giv_mod ?s0 ?_); (case s0 => (first | assumption | decide | omega | (show _ ≤ 16777216; omega) | (show _ < 16777216; omega) | (simp only [List.length_append, List.length_cons, List.length_nil, List.length_replicate, List.length_map, List.length_take, List.length_drop, List.length_dropLast]; first | omega | (show _ ≤ 16777216; omega))))) | ((with_reducible refine' giv_div ?s0 ?_); (case s0 => (first | assumption | decide | omega | (show _ ≤ 16777216; omega) | (show _ < 16777216; omega) | (simp only [List.length_append, List.length_cons, List.length_nil, List.length_replicate, List.length_map, List.length_take, List.length_drop, List.length_dropLast]; first | omega | (show _ ≤ 16777216; omega))))) | ((with_reducible refine' giv_mul ?s0 ?_); (case s0 => (first | assumption | exact cMul_r (by decide) | exact cMul_r (by omega)))) | ((with_reducible refine' giv_muls ?s0 ?_); (case s0 => (first | assumption | decide | omega | (show _ ≤ 16777216; omega) | (show _ < 16777216; omega) | (simp only [List.length_append, List.length_cons, List.length_nil, List.length_replicate, List.length_map, List.length_take, List.length_drop, List.length_dropLast]; first | omega | (show _ ≤ 16777216; omega))))) | ((with_reducible refine' giv_adds ?s0 ?_); (case s0 => (first | assumption | decide | omega | (show _ ≤ 16777216; omega) | (show _ < 16777216; omega) | (simp only [List.length_append, List.length_cons, List.length_nil, List.length_replicate, List.length_map, List.length_take, List.length_drop, List.length_dropLast]; first | omega | (show _ ≤ 16777216; omega))))) | ((with_reducible refine' giv_addl ?s0 ?_); (case s0 => (first | assumption | decide | omega | (show _ ≤ 16777216; omega) | (show _ < 16777216; omega) | (simp only [List.length_append, List.length_cons, List.length_nil, List.length_replicate, List.length_map, List.length_take, List.length_drop, List.length_dropLast]; first | omega | (show _ ≤ 16777216; omega))))) | ((with_reducible refine' giv_ixl ?s0 ?_); (case s0 => (first | assumption | rfl | exact atI_zero))) | ((with_reducible refine' giv_ixt ?s0 ?_); (case s0 => (first | assumption | rfl | exact atI_zero))) | ((with_reducible refine' giv_ixs ?s0 ?s1 ?_); (case s0 => (first | assumption | decide | omega | (show _ ≤ 16777216; omega) | (show _ < 16777216; omega) | (simp only [List.length_append, List.length_cons, List.length_nil, List.length_replicate, List.length_map, List.length_take, List.length_drop, List.length_dropLast]; first | omega | (show _ ≤ 16777216; omega)))); (case s1 => (first | assumption | rfl))) | ((with_reducible refine' giv_dr4 ?s0 ?_); (case s0 => (assumption))) | ((with_reducible refine' giv_slm1 ?s0 ?_); (case s0 => (first | assumption | decide | omega | (show _ ≤ 16777216; omega) | (show _ < 16777216; omega) | (simp only [List.length_append, List.length_cons, List.length_nil, List.length_replicate, List.length_map, List.length_take, List.length_drop, List.length_dropLast]; first | omega | (show _ ≤ 16777216; omega))))) | ((with_reducible refine' giv_slt ?s0 ?s1 ?_); (case s0 => (first | assumption | decide | omega | (show _ ≤ 16777216; omega) | (show _ < 16777216; omega) | (simp only [List.length_append, List.length_cons, List.length_nil, List.length_replicate, List.length_map, List.length_take, List.length_drop, List.length_dropLast]; first | omega | (show _ ≤ 16777216; omega)))); (case s1 => (first | assumption | decide | omega))) | ((with_reducible refine' giv_sld ?s0 ?s1 ?_); (case s0 => (first | assumption | decide | omega | (show _ ≤ 16777216; omega) | (show _ < 16777216; omega) | (simp only [List.length_append, List.length_cons, List.length_nil, List.length_replicate, List.length_map, List.length_take, List.length_drop, List.length_dropLast]; first | omega | (show _ ≤ 16777216; omega)))); (case s1 => (first | assumption | decide | omega))) | ((with_reducible refine' giv_slm ?s0 ?s1 ?s2 ?_); (case s0 => (first | assumption | decide | omega | (show _ ≤ 16777216; omega) | (show _ < 16777216; omega) | (simp only [List.length_append, List.length_cons, List.length_nil, List.length_replicate, List.length_map, List.length_take, List.length_drop, List.length_dropLast]; first | omega | (show _ ≤ 16777216; omega)))); (case s1 => (first | assumption | decide | omega)); (case s2 => (first | assumption | decide | omega))) | ((with_reducible refine' giv_sltl ?s0 ?_); (case s0 => (first | assumption | decide | omega))) | ((with_reducible refine' giv_sldl ?s0 ?_); (case s0 => (first | assumption | decide | omega))) | ((with_reducible refine' giv_sls ?s0 ?_); (case s0 => (first | assumption | decide | omega | (show _ ≤ 16777216; omega) | (show _ < 16777216; omega) | (simp only [List.length_append, List.length_cons, List.length_nil, List.length_replicate, List.length_map, List.length_take, List.length_drop, List.length_dropLast]; first | omega | (show _ ≤ 16777216; omega))))) | with_reducible refine giv_sll ?_ | ((with_reducible refine' giv_lens ?s0 ?_); (case s0 => (first | assumption | decide | omega | (show _ ≤ 16777216; omega) | (show _ < 16777216; omega) | (simp only [List.length_append, List.length_cons, List.length_nil, List.length_replicate, List.length_map, List.length_take, List.length_drop, List.length_dropLast]; first | omega | (show _ ≤ 16777216; omega))))) | ((with_reducible refine' giv_revs ?s0 ?_); (case s0 => (first | assumption | decide | omega | (show _ ≤ 16777216; omega) | (show _ < 16777216; omega) | (simp only [List.length_append, List.length_cons, List.length_nil, List.length_replicate, List.length_map, List.length_take, List.length_drop, List.length_dropLast]; first | omega | (show _ ≤ 16777216; omega))))) | ((with_reducible refine' giv_sldT ?s0 ?s1 ?_); (case s0 => (first | assumption | decide | omega)); (case s1 => (first | assumption | decide | omega))) | ((with_reducible refine' giv_sltT ?s0 ?s1 ?_); (case s0 => (first | assumption | decide | omega)); (case s1 => (first | assumption | decide | omega))) | with_reducible refine giv_A ?_ | with_reducible refine giv_tup ?_ | with_reducible refine giv_tupt ?_ | ((with_reducible refine' giv_str ?s0 ?_); (case s0 => (first | assumption | decide | omega))) | with_reducible refine giv_strN ?_ | with_reducible refine giv_strS ?_ | ((with_reducible refine' giv_at ?s0 ?_); (case s0 => (rfl))) | with_reducible refine giv_isC ?_ | ((with_reducible refine' giv_orr ?s0 ?_); (case s0 => (rfl))) | with_reducible refine giv_orl ?_ | ((with_reducible refine' giv_own2 ?s0 ?s1 ?_); (case s0 => (exact isOf_obj)); (case s1 => (exact isOf_obj))) | ((with_reducible refine' giv_own1 ?s0 ?_); (case s0 => (exact isOf_obj))) | ((with_reducible refine' giv_ownIn ?s0 ?s1 ?_); (case s0 => (exact isOf_obj)); (case s1 => (rfl))) | with_reducible refine giv r_add1 ?_ | with_reducible refine giv r_sub ?_ | with_reducible refine giv r_lt ?_ | with_reducible refine giv r_lts ?_ | with_reducible refine giv r_le ?_ | with_reducible refine giv r_gt ?_ | with_reducible refine giv r_ge ?_ | with_reducible refine giv r_eqi ?_ | with_reducible refine giv r_eqs ?_ | with_reducible refine giv r_eqb ?_ | with_reducible refine giv r_nei ?_ | with_reducible refine giv r_nes ?_ | with_reducible refine giv r_neb ?_ | with_reducible refine giv r_isb ?_ | with_reducible refine giv r_ntb ?_ | with_reducible refine giv r_ins ?_ | with_reducible refine giv r_nis ?_ | with_reducible refine giv r_neg ?_ | with_reducible refine giv r_len2 ?_ | with_reducible refine giv r_len3 ?_ | with_reducible refine giv r_int1 ?_ | with_reducible refine giv r_fFind ?_ | with_reducible refine giv r_rev1 ?_ | with_reducible refine giv r_fIsi1 ?_ | with_reducible refine giv r_fIsi2 ?_ | with_reducible refine giv r_fIsi3 ?_ | with_reducible refine giv r_fIsi4 ?_ | with_reducible refine giv r_fIsi5 ?_ | with_reducible refine giv r_fIsi6 ?_ | with_reducible refine giv r_min2 ?_ | with_reducible refine giv r_max2 ?_ | with_reducible refine giv r_min3 ?_ | with_reducible refine giv r_isn1 ?_ | with_reducible refine giv r_isn2 ?_ | with_reducible refine giv r_isn3 ?_ | with_reducible refine giv r_isn4 ?_ | with_reducible refine giv r_isn5 ?_ | with_reducible refine giv r_ntn1 ?_ | with_reducible refine giv r_ntn2 ?_ | with_reducible refine giv r_ntn3 ?_ | with_reducible refine giv r_ntn4 ?_ | with_reducible refine giv r_ntn5 ?_ | with_reducible refine giv r_eqn1 ?_ | with_reducible refine giv r_eqn2 ?_ | with_reducible refine giv q_isi_tuple_non ?_ | with_reducible refine giv q_isi_tuple_bl ?_ | with_reducible refine giv q_isi_tuple_int ?_ | with_reducible refine giv q_isi_tuple_str ?_ | with_reducible refine giv q_isi_tuple_lst ?_ | with_reducible refine giv q_isi_tuple_tup ?_ | with_reducible refine giv q_isi_list_non ?_ | with_reducible refine giv q_isi_list_bl ?_ | with_reducible refine giv q_isi_list_int ?_ | with_reducible refine giv q_isi_list_str ?_ | with_reducible refine giv q_isi_list_lst ?_ | with_reducible refine giv q_isi_list_tup ?_ | with_reducible refine giv q_isi_str_non ?_ | with_reducible refine giv q_isi_str_bl ?_ | with_reducible refine giv q_isi_str_int ?_ | with_reducible refine giv q_isi_str_str ?_ | with_reducible refine giv q_isi_str_lst ?_ | with_reducible refine giv q_isi_str_tup ?_ | with_reducible refine giv q_isi_int_non ?_ | with_reducible refine giv q_isi_int_bl ?_ | with_reducible refine giv q_isi_int_int ?_ | with_reducible refine giv q_isi_int_str ?_ | with_reducible refine giv q_isi_int_lst ?_ | with_reducible refine giv q_isi_int_tup ?_ | with_reducible refine giv q_isi_bool_non ?_ | with_reducible refine giv q_isi_bool_bl ?_ | with_reducible refine giv q_isi_bool_int ?_ | with_reducible refine giv q_isi_bool_str ?_ | with_reducible refine giv q_isi_bool_lst ?_ | with_reducible refine giv q_isi_bool_tup ?_ | ((with_reducible refine' giv ?s0 ?_); (case s0 => (first | exact (rfl : _ = some (D.bl true)) | exact (rfl : _ = some (D.bl false))))) | ((with_reducible refine' giv_ixs_all ?s0 ?s1 ?s2 ?_); (case s0 => (first | assumption | decide | omega | (show _ ≤ 16777216; omega) | (show _ < 16777216; omega) | (simp only [List.length_append, List.length_cons, List.length_nil, List.length_replicate, List.length_map, List.length_take, List.length_drop, List.length_dropLast]; first | omega | (show _ ≤ 16777216; omega)))); (case s1 => (first | assumption | decide | omega)); (case s2 => (first | assumption | (refine Int.lt_of_lt_of_le (by assumption) ?_; decide) | (show _ < (_ : Int); omega) | (simp only [List.length_append, List.length_cons, List.length_nil]; omega))); intro _ _))) | ((with_reducible refine gBrn ?_); (first | with_reducible refine brn_t ?_ | with_reducible refine brn_f ?_ | with_reducible refine brn_nT ?_ | with_reducible refine brn_nF ?_ | with_reducible refine brn_nn ?_ | ((with_reducible refine' brn_dt ?s0 ?_); (case s0 => decide)) | ((with_reducible refine' brn_df ?s0 ?_); (case s0 => decide)) | ((with_reducible refine' brn_nt ?s0 ?_); (case s0 => decide)) | ((with_reducible refine' brn_nf ?s0 ?_); (case s0 => decide)))) | ((with_reducible refine gFv ?_); (first | ((with_reducible refine' fv_nextE ?s0 ?s1 ?_); (case s0 => assumption); (case s1 => (first | assumption | decide | omega)); intro _ _ _ _ _; (try dsimp only [puts, put, agI, outsOf, slOf, List.set_cons_zero, List.set_cons_succ, List.getElem?_cons_zero, List.getElem?_cons_succ, wipeR, backR, Option.getD_some, stl])) | ((with_reducible refine' fv_drawE ?s0 ?_); (case s0 => assumption); intro _ _) | with_reducible refine fv_signs ?_ | (walk_at "fn"))) | with_reducible refine ret_z ?_ | with_reducible refine ret_r ?_ | ((with_reducible refine' ret_b ?s0 ?_); (case s0 => (rfl))) | ((with_reducible refine' see2 ?s0 ?s1 ?_); (case s0 => (rfl)); (case s1 => (rfl))) | ((with_reducible refine' see1 ?s0 ?_); (case s0 => (rfl))) | ((with_reducible refine' sees ?s0 ?_); (case s0 => (rfl))) | ((with_reducible refine' obp ?s0 ?_); (case s0 => (first | exact isOb_obj rfl | exact isOb_obj (by decide)))) | with_reducible refine fbp ?_ | with_reducible refine fzp ?_ | with_reducible refine isI ?_ | with_reducible refine isB ?_ | with_reducible refine isBD ?_ | ((with_reducible refine' frzs' ?s0 (And.intro ?s1 ?_)); (case s0 => rfl); (case s1 => (first | decide | simp)); (try dsimp only [puts, put, agI, outsOf, slOf, List.set_cons_zero, List.set_cons_succ, List.getElem?_cons_zero, List.getElem?_cons_succ, wipeR, backR, Option.getD_some, stl])) | ((with_reducible refine' arg ?s0 ?s1 ?s2 ?_); (case s0 => (rfl)); (case s1 => (rfl)); (case s2 => (first | exact List.nodup_nil | exact nodup1 | simp [agI])); (try dsimp only [puts, put, agI, outsOf, slOf, List.set_cons_zero, List.set_cons_succ, List.getElem?_cons_zero, List.getElem?_cons_succ, wipeR, backR, Option.getD_some, stl])) | ((with_reducible refine' ex_asg ?s0 ?_); (case s0 => (first | rfl | assumption)); (try dsimp only [puts, put, agI, outsOf, slOf, List.set_cons_zero, List.set_cons_succ, List.getElem?_cons_zero, List.getElem?_cons_succ, wipeR, backR, Option.getD_some, stl])) | ((with_reducible refine' ex_asg' ?s0 ?_); (case s0 => (first | rfl | assumption)); (try dsimp only [puts, put, agI, outsOf, slOf, List.set_cons_zero, List.set_cons_succ, List.getElem?_cons_zero, List.getElem?_cons_succ, wipeR, backR, Option.getD_some, stl])) | ((with_reducible refine' ex_asg'' ?s0 ?_); (case s0 => (rfl)); (try dsimp only [puts, put, agI, outsOf, slOf, List.set_cons_zero, List.set_cons_succ, List.getElem?_cons_zero, List.getElem?_cons_succ, wipeR, backR, Option.getD_some, stl])) | ((with_reducible refine' ex_asgT ?s0 ?_); (case s0 => (rfl)); (try dsimp only [puts, put, agI, outsOf, slOf, List.set_cons_zero, List.set_cons_succ, List.getElem?_cons_zero, List.getElem?_cons_succ, wipeR, backR, Option.getD_some, stl])) | ((with_reducible refine' nbw_z ?_); (try dsimp only [puts, put, agI, outsOf, slOf, List.set_cons_zero, List.set_cons_succ, List.getElem?_cons_zero, List.getElem?_cons_succ, wipeR, backR, Option.getD_some, stl])) | ((with_reducible refine' nbw_r ?_); (try dsimp only [puts, put, agI, outsOf, slOf, List.set_cons_zero, List.set_cons_succ, List.getElem?_cons_zero, List.getElem?_cons_succ, wipeR, backR, Option.getD_some, stl])) | with_reducible refine add2_i ?_ | ((with_reducible refine' add2_s ?s0 ?_); (case s0 => (first | assumption | decide | omega | (show _ ≤ 16777216; omega) | (show _ < 16777216; omega) | (simp only [List.length_append, List.length_cons, List.length_nil, List.length_replicate, List.length_map, List.length_take, List.length_drop, List.length_dropLast]; first | omega | (show _ ≤ 16777216; omega))))) | ((with_reducible refine' add2_l ?s0 ?_); (case s0 => (first | assumption | decide | omega | (show _ ≤ 16777216; omega) | (show _ < 16777216; omega) | (simp only [List.length_append, List.length_cons, List.length_nil, List.length_replicate, List.length_map, List.length_take, List.length_drop, List.length_dropLast]; first | omega | (show _ ≤ 16777216; omega))))) | ((with_reducible refine' add2_t ?s0 ?_); (case s0 => (first | assumption | decide | omega | (show _ ≤ 16777216; omega) | (show _ < 16777216; omega) | (simp only [List.length_append, List.length_cons, List.length_nil, List.length_replicate, List.length_map, List.length_take, List.length_drop, List.length_dropLast]; first | omega | (show _ ≤ 16777216; omega))))) | ((with_reducible refine' own_at ?s0 (And.intro ?s1 ?_)); (case s0 => rfl); (case s1 => exact ⟨_, by assumption⟩); intro _ _; (try dsimp only [puts, put, agI, outsOf, slOf, List.set_cons_zero, List.set_cons_succ, List.getElem?_cons_zero, List.getElem?_cons_succ, wipeR, backR, Option.getD_some, stl])) | ((with_reducible refine gSv ?_); (first | with_reducible refine sv_asg_s ?_ | with_reducible refine sv_nx_s ?_ | with_reducible refine sv_if_s ?_ | with_reducible refine sv_ret_s ?_ | with_reducible refine sv_seq_s ?_ | with_reducible refine sv_drop_s ?_ | ((with_reducible refine' sv_app_s ?s0 ?_); (case s0 => (rfl))) | ((with_reducible refine' sv_app_l ?s0 ?_); (case s0 => (rfl))) | with_reducible refine sv_asg_l ?_ | with_reducible refine sv_if_l ?_ | with_reducible refine sv_ret_l ?_ | with_reducible refine sv_nx ?_ | with_reducible refine sv_asgT_s ?_ | with_reducible refine sv_asgT_l ?_ | with_reducible refine sv_set4_s ?_))))
local macro_rules | `(tactic| walk_at "s2") => `(tactic| (first | ((with_reducible refine gEv ?_); (first | ((with_reducible refine' ev_tAnd_d ?s0 ?s1 ?_); (case s0 => (intro Q q; walk_at "g"; (first | exact q | exact toD_n q | exact toD_t q | exact toD_f q | exact toD_b q))); (case s1 => (intro hp Q q; walk_at "g"; (first | exact q | exact toD_n q | exact toD_t q | exact toD_f q | exact toD_b q)))) | ((with_reducible refine' ev_tOr_d ?s0 ?s1 ?_); (case s0 => (intro Q q; walk_at "g"; (first | exact q | exact toD_n q | exact toD_t q | exact toD_f q | exact toD_b q))); (case s1 => (intro hp Q q; walk_at "g"; (first | exact q | exact toD_n q | exact toD_t q | exact toD_f q | exact toD_b q)))) | with_reducible refine ev_c ?_ | ((with_reducible refine' ev_vd ?s0 ?_); (case s0 => (rfl))) | ((with_reducible refine' ev_vo ?s0 ?_); (case s0 => (rfl))) | ((with_reducible refine' ev_vi ?s0 ?_); (case s0 => (rfl))) | with_reducible refine ev_bin ?_ | with_reducible refine ev_add ?_ | with_reducible refine ev_un ?_ | with_reducible refine ev_anil ?_ | with_reducible refine ev_acons ?_ | with_reducible refine ev_blt ?_ | with_reducible refine ev_met ?_ | with_reducible refine ev_ono ?_ | with_reducible refine ev_osome ?_ | with_reducible refine ev_sl ?_ | with_reducible refine ev_tup ?_ | with_reducible refine ev_lst ?_ | with_reducible refine ev_tE ?_ | with_reducible refine ev_tyes ?_ | with_reducible refine ev_tAnd ?_ | with_reducible refine ev_tOr ?_ | with_reducible refine ev_tNot ?_ | with_reducible refine ev_eAnd ?_ | with_reducible refine ev_eOr ?_ | with_reducible refine ev_eNot ?_ | with_reducible refine ev_eIf ?_ | with_reducible refine ev_chain ?_ | with_reducible refine ev_call ?_ | with_reducible refine ev_prop ?_ | with_reducible refine ev_meth ?_)) | ((with_reducible refine gGiv ?_); (first | ((with_reducible refine' giv_mod ?s0 ?_); (case s0 => (first | assumption | decide | omega | (show _ ≤ 16777216; omega) | (show _ < 16777216; omega) | (simp only [List.length_append, List.length_cons, List.length_nil, List.length_replicate, List.length_map, List.length_take, List.length_drop, List.length_dropLast]; first | omega | (show _ ≤ 16777216; omega))))) | ((with_reducible refine' giv_div ?s0 ?_); (case s0 => (first | assumption | decide | omega | (show _ ≤ 16777216; omega) | (show _ < 16777216; omega) | (simp only [List.length_append, List.length_cons, List.length_nil, List.length_replicate, List.length_map, List.length_take, List.length_drop, List.length_dropLast]; first | omega | (show _ ≤ 16777216; omega))))) | ((with_reducible refine' giv_mul ?s0 ?_); (case s0 => (first | assumption | exact cMul_r (by decide) | exact cMul_r (by omega)))) | ((with_reducible refine' giv_muls ?s0 ?_); (case s0 => (first | assumption | decide | omega | (show _ ≤ 16777216; omega) | (show _ < 16777216; omega) | (simp only [List.length_append, List.length_cons, List.length_nil, List.length_replicate, List.length_map, List.length_take, List.length_drop, List.length_dropLast]; first | omega | (show _ ≤ 16777216; omega))))) | ((with_reducible refine' giv_adds ?s0 ?_); (case s0 => (first | assumption | decide | omega | (show _ ≤ 16777216; omega) | (show _ < 16777216; omega) | (simp only [List.length_append, List.length_cons, List.length_nil, List.length_replicate, List.length_map, List.length_take, List.length_drop, List.length_dropLast]; first | omega | (show _ ≤ 16777216; omega))))) | ((with_reducible refine' giv_addl ?s0 ?_); (case s0 => (first | assumption | decide | omega | (show _ ≤ 16777216; omega) | (show _ < 16777216; omega) | (simp only [List.length_append, List.length_cons, List.length_nil, List.length_replicate, List.length_map, List.length_take, List.length_drop, List.length_dropLast]; first | omega | (show _ ≤ 16777216; omega))))) | ((with_reducible refine' giv_ixl ?s0 ?_); (case s0 => (first | assumption | rfl | exact atI_zero))) | ((with_reducible refine' giv_ixt ?s0 ?_); (case s0 => (first | assumption | rfl | exact atI_zero))) | ((with_reducible refine' giv_ixs ?s0 ?s1 ?_); (case s0 => (first | assumption | decide | omega | (show _ ≤ 16777216; omega) | (show _ < 16777216; omega) | (simp only [List.length_append, List.length_cons, List.length_nil, List.length_replicate, List.length_map, List.length_take, List.length_drop, List.length_dropLast]; first | omega | (show _ ≤ 16777216; omega)))); (case s1 => (first | assumption | rfl))) | ((with_reducible refine' giv_dr4 ?s0 ?_); (case s0 => (assumption))) | ((with_reducible refine' giv_slm1 ?s0 ?_); (case s0 => (first | assumption | decide | omega | (show _ ≤ 16777216; omega) | (show _ < 16777216; omega) | (simp only [List.length_append, List.length_cons, List.length_nil, List.length_replicate, List.length_map, List.length_take, List.length_drop, List.length_dropLast]; first | omega | (show _ ≤ 16777216; omega))))) | ((with_reducible refine' giv_slt ?s0 ?s1 ?_); (case s0 => (first | assumption | decide | omega | (show _ ≤ 16777216; omega) | (show _ < 16777216; omega) | (simp only [List.length_append, List.length_cons, List.length_nil, List.length_replicate, List.length_map, List.length_take, List.length_drop, List.length_dropLast]; first | omega | (show _ ≤ 16777216; omega)))); (case s1 => (first | assumption | decide | omega))) | ((with_reducible refine' giv_sld ?s0 ?s1 ?_); (case s0 => (first | assumption | decide | omega | (show _ ≤ 16777216; omega) | (show _ < 16777216; omega) | (simp only [List.length_append, List.length_cons, List.length_nil, List.length_replicate, List.length_map, List.length_take, List.length_drop, List.length_dropLast]; first | omega | (show _ ≤ 16777216; omega)))); (case s1 => (first | assumption | decide | omega))) | ((with_reducible refine' giv_slm ?s0 ?s1 ?s2 ?_); (case s0 => (first | assumption | decide | omega | (show _ ≤ 16777216; omega) | (show _ < 16777216; omega) | (simp only [List.length_append, List.length_cons, List.length_nil, List.length_replicate, List.length_map, List.length_take, List.length_drop, List.length_dropLast]; first | omega | (show _ ≤ 16777216; omega)))); (case s1 => (first | assumption | decide | omega)); (case s2 => (first | assumption | decide | omega))) | ((with_reducible refine' giv_sltl ?s0 ?_); (case s0 => (first | assumption | decide | omega))) | ((with_reducible refine' giv_sldl ?s0 ?_); (case s0 => (first | assumption | decide | omega))) | ((with_reducible refine' giv_sls ?s0 ?_); (case s0 => (first | assumption | decide | omega | (show _ ≤ 16777216; omega) | (show _ < 16777216; omega) | (simp only [List.length_append, List.length_cons, List.length_nil, List.length_replicate, List.length_map, List.length_take, List.length_drop, List.length_dropLast]; first | omega | (show _ ≤ 16777216; omega))))) | with_reducible refine giv_sll ?_ | ((with_reducible refine' giv_lens ?s0 ?_); (case s0 => (first | assumption | decide | omega | (show _ ≤ 16777216; omega) | (show _ < 16777216; omega) | (simp only [List.length_append, List.length_cons, List.length_nil, List.length_replicate, List.length_map, List.length_take, List.length_drop, List.length_dropLast]; first | omega | (show _ ≤ 16777216; omega))))) | ((with_reducible refine' giv_revs ?s0 ?_); (case s0 => (first | assumption | decide | omega | (show _ ≤ 16777216; omega) | (show _ < 16777216; omega) | (simp only [List.length_append, List.length_cons, List.length_nil, List.length_replicate, List.length_map, List.length_take, List.length_drop, List.length_dropLast]; first | omega | (show _ ≤ 16777216; omega))))) | ((with_reducible refine' giv_sldT ?s0 ?s1 ?_); (case s0 => (first | assumption | decide | omega)); (case s1 => (first | assumption | decide | omega))) | ((with_reducible refine' giv_sltT ?s0 ?s1 ?_); (case s0 => (first | assumption | decide | omega)); (case s1 => (first | assumption | decide | omega))) | with_reducible refine giv_A ?_ | with_reducible refine giv_tup ?_ | with_reducible refine giv_tupt ?_ | ((with_reducible refine' giv_str ?s0 ?_); (case s0 => (first | assumption | decide | omega))) | with_reducible refine giv_strN ?_ | with_reducible refine giv_strS ?_ | ((with_reducible refine' giv_at ?s0 ?_); (case s0 => (rfl))) | with_reducible refine giv_isC ?_ | ((with_reducible refine' giv_orr ?s0 ?_); (case s0 => (rfl))) | with_reducible refine giv_orl ?_ | ((with_reducible refine' giv_own2 ?s0 ?s1 ?_); (case s0 => (exact isOf_obj)); (case s1 => (exact isOf_obj))) | ((with_reducible refine' giv_own1 ?s0 ?_); (case s0 => (exact isOf_obj))) | ((with_reducible refine' giv_ownIn ?s0 ?s1 ?_); (case s0 => (exact isOf_obj)); (case s1 => (rfl))) | with_reducible refine giv r_add1 ?_ | with_reducible refine giv r_sub ?_ | with_reducible refine giv r_lt ?_ | with_reducible refine giv r_lts ?_ | with_reducible refine giv r_le ?_ | with_reducible refine giv r_gt ?_ | with_reducible refine giv r_ge ?_ | with_reducible refine giv r_eqi ?_ | with_reducible refine giv r_eqs ?_ | with_reducible refine giv r_eqb ?_ | with_reducible refine giv r_nei ?_ | with_reducible refine giv r_nes ?_ | with_reducible refine giv r_neb ?_ | with_reducible refine giv r_isb ?_ | with_reducible refine giv r_ntb ?_ | with_reducible refine giv r_ins ?_ | with_reducible refine giv r_nis ?_ | with_reducible refine giv r_neg ?_ | with_reducible refine giv r_len2 ?_ | with_reducible refine giv r_len3 ?_ | with_reducible refine giv r_int1 ?_ | with_reducible refine giv r_fFind ?_ | with_reducible refine giv r_rev1 ?_ | with_reducible refine giv r_fIsi1 ?_ | with_reducible refine giv r_fIsi2 ?_ | with_reducible refine giv r_fIsi3 ?_ | with_reducible refine giv r_fIsi4 ?_ | with_reducible refine giv r_fIsi5 ?_ | with_reducible refine giv r_fIsi6 ?_ | with_reducible refine giv r_min2 ?_ | with_reducible refine giv r_max2 ?_ | with_reducible refine giv r_min3 ?_ | with_reducible refine giv r_isn1 ?_ | with_reducible refine giv r_isn2 ?_ | with_reducible refine giv r_isn3 ?_ | with_reducible refine giv r_isn4 ?_ | with_reducible refine giv r_isn5 ?_ | with_reducible refine giv r_ntn1 ?_ | with_reducible refine giv r_ntn2 ?_ | with_reducible refine giv r_ntn3 ?_ | with_reducible refine giv r_ntn4 ?_ | with_reducible refine giv r_ntn5 ?_ | with_reducible refine giv r_eqn1 ?_ | with_reducible refine giv r_eqn2 ?_ | with_reducible refine giv q_isi_tuple_non ?_ | with_reducible refine giv q_isi_tuple_bl ?_ | with_reducible refine giv q_isi_tuple_int ?_ | with_reducible refine giv q_isi_tuple_str ?_ | with_reducible refine giv q_isi_tuple_lst ?_ | with_reducible refine giv q_isi_tuple_tup ?_ | with_reducible refine giv q_isi_list_non ?_ | with_reducible refine giv q_isi_list_bl ?_ | with_reducible refine giv q_isi_list_int ?_ | with_reducible refine giv q_isi_list_str ?_ | with_reducible refine giv q_isi_list_lst ?_ | with_reducible refine giv q_isi_list_tup ?_ | with_reducible refine giv q_isi_str_non ?_ | with_reducible refine giv q_isi_str_bl ?_ | with_reducible refine giv q_isi_str_int ?_ | with_reducible refine giv q_isi_str_str ?_ | with_reducible refine giv q_isi_str_lst ?_ | with_reducible refine giv q_isi_str_tup ?_ | with_reducible refine giv q_isi_int_non ?_ | with_reducible refine giv q_isi_int_bl ?_ | with_reducible refine giv q_isi_int_int ?_ | with_reducible refine giv q_isi_int_str ?_ | with_reducible refine giv q_isi_int_lst ?_ | with_reducible refine giv q_isi_int_tup ?_ | with_reducible refine giv q_isi_bool_non ?_ | with_reducible refine giv q_isi_bool_bl ?_ | with_reducible refine giv q_isi_bool_int ?_ | with_reducible refine giv q_isi_bool_str ?_ | with_reducible refine giv q_isi_bool_lst ?_ | with_reducible refine giv q_isi_bool_tup ?_ | ((with_reducible refine' giv ?s0 ?_); (case s0 => (first | exact (rfl : _ = some (D.bl true)) | exact (rfl : _ = some (D.bl false))))) | ((with_reducible refine' giv_ixs_all ?s0 ?s1 ?s2 ?_); (case s0 => (first | assumption | decide | omega | (show _ ≤ 16777216; omega) | (show _ < 16777216; omega) | (simp only [List.length_append, List.length_cons, List.length_nil, List.length_replicate, List.length_map, List.length_take, List.length_drop, List.length_dropLast]; first | omega | (show _ ≤ 16777216; omega)))); (case s1 => (first | assumption | decide | omega)); (case s2 => (first | assumption | (refine Int.lt_of_lt_of_le (by assumption) ?_; decide) | (show _ < (_ : Int); omega) | (simp only [List.length_append, List.length_cons, List.length_nil]; omega))); intro _ _))) | ((with_reducible refine gBrn ?_); (first | with_reducible refine brn_t ?_ | with_reducible refine brn_f ?_ | with_reducible refine brn_nT ?_ | with_reducible refine brn_nF ?_ | with_reducible refine brn_nn ?_ | ((with_reducible refine' brn_dt ?s0 ?_); (case s0 => decide)) | ((with_reducible refine' brn_df ?s0 ?_); (case s0 => decide)) | ((with_reducible refine' brn_nt ?s0 ?_); (case s0 => decide)) | ((with_reducible refine' brn_nf ?s0 ?_); (case s0 => decide)))) | ((with_reducible refine gFv ?_); (first | ((with_reducible refine' fv_nextE ?s0 ?s1 ?_); (case s0 => assumption); (case s1 => (first | assumption | decide | omega)); intro _ _ _ _ _; (try dsimp only [puts, put, agI, outsOf, slOf, List.set_cons_zero, List.set_cons_succ, List.getElem?_cons_zero, List.getElem?_cons_succ, wipeR, backR, Option.getD_some, stl])) | ((with_reducible refine' fv_drawE ?s0 ?_); (case s0 => assumption); intro _ _) | with_reducible refine fv_signs ?_ | (walk_at "fn"))) | with_reducible refine ret_z ?_ | with_reducible refine ret_r ?_ | ((with_reducible refine' ret_b ?s0 ?_); (case s0 => (rfl))) | ((with_reducible refine' see2 ?s0 ?s1 ?_); (case s0 => (rfl)); (case s1 => (rfl))) | ((with_reducible refine' see1 ?s0 ?_); (case s0 => (rfl))) | ((with_reducible refine' sees ?s0 ?_); (case s0 => (rfl))) | ((with_reducible refine' obp ?s0 ?_); (case s0 => (first | exact isOb_obj rfl | exact isOb_obj (by decide)))) | with_reducible refine fbp ?_ | with_reducible refine fzp ?_ | with_reducible refine isI ?_ | with_reducible refine isB ?_ | with_reducible refine isBD ?_ | ((with_reducible refine' frzs' ?s0 (And.intro ?s1 ?_)); (case s0 => rfl); (case s1 => (first | decide | simp)); (try dsimp only [puts, put, agI, outsOf, slOf, List.set_cons_zero, List.set_cons_succ, List.getElem?_cons_zero, List.getElem?_cons_succ, wipeR, backR, Option.getD_some, stl])) | ((with_reducible refine' arg ?s0 ?s1 ?s2 ?_); (case s0 => (rfl)); (case s1 => (rfl)); (case s2 => (first | exact List.nodup_nil | exact nodup1 | simp [agI])); (try dsimp only [puts, put, agI, outsOf, slOf, List.set_cons_zero, List.set_cons_succ, List.getElem?_cons_zero, List.getElem?_cons_succ, wipeR, backR, Option.getD_some, stl])) | ((with_reducible refine' ex_asg ?s0 ?_); (case s0 => (first | rfl | assumption)); (try dsimp only [puts, put, agI, outsOf, slOf, List.set_cons_zero, List.set_cons_succ, List.getElem?_cons_zero, List.getElem?_cons_succ, wipeR, backR, Option.getD_some, stl])) | ((with_reducible refine' ex_asg' ?s0 ?_); (case s0 => (first | rfl | assumption)); (try dsimp only [puts, put, agI, outsOf, slOf, List.set_cons_zero, List.set_cons_succ, List.getElem?_cons_zero, List.getElem?_cons_succ, wipeR, backR, Option.getD_some, stl])) | ((with_reducible refine' ex_asg'' ?s0 ?_); (case s0 => (rfl)); (try dsimp only [puts, put, agI, outsOf, slOf, List.set_cons_zero, List.set_cons_succ, List.getElem?_cons_zero, List.getElem?_cons_succ, wipeR, backR, Option.getD_some, stl])) | ((with_reducible refine' ex_asgT ?s0 ?_); (case s0 => (rfl)); (try dsimp only [puts, put, agI, outsOf, slOf, List.set_cons_zero, List.set_cons_succ, List.getElem?_cons_zero, List.getElem?_cons_succ, wipeR, backR, Option.getD_some, stl])) | ((with_reducible refine' nbw_z ?_); (try dsimp only [puts, put, agI, outsOf, slOf, List.set_cons_zero, List.set_cons_succ, List.getElem?_cons_zero, List.getElem?_cons_succ, wipeR, backR, Option.getD_some, stl])) | ((with_reducible refine' nbw_r ?_); (try dsimp only [puts, put, agI, outsOf, slOf, List.set_cons_zero, List.set_cons_succ, List.getElem?_cons_zero, List.getElem?_cons_succ, wipeR, backR, Option.getD_some, stl])) | with_reducible refine add2_i ?_ | ((with_reducible refine' add2_s ?s0 ?_); (case s0 => (first | assumption | decide | omega | (show _ ≤ 16777216; omega) | (show _ < 16777216; omega) | (simp only [List.length_append, List.length_cons, List.length_nil, List.length_replicate, List.length_map, List.length_take, List.length_drop, List.length_dropLast]; first | omega | (show _ ≤ 16777216; omega))))) | ((with_reducible refine' add2_l ?s0 ?_); (case s0 => (first | assumption | decide | omega | (show _ ≤ 16777216; omega) | (show _ < 16777216; omega) | (simp only [List.length_append, List.length_cons, List.length_nil, List.length_replicate, List.length_map, List.length_take, List.length_drop, List.length_dropLast]; first | omega | (show _ ≤ 16777216; omega))))) | ((with_reducible refine' add2_t ?s0 ?_); (case s0 => (first | assumption | decide | omega | (show _ ≤ 16777216; omega) | (show _ < 16777216; omega) | (simp only [List.length_append, List.length_cons, List.length_nil, List.length_replicate, List.length_map, List.length_take, List.length_drop, List.length_dropLast]; first | omega | (show _ ≤ 16777216; omega))))) | ((with_reducible refine' own_at ?s0 (And.intro ?s1 ?_)); (case s0 => rfl); (case s1 => exact ⟨_, by assumption⟩); intro _ _; (try dsimp only [puts, put, agI, outsOf, slOf, List.set_cons_zero, List.set_cons_succ, List.getElem?_cons_zero, List.getElem?_cons_succ, wipeR, backR, Option.getD_some, stl])) | ((with_reducible refine gSv ?_); (first | with_reducible refine sv_asg_s ?_ | with_reducible refine sv_nx_s ?_ | with_reducible refine sv_ret_s ?_ | with_reducible refine sv_seq_s ?_ | with_reducible refine sv_drop_s ?_ | ((with_reducible refine' sv_app_s ?s0 ?_); (case s0 => (rfl))) | ((with_reducible refine' sv_app_l ?s0 ?_); (case s0 => (rfl))) | with_reducible refine sv_asg_l ?_ | with_reducible refine sv_if_l ?_ | with_reducible refine sv_ret_l ?_ | with_reducible refine sv_nx ?_ | with_reducible refine sv_asgT_s ?_ | with_reducible refine sv_asgT_l ?_ | with_reducible refine sv_set4_s ?_))))
local macro_rules | `(tactic| walk_at "b") => `(tactic| (first | ((with_reducible refine' giv_ixl_all ?s0 ?s1 ?_); (case s0 => (first | assumption | decide | omega)); (case s1 => (first | assumption | (refine Int.lt_of_lt_of_le (by assumption) ?_; decide) | (show _ < (_ : Int); omega) | (simp only [List.length_append, List.length_cons, List.length_nil]; omega))); repeat' (first | exact all_nil | refine all_cons ?_ ?_)) | ((with_reducible refine brn_d ?_ ?_) <;> intro _ <;> (first | (exfalso; omega) | skip)) | ((with_reducible refine brn_nd ?_ ?_) <;> intro _ <;> (first | (exfalso; omega) | skip)) | ((with_reducible refine brn_c ?_ ?_) <;> intro _ <;> (first | (exfalso; omega) | contradiction | (subst_vars; contradiction) | skip))))
local macro_rules | `(tactic| walk_at "n") => `(tactic| (try dsimp only [puts, put, agI, outsOf, slOf, List.map, List.set_cons_zero, List.set_cons_succ, List.getElem?_cons_zero, List.getElem?_cons_succ, wipeR, backR, Option.getD_some, List.replicate, List.cons_append, List.nil_append, List.append_eq, List.append_nil, Nat.reduceSub, FEnd, Ret, noBw, stl]))
local macro_rules | `(tactic| walk_at "g") => `(tactic| (repeat (walk_at "s1")))
local macro_rules | `(tactic| walk_at "gS") => `(tactic| (repeat (walk_at "s2")))
local macro_rules | `(tactic| walk_at "x") => `(tactic| (repeat' (first | (walk_at "s1") | (walk_at "b"))))
local macro_rules | `(tactic| walk_at "xS") => `(tactic| (repeat' (first | (walk_at "s2") | (walk_at "b"))))
namespace K84
open Sw L2
theorem next_eq : f_law_next = lawNext := rfl
theorem draw_eq : f_law_draw = lawDraw := rfl
theorem signs_eq : f_law_signs = lawSigns := rfl
abbrev Tri := List Nat × Int × Int
/-- a triple of a row -/
abbrev TD (p : Tri) : D := .tup [.str p.1, .int p.2.1, .int p.2.2]
abbrev NM (R : List Tri) : List D := R.map fun p => D.str p.1
/-- the answer -/
abbrev AN (t : List Nat) (s e : Int) (R : List Tri) : D := .obj "Answer" ["text", "start", "end", "row", "_names"] [.str t, .int s, .int e, .tup (R.map TD), .lst (NM R)]
section
variable {t : List Nat} {s e : Int} {R : List Tri} {n : List Nat} {Q : Vl → List (List D) → Prop}
theorem int_ok {i : Int} (q : Q (.fz (.bl true)) []) : Fv f_law_int [.da (.int i)] Q := by
  refine fv_fn rfl ?_
  walk_at "n"
  unfold b_law_int
  walk_at "g"
  walk_at "n"
  exact q
theorem len_ok (hR : R.length ≤ lim) (q : Q (.fz (.int R.length)) []) : Fv f_Answer_len [.da (AN t s e R)] Q := by
  refine fv_fn rfl ?_
  walk_at "n"
  unfold b_Answer_len
  walk_at "g"
  walk_at "n"
  simpa using q
theorem whole_ok (ht : t.length ≤ lim) (q : Q (.fz (.str (cutL t (some s) (some e)))) []) : Fv f_Answer_whole [.da (AN t s e R)] Q := by
  refine fv_fn rfl ?_
  walk_at "n"
  unfold b_Answer_whole
  walk_at "g"
  walk_at "n"
  exact q
theorem NM_flat (R : List Tri) : (NM R).all flatD = true := by
  rw [List.all_eq_true]
  intro x hx
  obtain ⟨p, _, rfl⟩ := List.mem_map.mp hx
  rfl
theorem fIn_strs (m : List Nat) (ts : List D) (h : ts.all flatD = true) : fIn (.str m) (.lst ts) = some (.bl (inD (.str m) ts)) := by
  have hf : (flatD (.str m) && ts.all flatD) = true := by
    rw [h]
    rfl
  have e0 : fInS (.str m) (.lst ts) = none := by
    unfold fInS
    split <;> simp_all
  show orF fInS (fInQ false) _ _ = _
  unfold orF
  rw [e0]
  unfold fInQ
  dsimp only
  rw [if_pos hf]
  simp
theorem inD_NM (n : List Nat) (R : List Tri) : inD (.str n) (NM R) = decide (n ∈ R.map (·.1)) := by
  rw [show NM R = (R.map (·.1)).map D.str by rw [List.map_map]; rfl, inD_strs]
theorem contains_ok (q : Q (.fz (.bl (decide (n ∈ R.map (·.1))))) []) : Fv f_Answer_contains [.da (AN t s e R), .da (.str n)] Q := by
  refine fv_fn rfl ?_
  walk_at "n"
  unfold b_Answer_contains
  walk_at "g"
  refine giv (fIn_strs n (NM R) (NM_flat R)) ?_
  rw [inD_NM]
  walk_at "g"
  walk_at "n"
  exact q
theorem gT3_ok {i j k : Nat} {x y z : D} {ρ : Rho} (hi : ioQ ρ[i]? = false) (hj : ioQ (ρ.set i (.d x))[j]? = false) (hk : ioQ ((ρ.set i (.d x)).set j (.d y))[k]? = false) : gT 3 (gsC (gN i) (gsC (gN j) (gsC (gN k) gsN))) (.tup [x, y, z]) ρ = some (((ρ.set i (.d x)).set j (.d y)).set k (.d z)) := by
  show (if [x, y, z].length = 3 then (asg i (.fz x) ρ).bind _ else none) = _
  rw [if_pos (show [x, y, z].length = 3 from rfl), asg_z hi]
  show (asg j (.fz y) (ρ.set i (.d x))).bind _ = _
  rw [asg_z hj]
  show (asg k (.fz z) ((ρ.set i (.d x)).set j (.d y))).bind _ = _
  rw [asg_z hk]
  rfl
/-- what span gives -/
def spanD (R : List Tri) (n : List Nat) : D := match R.find? fun p => decide (p.1 = n) with
  | some p => .tup [.int p.2.1, .int p.2.2]
  | none => .non
theorem span_ok (q : Q (.fz (spanD R n)) []) : Fv f_Answer_span [.da (AN t s e R), .da (.str n)] Q := by
  refine fv_fn rfl ?_
  walk_at "n"
  unfold b_Answer_span
  refine sv_seq ?_
  refine sv_for (fun i ρ => ∃ x2 x3 x4 : Sl, ρ = [.d (AN t s e R), .d (.str n), x2, x3, x4] ∧ ((R.take i).find? fun p => decide (p.1 = n)) = none ∧ ioQ (some x2) = false ∧ ioQ (some x3) = false ∧ ioQ (some x4) = false) (ev_isqd (xs := R.map TD) ?_)
  walk_at "g"
  refine ⟨rfl, ⟨_, _, _, rfl, rfl, rfl, rfl, rfl⟩, ?_, ?_⟩
  · rintro i y hy ρ ⟨x2, x3, x4, rfl, hf, h2, h3, h4⟩
    rw [List.getElem?_map] at hy
    obtain ⟨p, hp, rfl⟩ := Option.map_eq_some_iff.mp hy
    refine ⟨_, gT3_ok (by exact h2) (by exact h3) (by exact h4), ?_⟩
    walk_at "n"
    refine sv_if_l ?_
    walk_at "g"
    by_cases h : p.1 = n
    · have e : R.find? (fun p => decide (p.1 = n)) = some p := by
        have hR : R = R.take i ++ p :: R.drop (i + 1) := by
          obtain ⟨hi, hp⟩ := List.getElem?_eq_some_iff.mp hp
          rw [← hp, List.getElem_cons_drop, List.take_append_drop]
        rw [hR, List.find?_append, hf]
        simp [List.find?_cons, h]
      rw [decide_eq_true h]
      walk_at "g"
      walk_at "n"
      unfold spanD at q
      rw [e] at q
      exact q
    · rw [decide_eq_false h]
      walk_at "g"
      refine ⟨_, _, _, rfl, ?_, rfl, rfl, rfl⟩
      rw [take_s hp, List.find?_append, hf]
      simp [List.find?_cons, h]
  · rintro ρ ⟨x2, x3, x4, rfl, hf, h2, h3, h4⟩
    rw [List.length_map, List.take_length] at hf
    unfold spanD at q
    rw [hf] at q
    walk_at "g"
    walk_at "n"
    exact q
theorem make_ok (hR : R.length ≤ lim) : g_Answer [.str t, .int s, .int e, .tup (R.map TD)] = some ((["text", "start", "end", "row", "_names"] : List PySem.Str), [.str t, .int s, .int e, .tup (R.map TD), .lst (NM R)]) := by
  unfold g_Answer
  rw [if_pos (show [D.str t, .int s, .int e, .tup (R.map TD)].length = 4 from rfl)]
  have h : Ev (eLc [5] (iSq (eVar 4)) (gN 5) tYesM (eBin fIx (eVar 5) (eC (.int 0)))) [.no, .d (.str t), .d (.int s), .d (.int e), .d (.tup (R.map TD)), .no] fun r ρ => r = .fr (NM R) ∧ ρ = [.no, .d (.str t), .d (.int s), .d (.int e), .d (.tup (R.map TD)), .no] := by
    refine ev_lcm R TD (fun p => .str p.1) rfl hR (fun q => ?_) (fun c hc Q' q' => ?_) ⟨rfl, rfl⟩
    · exact ev_isqd (ev_vd rfl ⟨_, rfl, rfl, q⟩)
    · walk_at "g"
      first | exact q' | exact ⟨rfl, q'⟩
  obtain ⟨r, ρ, e1, rfl, rfl⟩ := h
  unfold i_Answer iSeq iFld iNx
  show ((((eLc [5] (iSq (eVar 4)) (gN 5) tYesM (eBin fIx (eVar 5) (eC (.int 0))) [Sl.no, .d (.str t), .d (.int s), .d (.int e), .d (.tup (R.map TD)), .no]).bind _).bind _).bind _) = _
  rw [e1]
  rfl
theorem is_row_ok (q : Q (.fz (.bl true)) []) : Fv f_law_is_row [.da (.tup (R.map TD))] Q := by
  refine fv_fn rfl ?_
  walk_at "n"
  unfold b_law_is_row
  walk_at "g"
  refine sv_then (fun ρ => ∃ x1 : Sl, ρ = [.d (.tup (R.map TD)), x1]) (sv_for (fun i ρ => ∃ x1 : Sl, ρ = [.d (.tup (R.map TD)), x1] ∧ ioQ (some x1) = false) (ev_isqd (xs := R.map TD) ?_)) ?_
  · walk_at "g"
    refine ⟨rfl, ⟨_, rfl, rfl⟩, ?_, ?_⟩
    · rintro i y hy ρ ⟨x1, rfl, h1⟩
      rw [List.getElem?_map] at hy
      obtain ⟨p, hp, rfl⟩ := Option.map_eq_some_iff.mp hy
      refine ⟨_, asg_z (by exact h1), ?_⟩
      walk_at "n"
      walk_at "g"
      refine brn_df (fun z => by rcases z with z | z; · cases z
                                 · exact z rfl) ?_
      walk_at "g"
      refine int_ok ?_
      walk_at "g"
      refine int_ok ?_
      walk_at "g"
      exact ⟨_, rfl, rfl⟩
    · rintro ρ ⟨x1, rfl, h1⟩
      exact ⟨_, rfl⟩
  rintro ρ ⟨x1, rfl⟩
  walk_at "g"
  walk_at "n"
  exact q
theorem raise_s {ρ : Rho} {c f : PySem.Str} {i : Nat} {x : D} {s : S} {QS : Fl → Rho → Prop} (h : ρ[i]? = some (.d x)) (q : QS (.ex ⟨c, some (f, x)⟩) ρ) : Sv (sSeq (sRaise1 c f (eVar i)) s) ρ QS :=
  sv_raise1_s ⟨.fz x, ρ, by unfold eVar; rw [h], x, ρ, rfl, q⟩
theorem fIn_obj {c : PySem.Str} {ks : List PySem.Str} {xs : List D} : fIn (.str n) (.obj c ks xs) = none := by
  rcases n with _ | ⟨a, _ | ⟨b, l⟩⟩ <;> rfl
theorem fNi_obj {c : PySem.Str} {ks : List PySem.Str} {xs : List D} : fNi (.str n) (.obj c ks xs) = none := by
  rcases n with _ | ⟨a, _ | ⟨b, l⟩⟩ <;> rfl
/-- the piece of a group -/
theorem getitem_ok (ht : t.length ≤ lim) {p : Tri} (hp : R.find? (fun p => decide (p.1 = n)) = some p) (q : Q (.fz (.str (cutL t (some p.2.1) (some p.2.2)))) []) : Fv f_Answer_getitem [.da (AN t s e R), .da (.str n)] Q := by
  refine fv_fn rfl ?_
  walk_at "n"
  unfold b_Answer_getitem
  walk_at "g"
  refine span_ok ?_
  unfold spanD
  rw [hp]
  walk_at "g"
  walk_at "n"
  exact q
theorem getitem_ex (hn : n ∉ R.map (·.1)) : f_Answer_getitem [.da (AN t s e R), .da (.str n)] = none ∧ x_Answer_getitem [.da (AN t s e R), .da (.str n)] = some ⟨"UnknownGroup", some ("name", .str n)⟩ := by
  have hf : R.find? (fun p => decide (p.1 = n)) = none := by
    rw [List.find?_eq_none]
    intro p hp h
    exact hn (List.mem_map.mpr ⟨p, hp, of_decide_eq_true h⟩)
  have h : Sv b_Answer_getitem [.d (AN t s e R), .d (.str n), .no] fun fl ρ => fl = .ex ⟨"UnknownGroup", some ("name", .str n)⟩ := by
    unfold b_Answer_getitem
    walk_at "g"
    refine span_ok ?_
    unfold spanD
    rw [hf]
    walk_at "g"
    exact raise_s rfl rfl
  obtain ⟨fl, ρ, e1, rfl⟩ := h
  refine ⟨?_, ?_⟩
  · unfold f_Answer_getitem fnS
    simp only [List.length_cons, List.length_nil, Nat.reduceAdd, if_true, List.map, slOf, Nat.reduceSub, List.replicate, List.cons_append, List.nil_append, e1]
    first | rfl
  unfold x_Answer_getitem fnE
  rw [if_pos ⟨rfl, rfl⟩]
  show (b_Answer_getitem [.d (AN t s e R), .d (.str n), .no]).bind _ = _
  rw [e1]
  rfl
theorem eq_same {x : D} (h : shD x = true) (h0 : fEqS x x = none) : fEq x x = some (.bl true) := by
  show orF fEqS fEqD _ _ = _
  unfold orF
  rw [h0]
  exact eqD_same h
theorem giv_ownIx {c : PySem.Str} {f : Fn} {x y : D} {Q : D → Prop} (hx : isOf c x = true) (hy : notL y = true) (q : Fv f [.da x, .da y] fun r _ => ∃ z, r = .fz z ∧ Q z) : Giv (fOwnIx c f x y) Q := by
  obtain ⟨r, os, e, z, rfl, q⟩ := q
  refine ⟨z, ?_, q⟩
  unfold fOwnIx
  rw [hx, hy, if_pos (show (true && true) = true from rfl), e]
  rfl
theorem set_to_ok (ht : t.length ≤ lim) {p : Tri} (hp : R.find? (fun q => decide (q.1 = p.1)) = some p) (q : Q (.fz (.bl true)) []) : Fv f_law_set_to [.da (AN t s e R), .da (TD p), .da (.str t)] Q := by
  have hm : p.1 ∈ R.map (·.1) := List.mem_map.mpr ⟨p, List.mem_of_find?_eq_some hp, rfl⟩
  refine fv_fn rfl ?_
  walk_at "n"
  unfold b_law_set_to
  generalize hg : orF fNi (fOwnIn "Answer" f_Answer_contains true) = gni
  generalize hx : fOwnIx "Answer" f_Answer_getitem = gix
  walk_at "g"
  subst hg
  refine giv_orr fNi_obj (giv_ownIn isOf_obj rfl (contains_ok ⟨_, rfl, ?_⟩))
  rw [decide_eq_true hm, show (true != true) = false from rfl]
  walk_at "g"
  refine span_ok ?_
  unfold spanD
  rw [hp]
  walk_at "g"
  rw [show (!decide (((([D.int p.2.1, D.int p.2.2] : List D).length : Nat) : Int) = 2)) = false from rfl]
  walk_at "g"
  refine int_ok ?_
  walk_at "g"
  refine int_ok ?_
  walk_at "g"
  subst hx
  refine giv_ownIx isOf_obj rfl (getitem_ok ht hp ⟨_, rfl, ?_⟩)
  walk_at "g"
  refine giv (eq_same (shD_of rfl (by show max 0 (max 0 0) + 1 ≤ 64; decide)) rfl) ?_
  walk_at "g"
  walk_at "n"
  first | exact q | (simp only [decide_true]; exact q)
theorem unknown_ok (hn : n ∉ R.map (·.1)) (q : Q (.fz (.bl true)) []) : Fv f_law_unknown [.da (AN t s e R), .da (.str n)] Q := by
  obtain ⟨g1, g2⟩ := getitem_ex (t := t) (s := s) (e := e) hn
  refine fv_fn rfl ?_
  walk_at "n"
  unfold b_law_unknown
  walk_at "gS"
  refine sv_seq ?_
  refine sv_try ⟨.ex ⟨"UnknownGroup", some ("name", .str n)⟩, [.d (AN t s e R), .d (.str n), .d .non, .no], ?_, ?_⟩
  · have a1 : eBin (fOwnIx "Answer" f_Answer_getitem) (eVar 0) (eVar 1) [.d (AN t s e R), .d (.str n), .d .non, .no] = none := by
      show (fOwnIx "Answer" f_Answer_getitem (AN t s e R) (.str n)).bind _ = none
      unfold fOwnIx
      rw [isOf_obj, if_pos (show (true && notL (D.str n)) = true from rfl), g1]
      rfl
    unfold sX
    rw [xasg a1]
    show (if (isOf "Answer" (AN t s e R) && notL (.str n)) = true then (x_Answer_getitem [.da (AN t s e R), .da (.str n)]).bind _ else none).bind _ = _
    rw [isOf_obj, if_pos (show (true && notL (D.str n)) = true from rfl), g2]
    rfl
  · refine ⟨rfl, true, rfl, fun _ => ?_, fun z => by cases z⟩
    walk_at "n"
    walk_at "g"
    refine ev_isx rfl rfl (show xt "UnknownGroup" "UnknownGroup" = some true by decide +kernel) ?_
    walk_at "g"
    refine ev_isx rfl rfl (show xt "UnknownGroup" "ValueError" = some true by decide +kernel) ?_
    walk_at "g"
    refine ev_isx rfl rfl (show xAny (xt "UnknownGroup") ["PatternFault", "TemplateFault", "BadTree", "NotRegular", "NotPlain", "StreamClosed"] = some false by decide +kernel) ?_
    walk_at "g"
    refine ev_isx rfl rfl (show xAny (xt "UnknownGroup") ["OutOfSteps", "TooManyStates", "TooManyAnswers", "NoSuchText"] = some false by decide +kernel) ?_
    walk_at "g"
    refine ev_fldx rfl rfl ?_
    walk_at "g"
    refine ev_fldx rfl rfl ?_
    walk_at "g"
    refine ⟨fun y z => (nomatch z), ?_⟩
    show Q (.fz (.bl (decide (n = n)))) []
    rw [decide_eq_true rfl]
    exact q
end
end K84
namespace K84
open Sw L2
section
variable {t t' : List Nat} {s e s' e' : Int} {R R' : List Tri} {n : List Nat} {Q : Vl → List (List D) → Prop}
/-- the answer and another thing -/
theorem eq_no {y : D} (hy : fIsC "Answer" y = some (.bl false)) (q : Q (.fz (.bl false)) []) : Fv f_Answer_eq [.da (AN t s e R), .da y] Q := by
  refine fv_fn rfl ?_
  walk_at "n"
  unfold b_Answer_eq
  generalize hg : fIsC "Answer" = gi
  walk_at "g"
  subst hg
  refine giv hy ?_
  walk_at "g"
  walk_at "n"
  exact q
structure RowOk (R : List Tri) : Prop where
  len : R.length ≤ 16
  nd : (R.map (·.1)).Nodup
  ok : ∀ p ∈ R, ∀ c ∈ p.1, c < 55296
theorem TD_inj : ∀ p q : Tri, TD p = TD q → p = q := by
  rintro ⟨a, b, c⟩ ⟨a', b', c'⟩ h
  simp only [D.tup.injEq, List.cons.injEq, D.str.injEq, D.int.injEq, and_true] at h
  obtain ⟨h1, h2, h3⟩ := h
  rw [h1, h2, h3]
theorem map_inj {α : Type} {f : α → D} (inj : ∀ a b, f a = f b → a = b) : ∀ {xs ys : List α}, xs.map f = ys.map f → xs = ys
  | [], [], _ => rfl
  | [], y :: ys, h => by cases h
  | x :: xs, [], h => by cases h
  | x :: xs, y :: ys, h => by
    simp only [List.map_cons, List.cons.injEq] at h
    rw [inj _ _ h.1, map_inj inj h.2]
theorem rows_eq : D.tup (R.map TD) = .tup (R'.map TD) ↔ R = R' := ⟨fun h => map_inj TD_inj (by simpa using h), fun h => by rw [h]⟩
theorem okTD {p : Tri} (h : ∀ c ∈ p.1, c < 55296) : okD (TD p) = true := by
  show (p.1.all (fun c => decide (c < 55296)) && true) = true
  rw [Bool.and_true, List.all_eq_true]
  exact fun c hc => decide_eq_true (h c hc)
theorem okR (h : RowOk R) : okD (.tup (R.map TD)) = true := okDs_all fun x hx => by
  obtain ⟨p, hp, rfl⟩ := List.mem_map.mp hx
  exact okTD (h.ok p hp)
theorem dpR : dpD (.tup (R.map TD)) ≤ 2 := by
  show dpDs _ + 1 ≤ 2
  have : dpDs (R.map TD) ≤ 1 := dpDs_all fun x hx => by
    obtain ⟨p, hp, rfl⟩ := List.mem_map.mp hx
    exact Nat.le_refl 1
  omega
theorem shR (h : RowOk R) : shD (.tup (R.map TD)) = true := shD_of (okR h) (Nat.le_trans dpR (by decide))
theorem nbR : nbD (.tup (R.map TD)) = true := nbDs_all fun x hx => by
  obtain ⟨p, hp, rfl⟩ := List.mem_map.mp hx
  rfl
/-- two answers -/
theorem eq_ok (h : RowOk R) (h' : RowOk R') (q : Q (.fz (.bl (decide (t = t' ∧ s = s' ∧ e = e' ∧ R = R')))) []) : Fv f_Answer_eq [.da (AN t s e R), .da (AN t' s' e' R')] Q := by
  refine fv_fn rfl ?_
  walk_at "n"
  unfold b_Answer_eq
  walk_at "g"
  refine brn_d (fun z => ?_) (fun z => ?_)
  rotate_left
  · walk_at "g"
    walk_at "n"
    rw [decide_eq_false (fun h => z h.1)] at q
    exact q
  walk_at "g"
  refine brn_d (fun z2 => ?_) (fun z2 => ?_)
  rotate_left
  · walk_at "g"
    walk_at "n"
    rw [decide_eq_false (fun h => z2 h.2.1)] at q
    exact q
  walk_at "g"
  refine brn_d (fun z3 => ?_) (fun z3 => ?_)
  rotate_left
  · walk_at "g"
    walk_at "n"
    rw [decide_eq_false (fun h => z3 h.2.2.1)] at q
    exact q
  walk_at "g"
  refine giv (eq_dec (p := t = t' ∧ s = s' ∧ e = e' ∧ R = R') rfl (shR h) (shR h') nbR nbR ?_) ?_
  · rw [rows_eq]
    exact ⟨fun h => ⟨z, z2, z3, h⟩, fun h => h.2.2.2⟩
  walk_at "g"
  walk_at "n"
  exact q
abbrev V4 := List Nat × Int × Int × List Tri
/-- the values of an answer -/
abbrev DU (v : V4) : D := .tup [.str v.1, .int v.2.1, .int v.2.2.1, .tup (v.2.2.2.map TD)]
abbrev ANv (v : V4) : D := AN v.1 v.2.1 v.2.2.1 v.2.2.2
structure ValOk (v : V4) : Prop where
  tl : v.1.length ≤ 300
  tok : ∀ c ∈ v.1, c ∈ SGN
  s0 : 0 ≤ v.2.1
  se : v.2.1 ≤ v.2.2.1
  el : v.2.2.1 ≤ v.1.length
  row : RowOk v.2.2.2
theorem okT {t : List Nat} (h : ∀ c ∈ t, c ∈ SGN) : okD (.str t) = true := by
  have hs : ∀ c ∈ SGN, c < 55296 := by decide
  exact List.all_eq_true.mpr fun c hc => decide_eq_true (hs c (h c hc))
theorem shDU {v : V4} (h : ValOk v) : shD (DU v) = true := by
  refine shD_of ?_ ?_
  · show (okD (.str v.1) && (true && (true && (okD (.tup (v.2.2.2.map TD)) && true)))) = true
    rw [okT h.tok, okR h.row]
    rfl
  · show max 0 (max 0 (max 0 (max (dpD (.tup (v.2.2.2.map TD))) 0))) + 1 ≤ 64
    have := dpR (R := v.2.2.2)
    omega
theorem nbDU {v : V4} : nbD (DU v) = true := by
  show (true && (true && (true && (nbD (.tup (v.2.2.2.map TD)) && true)))) = true
  rw [nbR]
  rfl
theorem DU_inj {v w : V4} : DU v = DU w ↔ v = w := by
  obtain ⟨a, b, c, r⟩ := v
  obtain ⟨a', b', c', r'⟩ := w
  constructor
  · intro h
    simp only [D.tup.injEq, List.cons.injEq, D.str.injEq, D.int.injEq, and_true] at h
    obtain ⟨h1, h2, h3, h4⟩ := h
    rw [h1, h2, h3, map_inj TD_inj h4]
  · intro h
    rw [h]
theorem find_nd : ∀ {R : List Tri}, (R.map (·.1)).Nodup → ∀ {p : Tri}, p ∈ R → R.find? (fun q => decide (q.1 = p.1)) = some p
  | [], _, p, hp => by cases hp
  | a :: R, h, p, hp => by
    rw [List.map_cons, List.nodup_cons] at h
    rw [List.find?_cons]
    by_cases e : a.1 = p.1
    · rw [decide_eq_true e]
      rcases List.mem_cons.mp hp with rfl | hp
      · rfl
      · exact absurd (List.mem_map.mpr ⟨p, hp, e.symm⟩) h.1
    · rw [decide_eq_false e]
      rcases List.mem_cons.mp hp with rfl | hp
      · exact absurd rfl e
      · exact find_nd h.2 hp
theorem sh_strs {ns : List (List Nat)} (h : ∀ n ∈ ns, ∀ c ∈ n, c < 55296) : shD (.lst (ns.map .str)) = true := by
  refine shD_of (okDs_all fun x hx => ?_) ?_
  · obtain ⟨n, hn, rfl⟩ := List.mem_map.mp hx
    exact List.all_eq_true.mpr fun c hc => decide_eq_true (h n hn c hc)
  · show dpDs _ + 1 ≤ 64
    have : dpDs (ns.map .str) ≤ 0 := dpDs_all fun x hx => by
      obtain ⟨n, hn, rfl⟩ := List.mem_map.mp hx
      exact Nat.le_refl 0
    omega
theorem nb_strs {ns : List (List Nat)} : nbD (.lst (ns.map .str)) = true := nbDs_all fun x hx => by
  obtain ⟨n, hn, rfl⟩ := List.mem_map.mp hx
  rfl
theorem NM_strs (R : List Tri) : NM R = (R.map (·.1)).map .str := by rw [List.map_map]; rfl
theorem shNM (h : RowOk R) : shD (.lst (NM R)) = true := by
  rw [NM_strs]
  refine sh_strs fun n hn => ?_
  obtain ⟨p, hp, rfl⟩ := List.mem_map.mp hn
  exact h.ok p hp
theorem nbNM : nbD (.lst (NM R)) = true := by rw [NM_strs]; exact nb_strs
end
end K84
namespace K84
open Sw L2
section
variable {v : V4} {Q : Vl → List (List D) → Prop}
theorem ev_iOwnA {m : M Vl} {ρ : Rho} {Q : List D → Rho → Prop} (h : Ev m ρ fun r ρ1 => r = .fz (ANv v) ∧ Q (NM v.2.2.2) ρ1) : Ev (iOwn "Answer" "_names" m) ρ Q := by
  obtain ⟨r, ρ1, e, rfl, q⟩ := h
  refine ⟨_, ρ1, ?_, q⟩
  unfold iOwn
  rw [e]
  rfl
theorem ev_newOA {m : M Vl} {ρ : Rho} {Q : Vl → Rho → Prop} (hs : v.2.2.2.length ≤ 16) (h : Ev m ρ fun r ρ1 => r = .fz (ANv v) ∧ Q (.fr (NM v.2.2.2)) ρ1) : Ev (eNewO "Answer" "_names" f_Answer_len m) ρ Q := by
  obtain ⟨r, ρ1, e, rfl, q⟩ := h
  refine ⟨_, ρ1, ?_, q⟩
  have hl : lenOk f_Answer_len (ANv v) = true := by
    obtain ⟨r, os, e1, rfl⟩ : Fv f_Answer_len [.da (ANv v)] fun r os => r = .fz (.int v.2.2.2.length) := len_ok (Nat.le_trans hs (by decide)) rfl
    unfold lenOk
    rw [e1]
    exact decide_eq_true ⟨by omega, by omega⟩
  unfold eNewO
  rw [e]
  rw [Option.bind_some]
  dsimp only
  rw [if_pos hl]
  show (if (NM v.2.2.2).length < 16777216 then _ else _) = _
  rw [if_pos (by rw [List.length_map]; omega)]
theorem giv_lenO {c : PySem.Str} {f : Fn} {ks : List PySem.Str} {xs : List D} {Q : D → Prop} (q : Fv f [.da (.obj c ks xs)] fun r _ => ∃ z, r = .fz (.int z) ∧ (0 ≤ z ∧ z < 1000000000) ∧ Q (.int z)) : Giv (cLenO c f [.obj c ks xs]) Q := by
  obtain ⟨r, os, e, b, rfl, b0, q⟩ := q
  refine ⟨_, ?_, q⟩
  unfold cLenO
  show cOwnLen c f [.obj c ks xs] = _
  unfold cOwnLen
  show (if isOf c (D.obj c ks xs) = true then (f [.da (D.obj c ks xs)]).bind _ else none) = _
  rw [if_pos isOf_obj, e]
  exact if_pos b0
theorem giv_lenL {c : PySem.Str} {f : Fn} {s : List D} {Q : D → Prop} (q : Q (.int s.length)) : Giv (cLenO c f [.lst s]) Q := ⟨_, rfl, q⟩
theorem shows_ok (h : ValOk v) {A : List (List Nat)} (q : Q (.fz (.bl true)) []) : Fv f_law_shows [.da (ANv v), .da (DU v), .da (.lst (A.map .str))] Q := by
  have hR := h.row.len
  have rl : v.2.2.2.length ≤ lim := Nat.le_trans hR (by decide)
  have tl : v.1.length ≤ lim := Nat.le_trans h.tl (by decide)
  refine fv_fn rfl ?_
  walk_at "n"
  unfold b_law_shows
  refine sv_if_s ?_
  walk_at "g"
  refine int_ok ?_
  walk_at "g"
  refine int_ok ?_
  walk_at "gS"
  refine sv_if_s ?_
  walk_at "g"
  refine is_row_ok ?_
  walk_at "g"
  refine giv (z := .bl false) (ne_dec (p := True) rfl (shDU h) (shDU h) nbDU nbDU (iff_of_true rfl trivial)) ?_
  walk_at "gS"
  refine sv_if_s ?_
  walk_at "g"
  refine whole_ok tl ?_
  walk_at "g"
  refine whole_ok tl ?_
  walk_at "g"
  refine brn_nf rfl ?_
  walk_at "gS"
  refine ev_lcm v.2.2.2 TD (fun p => .str p.1) rfl rl (fun q' => ev_isqd (xs := v.2.2.2.map TD) ?_) (fun c hc Q' q' => ?_) ?_
  · walk_at "g"
    first | exact q' | exact ⟨rfl, q'⟩
  · walk_at "g"
    first | exact q' | exact ⟨rfl, q'⟩
  walk_at "gS"
  refine sv_if_s ?_
  generalize hgl : cLenO "Answer" f_Answer_len = gl
  walk_at "g"
  subst hgl
  refine giv_lenO ?_
  refine len_ok rl ?_
  refine ⟨_, rfl, ⟨by omega, by omega⟩, ?_⟩
  generalize hgl : cLenO "Answer" f_Answer_len = gl
  walk_at "g"
  subst hgl
  refine giv_lenL ?_
  walk_at "g"
  refine brn_nf ?_ ?_
  · rw [List.length_map]
  walk_at "g"
  refine ev_newOA hR ?_
  walk_at "g"
  refine ⟨rfl, ?_⟩
  walk_at "g"
  refine giv (z := .bl false) (ne_dec (p := True) rfl (shNM h.row) (shNM h.row) nbNM nbNM (iff_of_true rfl trivial)) ?_
  walk_at "g"
  refine ev_lcm v.2.2.2 (fun p => .str p.1) (fun p => .str p.1) rfl rl (fun q' => ev_iOwnA (v := v) ?_) (fun c hc Q' q' => ?_) ?_
  · walk_at "g"
    first | exact q' | exact ⟨rfl, q'⟩
  · walk_at "g"
    first | exact q' | exact ⟨rfl, q'⟩
  walk_at "g"
  refine giv (z := .bl false) (ne_dec (p := True) rfl (shNM h.row) (shNM h.row) nbNM nbNM (iff_of_true rfl trivial)) ?_
  walk_at "gS"
  refine sv_then (fun ρ => ∃ x4 : Sl, ρ = [.d (ANv v), .d (DU v), .d (.lst (A.map .str)), .ow (NM v.2.2.2), x4, .no])
    (sv_for (fun i ρ => ∃ x4 : Sl, ρ = [.d (ANv v), .d (DU v), .d (.lst (A.map .str)), .ow (NM v.2.2.2), x4, .no] ∧ ioQ (some x4) = false) (ev_isqd (xs := v.2.2.2.map TD) ?_)) ?_
  · walk_at "g"
    refine ⟨rfl, ⟨_, rfl, rfl⟩, ?_, ?_⟩
    · rintro i y hy ρ ⟨x4, rfl, h4⟩
      rw [List.getElem?_map] at hy
      obtain ⟨p, hp, rfl⟩ := Option.map_eq_some_iff.mp hy
      refine ⟨_, asg_z (by exact h4), ?_⟩
      walk_at "n"
      refine sv_if_l ?_
      walk_at "g"
      refine set_to_ok tl (find_nd h.row.nd (List.mem_of_getElem? hp)) ?_
      walk_at "g"
      exact ⟨_, rfl, rfl⟩
    · rintro ρ ⟨x4, rfl, h4⟩
      exact ⟨_, rfl⟩
  rintro ρ ⟨x4, rfl⟩
  refine sv_then (fun ρ => ∃ x5 : Sl, ρ = [.d (ANv v), .d (DU v), .d (.lst (A.map .str)), .ow (NM v.2.2.2), x4, x5])
    (sv_for (fun i ρ => ∃ x5 : Sl, ρ = [.d (ANv v), .d (DU v), .d (.lst (A.map .str)), .ow (NM v.2.2.2), x4, x5] ∧ ioQ (some x5) = false) (ev_isqd (xs := A.map .str) ?_)) ?_
  · walk_at "g"
    refine ⟨rfl, ⟨_, rfl, rfl⟩, ?_, ?_⟩
    · rintro i y hy ρ ⟨x5, rfl, h5⟩
      rw [List.getElem?_map] at hy
      obtain ⟨n, hp, rfl⟩ := Option.map_eq_some_iff.mp hy
      refine ⟨_, asg_z (by exact h5), ?_⟩
      walk_at "n"
      refine sv_if_l ?_
      generalize hg : orF fIn (fOwnIn "Answer" f_Answer_contains false) = gin
      walk_at "g"
      rw [NM_strs]
      refine ni_strs ?_
      walk_at "g"
      refine brn_nd (fun z => ?_) (fun z => ?_)
      · refine sv_if_l ?_
        walk_at "g"
        subst hg
        refine giv_orr fIn_obj (giv_ownIn isOf_obj rfl (contains_ok ⟨_, rfl, ?_⟩))
        rw [decide_eq_false z, show (false != false) = false from rfl]
        walk_at "g"
        refine span_ok ?_
        have hf : v.2.2.2.find? (fun p => decide (p.1 = n)) = none := by
          rw [List.find?_eq_none]
          intro p hp h
          exact z (List.mem_map.mpr ⟨p, hp, of_decide_eq_true h⟩)
        unfold spanD
        rw [hf]
        walk_at "g"
        refine unknown_ok z ?_
        walk_at "g"
        rw [← NM_strs]
        exact ⟨_, rfl, rfl⟩
      · walk_at "g"
        rw [← NM_strs]
        exact ⟨_, rfl, rfl⟩
    · rintro ρ ⟨x5, rfl, h5⟩
      exact ⟨_, rfl⟩
  rintro ρ ⟨x5, rfl⟩
  walk_at "g"
  walk_at "n"
  exact q
theorem fEq_objL {c : PySem.Str} {ks : List PySem.Str} {xs : List D} {y : D} (h : fEqS (.obj c ks xs) y = none) : fEq (.obj c ks xs) y = none := by
  show orF fEqS fEqD _ _ = _
  unfold orF
  rw [h]
  rfl
theorem fEq_objR {c : PySem.Str} {ks : List PySem.Str} {xs : List D} {x : D} (h : fEqS x (.obj c ks xs) = none) : fEq x (.obj c ks xs) = none := by
  show orF fEqS fEqD _ _ = _
  unfold orF
  rw [h]
  show fEqD _ _ = _
  unfold fEqD
  rw [show shD (D.obj c ks xs) = false from rfl, Bool.and_false]
  rfl
theorem orF_none {f g : D → D → Option D} {x y : D} (h1 : f x y = none) (h2 : g x y = none) : orF f g x y = none := by
  unfold orF
  rw [h1]
  exact h2
theorem own_no {x y : D} (h : isOf "Answer" x = false) : fOwnEq "Answer" f_Answer_eq x y = none := by
  unfold fOwnEq
  rw [h]
  rfl
theorem ownL_no {x y : D} (h : isOf "Answer" x = false) : fOwnEqL "Answer" f_Answer_eq x y = none := by
  unfold fOwnEqL
  rw [h]
  rfl
theorem own_lst {x : D} {ys : List D} : fOwnEq "Answer" f_Answer_eq x (.lst ys) = none := by
  unfold fOwnEq
  rw [show (isOf "Answer" x && (isOf "Answer" (.lst ys) || (!isO (.lst ys) && notL (.lst ys) && !fOwnEq.isScr (.lst ys)))) = false by cases isOf "Answer" x <;> rfl]
  rfl
theorem req_lst {y : D} {xs : List D} : fReqEq "Answer" f_Answer_eq (.lst xs) y = none := by
  unfold fReqEq
  rw [show (isOf "Answer" y && !isO (.lst xs) && notL (.lst xs)) = false by cases isOf "Answer" y <;> rfl]
  rfl
abbrev OPE : D → D → Option D := orF (orF (orF (orF fEq (fOwnEq "Answer" f_Answer_eq)) (fOwnEqL "Answer" f_Answer_eq)) (fReqEq "Answer" f_Answer_eq)) (fReqEqL "Answer" f_Answer_eq)
theorem apL {y : D} (hO : isO y = false) (hs : ∀ xs, y ≠ .scr xs) {Q : D → Prop} (q : Q (.bl false)) : Giv (OPE (ANv v) y) Q := by
  cases y with
  | lst ys => exact giv_orl (giv_orl (giv_orr (orF_none (fEq_objL rfl) own_lst) (giv_ownEqL isOf_obj (eq_no rfl ⟨_, rfl, q⟩))))
  | obj => cases hO
  | scr xs => exact absurd rfl (hs xs)
  | _ => exact giv_orl (giv_orl (giv_orl (giv_orr (fEq_objL rfl) (giv_ownEqV isOf_obj rfl (eq_no rfl ⟨_, rfl, q⟩)))))
theorem apR {y : D} (hO : isO y = false) (hs : ∀ xs, y ≠ .scr xs) {Q : D → Prop} (q : Q (.bl false)) : Giv (OPE y (ANv v)) Q := by
  cases y with
  | lst ys => exact giv_orr (orF_none (orF_none (orF_none (fEq_objR rfl) (own_no rfl)) (ownL_no rfl)) req_lst) (giv_reqEqL isOf_obj (eq_no rfl ⟨_, rfl, q⟩))
  | obj => cases hO
  | scr xs => exact absurd rfl (hs xs)
  | _ => exact giv_orl (giv_orr (orF_none (orF_none (fEq_objR rfl) (own_no rfl)) (ownL_no rfl)) (giv_reqEq isOf_obj rfl (eq_no rfl ⟨_, rfl, q⟩)))
def PlO (y : D) : Prop := isO y = false ∧ ∀ xs, y ≠ .scr xs
theorem apart_ok (h : ValOk v) (q : Q (.fz (.bl true)) []) : Fv f_law_apart [.da (ANv v), .da (DU v)] Q := by
  have hR := h.row.len
  have rl : v.2.2.2.length ≤ lim := Nat.le_trans hR (by decide)
  have tl : v.1.length ≤ lim := Nat.le_trans h.tl (by decide)
  refine fv_fn rfl ?_
  walk_at "n"
  unfold b_law_apart
  walk_at "g"
  refine ev_lcm v.2.2.2 TD (fun p => .str p.1) rfl rl (fun q' => ev_isqd (xs := v.2.2.2.map TD) ?_) (fun c hc Q' q' => ?_) ?_
  · walk_at "g"
    first | exact q' | exact ⟨rfl, q'⟩
  · walk_at "g"
    first | exact q' | exact ⟨rfl, q'⟩
  walk_at "g"
  refine sv_then (fun ρ => ∃ x2 x3 : Sl, ρ = [.d (ANv v), .d (DU v), x2, x3, .no])
    (sv_for (fun i ρ => ∃ x2 x3 : Sl, ρ = [.d (ANv v), .d (DU v), x2, x3, .no] ∧ ioQ (some x3) = false) (ev_isq ?_)) ?_
  · generalize hsl : fSlA = gsl
    walk_at "g"
    refine ev_new ?_
    walk_at "g"
    refine ⟨_, _, rfl, rfl, ?_⟩
    walk_at "g"
    subst hsl
    refine giv_sldT (by decide) (Nat.succ_pos _) ?_
    walk_at "g"
    refine ⟨_, _, _, rfl, rfl, ⟨_, _, rfl, rfl⟩, ?_, ?_⟩
    · rintro i y hy ρ ⟨x2, x3, rfl, h3⟩
      have hm := List.mem_of_getElem? hy
      have hP : PlO y := by
        simp only [List.mem_cons, List.not_mem_nil, or_false] at hm
        rcases hm with rfl | rfl | rfl | rfl | rfl | rfl | rfl | rfl | rfl | rfl <;> exact ⟨rfl, fun _ h => by cases h⟩
      refine ⟨_, asg_z (by exact h3), ?_⟩
      walk_at "n"
      refine sv_if_l ?_
      generalize hop : orF (orF (orF (orF fEq (fOwnEq "Answer" f_Answer_eq)) (fOwnEqL "Answer" f_Answer_eq)) (fReqEq "Answer" f_Answer_eq)) (fReqEqL "Answer" f_Answer_eq) = op
      walk_at "g"
      subst hop
      refine apL hP.1 hP.2 ?_
      generalize hop : orF (orF (orF (orF fEq (fOwnEq "Answer" f_Answer_eq)) (fOwnEqL "Answer" f_Answer_eq)) (fReqEq "Answer" f_Answer_eq)) (fReqEqL "Answer" f_Answer_eq) = op
      walk_at "g"
      subst hop
      refine apR hP.1 hP.2 ?_
      walk_at "g"
      exact ⟨_, _, rfl, rfl⟩
    · rintro ρ ⟨x2, x3, rfl, h3⟩
      exact ⟨_, _, rfl⟩
  rintro ρ ⟨x2, x3, rfl⟩
  walk_at "g"
  walk_at "n"
  exact q
end
end K84
namespace K84
open Sw L2
theorem letters_eq : f_law_letters = lawLetters := rfl
theorem SGN_lim : SGN.length ≤ lim := by rw [SGN_len]; decide
section
variable {xs : List D} {ed : Int} {Q : Vl → List (List D) → Prop}
structure NameOk (n : List Nat) : Prop where
  lo : 1 ≤ n.length
  hi : n.length ≤ 12
  ok : ∀ c ∈ n, c < 55296
theorem T1ok : ∀ c ∈ tx_abcdefghijklmn3, c < 55296 := by decide
theorem T2ok : ∀ c ∈ tx_abcdefghijklmn3 ++ tx_0123456789, c < 55296 := by decide
theorem T3ok : ∀ c ∈ tx_abcdefghijklmn2, c < 55296 := by decide
theorem T1len : tx_abcdefghijklmn3.length = 26 := by decide
theorem T2len : (tx_abcdefghijklmn3 ++ tx_0123456789).length = 37 := by decide
theorem T3len : tx_abcdefghijklmn2.length = 37 := by decide
theorem new_name_ok (h : DrE ed xs) (q : ∀ n ys, NameOk n → DrE ed ys → Q (.fz (.str n)) [ys]) : Fv f_law_new_name [.li xs] Q := by
  have l1 := T1len
  have l2 := T2len
  have o1 := T1ok
  have o2 := T2ok
  refine fv_fn rfl ?_
  walk_at "n"
  unfold b_law_new_name
  rw [next_eq]
  generalize tx_abcdefghijklmn3 = t1 at l1 l2 o1 o2 ⊢
  generalize tx_0123456789 = t0 at l2 o2 ⊢
  generalize ht2 : t1 ++ t0 = t2 at l2 o2
  have l0 : t0.length = 11 := by
    rw [← ht2, List.length_append] at l2
    omega
  walk_at "gS"
  rw [ht2]
  rename_i c hc
  refine sv_then (fun ρ => ∃ (n : List Nat) (ys : List D) (x4 : Sl), ρ = [.io ys, .d (.str t1), .d (.str t2), .d (.str n), x4] ∧ NameOk n ∧ DrE ed ys)
    (sv_for (fun i ρ => ∃ (n : List Nat) (ys : List D) (x4 : Sl), ρ = [.io ys, .d (.str t1), .d (.str t2), .d (.str n), x4] ∧ (n.length = i + 1 ∧ ∀ c ∈ n, c < 55296) ∧ DrE ed ys ∧ ioQ (some x4) = false) (ev_ir1 ?_)) ?_
  · walk_at "g"
    rename_i r ys r0 r1 hd
    refine ⟨_, rfl, by omega, by omega, ⟨_, _, _, rfl, ⟨rfl, fun d hd => by rw [List.mem_singleton.mp hd]; exact o1 c hc⟩, hd, rfl⟩, ?_, ?_⟩
    · rintro i y hy ρ ⟨n, ys, x4, rfl, ⟨hn, on⟩, hd, h4⟩
      have hi := (rngL_get hy).1
      have nl : n.length ≤ 100 := by omega
      refine ⟨_, asg_z (by exact h4), ?_⟩
      walk_at "n"
      walk_at "g"
      rename_i r2 ys2 r20 r21 hd2 c2 hc2
      exact ⟨_, _, _, rfl, ⟨by rw [List.length_append, hn]; rfl, fun d hd => by
        rcases List.mem_append.mp hd with hd | hd
        · exact on d hd
        · rw [List.mem_singleton.mp hd]; exact o2 c2 hc2⟩, hd2, rfl⟩
    · rintro ρ ⟨n, ys, x4, rfl, ⟨hn, on⟩, hd, h4⟩
      rw [rngL_len] at hn
      exact ⟨_, _, _, rfl, ⟨by omega, by omega, on⟩, hd⟩
  rintro ρ ⟨n, ys, x4, rfl, hn, hd⟩
  walk_at "g"
  walk_at "n"
  exact q _ _ hn hd
theorem near_name_ok {n : List Nat} (hn : NameOk n) (h : DrE ed xs) (q : ∀ n ys, NameOk n → DrE ed ys → Q (.fz (.str n)) [ys]) : Fv f_law_near_name [.li xs, .da (.str n)] Q := by
  have l3 := T3len
  have o3 := T3ok
  have nl := hn.lo
  have nh := hn.hi
  have no := hn.ok
  refine fv_fn rfl ?_
  walk_at "n"
  unfold b_law_near_name
  rw [next_eq]
  generalize tx_abcdefghijklmn2 = t3 at l3 o3 ⊢
  walk_at "gS"
  refine sv_if_s ?_
  walk_at "g"
  refine brn_d (fun z => ?_) (fun z => ?_)
  · walk_at "g"
    walk_at "n"
    refine q _ _ ⟨?_, ?_, ?_⟩ (by assumption)
    · rw [List.length_take]; omega
    · rw [List.length_take]; omega
    · exact fun c hc => no c (List.mem_of_mem_take hc)
  walk_at "gS"
  refine sv_if_s ?_
  walk_at "g"
  refine brn_d (fun z => ?_) (fun z => ?_)
  · walk_at "g"
    walk_at "n"
    rename_i c hc
    refine q _ _ ⟨?_, ?_, ?_⟩ (by assumption)
    · rw [List.length_append]; omega
    · rw [List.length_append, List.length_singleton]; omega
    · intro d hd
      rcases List.mem_append.mp hd with hd | hd
      · exact no d hd
      · rw [List.mem_singleton.mp hd]; exact o3 c hc
  walk_at "g"
  walk_at "n"
  rename_i c hc
  refine q _ _ ⟨?_, ?_, ?_⟩ (by assumption)
  · simp only [List.length_append, List.length_take, List.length_drop, List.length_singleton]; omega
  · simp only [List.length_append, List.length_take, List.length_drop, List.length_singleton]; omega
  · intro d hd
    rcases List.mem_append.mp hd with hd | hd
    · rcases List.mem_append.mp hd with hd | hd
      · exact no d (List.mem_of_mem_take hd)
      · rw [List.mem_singleton.mp hd]; exact o3 c hc
    · exact no d (List.mem_of_mem_drop hd)
/-- a list of names -/
structure NamesOk (L : List (List Nat)) (k : Nat) : Prop where
  lo : 1 ≤ L.length
  hi : L.length ≤ k
  nd : L.Nodup
  ok : ∀ n ∈ L, NameOk n
theorem sort_names {L : List (List Nat)} {k : Nat} (hk : k ≤ 1000) (h : NamesOk L k) : ∃ M, sortG (L.map D.str) = some (M.map .str) ∧ NamesOk M k := by
  have e := sortG_of (xs := L.map D.str) (fun x hx => by
      obtain ⟨n, hn, rfl⟩ := List.mem_map.mp hx
      exact List.all_eq_true.mpr fun c hc => decide_eq_true ((h.ok n hn).ok c hc)) (fun x hx => by
      obtain ⟨n, hn, rfl⟩ := List.mem_map.mp hx
      exact Nat.zero_le _) (.inr fun x hx => by
      obtain ⟨n, hn, rfl⟩ := List.mem_map.mp hx
      rfl) (fun x hx y hy => by
      obtain ⟨n, hn, rfl⟩ := List.mem_map.mp hx
      obtain ⟨m, hm, rfl⟩ := List.mem_map.mp hy
      exact alike_str) (by have := h.hi; rw [List.length_map]; show _ ≤ 16777216; omega)
  obtain ⟨M, eM, pM⟩ := perm_map (f := D.str) (fun a b h => by cases h; rfl) (sortE_perm (L.map D.str))
  rw [eM] at e
  refine ⟨M, e, ?_, ?_, pM.nodup_iff.mpr h.nd, fun n hn => h.ok n (pM.subset hn)⟩
  · rw [pM.length_eq]; exact h.lo
  · rw [pM.length_eq]; exact h.hi
theorem names_ok (h : DrE ed xs) (q : ∀ L ys, NamesOk L 7 → DrE ed ys → Q (.fr (L.map .str)) [ys]) : Fv f_law_names [.li xs] Q := by
  refine fv_fn rfl ?_
  walk_at "n"
  unfold b_law_names
  rw [next_eq]
  walk_at "gS"
  refine new_name_ok h fun n0 ys0 hn0 hd0 => ?_
  walk_at "gS"
  refine sv_then (fun ρ => ∃ (L : List (List Nat)) (ys : List D) (x2 x3 : Sl), ρ = [.io ys, .ow (L.map .str), x2, x3] ∧ NamesOk L 7 ∧ DrE ed ys)
    (sv_for (fun i ρ => ∃ (L : List (List Nat)) (ys : List D) (x2 x3 : Sl), ρ = [.io ys, .ow (L.map .str), x2, x3] ∧ NamesOk L (i + 1) ∧ DrE ed ys ∧ ioQ (some x2) = false ∧ ioQ (some x3) = false) (ev_ir1 ?_)) ?_
  · walk_at "g"
    rename_i r ys r0 r1 hd
    refine ⟨_, rfl, by omega, by omega, ⟨[n0], _, _, _, rfl, ⟨Nat.le_refl 1, Nat.le_refl 1, by simp, fun n hn => by rw [List.mem_singleton.mp hn]; exact hn0⟩, hd, rfl, rfl⟩, ?_, ?_⟩
    · rintro i y hy ρ ⟨L, ys, x2, x3, rfl, hL, hd, h2, h3⟩
      have hi := (rngL_get hy).1
      have lo := hL.lo
      have hh := hL.hi
      have lm : (L.map D.str).length = L.length := List.length_map ..
      refine ⟨_, asg_z (by exact h2), ?_⟩
      walk_at "n"
      walk_at "gS"
      rename_i r2 ys2 r20 r21 hd2
      rw [List.length_map] at r21
      refine giv_ixl_all r20 (by rw [List.length_map]; exact r21) (fun x hx => ?_)
      obtain ⟨n, hn, rfl⟩ := List.mem_map.mp hx
      walk_at "gS"
      refine near_name_ok (hL.ok n hn) (by assumption) fun n1 ys1 hn1 hd1 => ?_
      walk_at "gS"
      refine sv_then (fun ρ => ∃ (n : List Nat) (ys : List D) (x2 : Sl), ρ = [.io ys, .ow (L.map .str), x2, .d (.str n)] ∧ NameOk n ∧ DrE ed ys ∧ ioQ (some x2) = false) ?_ ?_
      · walk_at "g"
        refine brn_d (fun z => ?_) (fun z => ?_)
        · walk_at "g"
          refine new_name_ok (by assumption) fun n2 ys2 hn2 hd2 => ?_
          walk_at "g"
          exact ⟨_, _, _, rfl, hn2, hd2, rfl⟩
        · walk_at "g"
          exact ⟨_, _, _, rfl, hn1, by assumption, rfl⟩
      rintro ρ ⟨n3, ys3, x2', rfl, hn3, hd3, h2'⟩
      refine sv_if_l ?_
      walk_at "g"
      refine ni_strs ?_
      walk_at "g"
      refine brn_nd (fun z => ?_) (fun z => ?_)
      · walk_at "g"
        refine app rfl rfl (by rw [List.length_map]; show _ < 16777216; omega) ?_
        refine ⟨L ++ [n3], _, _, _, by rw [List.map_append]; rfl, ⟨by rw [List.length_append]; omega, by rw [List.length_append, List.length_singleton]; omega, ?_, ?_⟩, hd3, h2', rfl⟩
        · rw [List.nodup_append]
          exact ⟨hL.nd, by simp, fun a ha b hb e => z (by rw [List.mem_singleton.mp hb] at e; rw [← e]; exact ha)⟩
        · intro n hn
          rcases List.mem_append.mp hn with hn | hn
          · exact hL.ok n hn
          · rw [List.mem_singleton.mp hn]; exact hn3
      · walk_at "g"
        exact ⟨L, _, _, _, rfl, ⟨lo, by omega, hL.nd, hL.ok⟩, hd3, h2', rfl⟩
    · rintro ρ ⟨L, ys, x2, x3, rfl, hL, hd, h2, h3⟩
      rw [rngL_len] at hL
      exact ⟨L, _, _, _, rfl, ⟨hL.lo, by have := hL.hi; omega, hL.nd, hL.ok⟩, hd⟩
  rintro ρ ⟨L, ys, x2, x3, rfl, hL, hd⟩
  obtain ⟨M, e, hM⟩ := sort_names (by decide) hL
  refine sv_ret_l (ev_sortG ?_)
  walk_at "g"
  refine ⟨_, _, _, rfl, rfl, e, ?_⟩
  walk_at "g"
  walk_at "n"
  exact q _ _ hM hd
end
end K84
namespace K84
open Sw L2
section
variable {xs : List D} {ed : Int} {Q : Vl → List (List D) → Prop}
theorem sort_rows {R : List Tri} (h : RowOk R) : ∃ R', sortG (R.map TD) = some (R'.map TD) ∧ R'.Perm R ∧ RowOk R' := by
  have e := sortG_of (xs := R.map TD) (fun x hx => by
      obtain ⟨p, hp, rfl⟩ := List.mem_map.mp hx
      exact okTD (h.ok p hp)) (fun x hx => by
      obtain ⟨p, hp, rfl⟩ := List.mem_map.mp hx
      show 1 ≤ 8
      decide) (.inl fun x hx => by
      obtain ⟨p, hp, rfl⟩ := List.mem_map.mp hx
      rfl) (fun x hx y hy => by
      obtain ⟨p, hp, rfl⟩ := List.mem_map.mp hx
      obtain ⟨p', hp', rfl⟩ := List.mem_map.mp hy
      simp [toP, toPs, PySem.W.alike, PySem.W.alikeAll]) (by have := h.len; rw [List.length_map]; show _ ≤ 16777216; omega)
  obtain ⟨M, eM, pM⟩ := perm_map TD_inj (sortE_perm (R.map TD))
  rw [eM] at e
  refine ⟨M, e, pM, ⟨by rw [pM.length_eq]; exact h.len, (pM.map _).nodup_iff.mpr h.nd, fun n hn => h.ok n (pM.subset hn)⟩⟩
theorem row_ok {L : List (List Nat)} (hL : NamesOk L 7) {s e : Int} (hse : s ≤ e) (h : DrE ed xs) (q : ∀ R ys, RowOk R → R.length ≤ 7 → DrE ed ys → Q (.fz (.tup (R.map TD))) [ys]) : Fv f_law_row [.li xs, .da (.lst (L.map .str)), .da (.int s), .da (.int e)] Q := by
  have l7 := hL.hi
  have ml : (L.map D.str).length ≤ 7 := by rw [List.length_map]; exact l7
  refine fv_fn rfl ?_
  walk_at "n"
  unfold b_law_row
  rw [next_eq]
  walk_at "gS"
  rename_i tn ys0 t0 t1 hd0
  have hZ : (L.map D.str).drop tn.toNat ++ (L.map D.str).take tn.toNat = (L.drop tn.toNat ++ L.take tn.toNat).map .str := by rw [List.map_append, List.map_drop, List.map_take]
  have pZ : (L.drop tn.toNat ++ L.take tn.toNat).Perm L := by
    refine List.perm_append_comm.trans ?_
    rw [List.take_append_drop]
  refine sv_then (fun ρ => ∃ (R : List Tri) (ys : List D) (x4 x5 x8 x9 x10 x11 x12 x13 : Sl), ρ = [.io ys, .d (.lst (L.map .str)), .d (.int s), .d (.int e), x4, x5, .ow (R.map TD), .d (.int tn), x8, x9, x10, x11, x12, x13] ∧ RowOk R ∧ R.length ≤ 7 ∧ DrE ed ys)
    (sv_for (fun i ρ => ∃ (R : List Tri) (ys : List D) (lo hi : Int) (x8 x9 x10 x11 x12 x13 : Sl), ρ = [.io ys, .d (.lst (L.map .str)), .d (.int s), .d (.int e), .d (.int lo), .d (.int hi), .ow (R.map TD), .d (.int tn), x8, x9, x10, x11, x12, x13] ∧ (R.map (·.1)).Sublist ((L.drop tn.toNat ++ L.take tn.toNat).take i) ∧ lo ≤ hi ∧ DrE ed ys ∧ ioQ (some x8) = false ∧ ioQ (some x9) = false ∧ ioQ (some x10) = false ∧ ioQ (some x11) = false ∧ ioQ (some x12) = false ∧ ioQ (some x13) = false) (ev_isq ?_)) ?_
  · walk_at "g"
    generalize hz : L.drop tn.toNat ++ L.take tn.toNat = Z at hZ pZ ⊢
    have lZ : Z.length ≤ 7 := by rw [pZ.length_eq]; exact l7
    refine ⟨_, _, _, rfl, rfl, ?_⟩
    rw [hZ]
    refine ⟨⟨[], _, _, _, _, _, _, _, _, _, rfl, List.nil_sublist _, hse, hd0, rfl, rfl, rfl, rfl, rfl, rfl⟩, ?_, ?_⟩
    · rintro i y hy ρ ⟨R, ys, lo, hi, x8, x9, x10, x11, x12, x13, rfl, hS, hlh, hd, h8, h9, h10, h11, h12, h13⟩
      rw [List.getElem?_map] at hy
      obtain ⟨n, hn, rfl⟩ := Option.map_eq_some_iff.mp hy
      have hRl : R.length ≤ 7 := by
        have h1 := hS.length_le
        rw [List.length_map, List.length_take] at h1
        omega
      refine ⟨_, asg_z (by exact h8), ?_⟩
      walk_at "n"
      refine sv_if_l ?_
      walk_at "g"
      refine brn_d (fun z => ?_) (fun z => ?_)
      · walk_at "gS"
        rename_i ra ysa a0 a1 hda rb ysb b0 b1 hdb
        refine app rfl rfl (by rw [List.length_map]; show _ < 16777216; omega) ?_
        have hS' : ∀ a b : Int, ((R ++ [(n, a, b)]).map (·.1)).Sublist (Z.take (i + 1)) := fun a b => by
          rw [List.map_append, take_s hn]
          exact hS.append (List.Sublist.refl _)
        generalize hmn : min (lo + ra) (lo + rb) = mn
        generalize hmx : max (lo + ra) (lo + rb) = mx
        have k1 : lo ≤ mn := by omega
        have k2 : mn ≤ mx := by omega
        have k3 : mx ≤ hi := by omega
        walk_at "gS"
        refine brn_d (fun z => ?_) (fun z => ?_)
        · walk_at "g"
          exact ⟨R ++ [(n, mn, mx)], _, _, _, _, _, _, _, _, _, by rw [List.map_append]; rfl, hS' _ _, k3, by assumption, rfl, rfl, rfl, rfl, rfl, rfl⟩
        · walk_at "g"
          refine brn_d (fun z => ?_) (fun z => ?_)
          · walk_at "g"
            exact ⟨R ++ [(n, mn, mx)], _, _, _, _, _, _, _, _, _, by rw [List.map_append]; rfl, hS' _ _, k1, by assumption, rfl, rfl, rfl, rfl, rfl, rfl⟩
          · walk_at "g"
            exact ⟨R ++ [(n, mn, mx)], _, _, _, _, _, _, _, _, _, by rw [List.map_append]; rfl, hS' _ _, k2, by assumption, rfl, rfl, rfl, rfl, rfl, rfl⟩
      · walk_at "g"
        exact ⟨R, _, _, _, _, _, _, _, _, _, rfl, by rw [take_s hn]; exact hS.trans (List.sublist_append_left _ _), hlh, by assumption, rfl, h9, h10, h11, h12, h13⟩
    · rintro ρ ⟨R, ys, lo, hi, x8, x9, x10, x11, x12, x13, rfl, hS, hlh, hd, h8, h9, h10, h11, h12, h13⟩
      rw [List.length_map, List.take_length] at hS
      refine ⟨R, _, _, _, _, _, _, _, _, _, rfl, ⟨?_, hS.nodup (pZ.nodup_iff.mpr hL.nd), ?_⟩, ?_, hd⟩
      · have := hS.length_le
        rw [List.length_map] at this
        omega
      · intro p hp
        exact (hL.ok _ (pZ.subset (hS.subset (List.mem_map.mpr ⟨p, hp, rfl⟩)))).ok
      · have := hS.length_le
        rw [List.length_map] at this
        omega
  rintro ρ ⟨R, ys, x4, x5, x8, x9, x10, x11, x12, x13, rfl, hR, hRl, hd⟩
  obtain ⟨R', eR, pR, hR'⟩ := sort_rows hR
  refine sv_ret_l (ev_blt (ev_acons (ev_sortG ?_)))
  walk_at "g"
  refine ⟨_, _, _, rfl, rfl, eR, ?_⟩
  walk_at "g"
  walk_at "n"
  exact q _ _ hR' (by rw [pR.length_eq]; exact hRl) hd
end
end K84
namespace K84
open Sw L2
section
variable {xs : List D} {ed : Int} {Q : Vl → List (List D) → Prop}
theorem values_ok {L : List (List Nat)} (hL : NamesOk L 7) (h : DrE ed xs) (q : ∀ v ys, ValOk v → v.2.2.2.length ≤ 7 → DrE ed ys → Q (.fz (DU v)) [ys]) : Fv f_law_values [.li xs, .da (.lst (L.map .str))] Q := by
  refine fv_fn rfl ?_
  walk_at "n"
  unfold b_law_values
  rw [next_eq, letters_eq, signs_eq]
  walk_at "gS"
  refine sv_then (fun ρ => ∃ (pool : List Nat) (ys : List D), ρ = [.io ys, .d (.lst (L.map .str)), .d (.str pool), .no, .no, .no, .no, .no, .no, .no] ∧ 0 < pool.length ∧ pool.length ≤ 96 ∧ (∀ c ∈ pool, c ∈ SGN) ∧ DrE ed ys) ?_ ?_
  · walk_at "g"
    refine brn_d (fun z => ?_) (fun z => ?_)
    · walk_at "g"
      refine fv_lettersE (by assumption) fun cs ys hcs hd => ?_
      walk_at "g"
      exact ⟨_, _, rfl, by rw [hcs.1]; decide, by rw [hcs.1]; decide, fun c hc => hcs.2.subset hc, hd⟩
    · walk_at "g"
      exact ⟨_, _, rfl, by rw [SGN_len]; decide, by rw [SGN_len]; decide, fun c hc => hc, by assumption⟩
  rintro ρ ⟨pool, ys1, rfl, p0, p96, pS, hd1⟩
  walk_at "gS"
  refine sv_then (fun ρ => ∃ (sz : Int) (ys : List D), ρ = [.io ys, .d (.lst (L.map .str)), .d (.str pool), .d (.int sz), .no, .no, .no, .no, .no, .no] ∧ 0 ≤ sz ∧ sz ≤ 300 ∧ DrE ed ys) ?_ ?_
  · walk_at "g"
    refine brn_d (fun z => ?_) (fun z => ?_)
    · walk_at "g"
      exact ⟨_, _, rfl, by omega, by omega, by assumption⟩
    · walk_at "g"
      exact ⟨_, _, rfl, by omega, by omega, by assumption⟩
  rintro ρ ⟨sz, ys2, rfl, z0, z1, hd2⟩
  have pl : pool.length ≤ lim := Nat.le_trans p96 (by decide)
  refine sv_asg_s (ev_met (ev_c (ev_acons (ev_lcR (e := ed) (fun ds => [.io ds, .d (.lst (L.map .str)), .d (.str pool), .d (.int sz), .no, .no, .no, .no, .no, .no]) (fun c => D.str [c]) (fun c => c ∈ pool) (fun xs => xs.length = sz.toNat) (fun _ => rfl) (fun xs h => by rw [h]; show _ ≤ 16777216; omega) (fun {Q'} q' => ev_ir1 ?_) (fun xs _ x hx ds hds Q' q' => ?_) (fun xs few ds' hx hf hin hd' => ?_)))))
  · walk_at "g"
    exact ⟨_, rfl, by omega, by omega, q' _ _ (by rw [rngL_len]) hd2⟩
  · walk_at "g"
    rename_i c hc
    exact q' _ _ hc (by assumption)
  have hfl : few.length ≤ 300 := by rw [hf, hx]; omega
  walk_at "g"
  refine giv_pick (by show _ ≤ 16777216; omega) ?_
  walk_at "g"
  rename_i a ya a0 a1 ha b yb b0 b1 hb
  refine row_ok hL (by omega) hb fun R ys hR hR7 hd => ?_
  walk_at "g"
  walk_at "n"
  have el : (few.length : Int) = sz := by rw [hf, hx]; omega
  exact q (few, min a b, max a b, R) _ ⟨hfl, fun c hc => pS c (hin c hc), by show 0 ≤ min a b; omega, by show min a b ≤ max a b; omega, by show max a b ≤ ((few.length : Nat) : Int); omega, hR⟩ hR7 hd
end
end K84
namespace K84
open Sw L2
section
variable {xs : List D} {ed : Int} {Q : Vl → List (List D) → Prop}
def Ok (v : V4) (cs : List V4) (k : Nat) : Prop := (∀ c ∈ cs, ValOk c ∧ c ≠ v) ∧ cs.length ≤ k
theorem Ok.add {v c : V4} {cs : List V4} {k : Nat} (h : Ok v cs k) (hc : ValOk c) (hn : c ≠ v) : Ok v (cs ++ [c]) (k + 1) := by
  refine ⟨fun d hd => ?_, by rw [List.length_append]; exact Nat.succ_le_succ h.2⟩
  rcases List.mem_append.mp hd with hd | hd
  · exact h.1 d hd
  · rw [List.mem_singleton.mp hd]; exact ⟨hc, hn⟩
theorem Ok.up {v : V4} {cs : List V4} {k k' : Nat} (h : Ok v cs k) (hk : k ≤ k') : Ok v cs k' := ⟨h.1, Nat.le_trans h.2 hk⟩
theorem mapDU {cs : List V4} {c : V4} : cs.map DU ++ [DU c] = (cs ++ [c]).map DU := by rw [List.map_append]; rfl
theorem g_at {i : Nat} (h : i < 96) : SGN[i]? = some (SGN[i]'(by rw [SGN_len]; exact h)) := List.getElem?_eq_getElem _
theorem sgn_nd : SGN.Nodup := ascl_nodup sgn_asc
/-- one sign exchanged -/
theorem exch_ne {t : List Nat} {k : Nat} (hk : k < t.length) {c : Nat} (hc : c ≠ t[k]) : t.take k ++ [c] ++ t.drop (k + 1) ≠ t := by
  intro h
  have h2 : (t.take k ++ [c] ++ t.drop (k + 1))[k]? = some c := by
    rw [List.append_assoc, List.getElem?_append_right (by rw [List.length_take]; omega), List.length_take]
    rw [show k - min k t.length = 0 by omega]
    rfl
  rw [h, List.getElem?_eq_getElem hk] at h2
  exact hc (Option.some.inj h2).symm
theorem eraseR_ok {R : List Tri} (h : RowOk R) (k : Nat) : RowOk (R.take k ++ R.drop (k + 1)) := by
  have hs : (R.take k ++ R.drop (k + 1)).Sublist R := by
    have : (R.take k ++ R.drop (k + 1)).Sublist (R.take k ++ R.drop k) := (List.Sublist.refl _).append (by
      rw [← List.drop_drop]
      exact List.drop_sublist 1 _)
    rwa [List.take_append_drop] at this
  exact ⟨Nat.le_trans hs.length_le h.len, (hs.map _).nodup h.nd, fun p hp => h.ok p (hs.subset hp)⟩
theorem setR_ok {R : List Tri} (h : RowOk R) {k : Nat} {p : Tri} (hk : R[k]? = some p) {a b : Int} : RowOk (R.take k ++ [(p.1, a, b)] ++ R.drop (k + 1)) ∧ ((p.2.1 ≠ a ∨ p.2.2 ≠ b) → R.take k ++ [(p.1, a, b)] ++ R.drop (k + 1) ≠ R) := by
  obtain ⟨hl, hp⟩ := List.getElem?_eq_some_iff.mp hk
  have e : R = R.take k ++ [p] ++ R.drop (k + 1) := by
    rw [← hp, List.append_assoc, List.singleton_append, List.getElem_cons_drop, List.take_append_drop]
  have em : (R.take k ++ [(p.1, a, b)] ++ R.drop (k + 1)).map (·.1) = R.map (·.1) := by
    conv => rhs; rw [e]
    simp only [List.map_append, List.map_cons, List.map_nil]
  refine ⟨⟨?_, by rw [em]; exact h.nd, fun x hx => ?_⟩, fun hne he => ?_⟩
  · have := congrArg List.length em
    rw [List.length_map, List.length_map] at this
    rw [this]; exact h.len
  · rcases List.mem_append.mp hx with hx | hx
    · rcases List.mem_append.mp hx with hx | hx
      · exact h.ok x (List.mem_of_mem_take hx)
      · rw [List.mem_singleton.mp hx]; exact h.ok p (List.mem_of_getElem? hk)
    · exact h.ok x (List.mem_of_mem_drop hx)
  · have h2 : (R.take k ++ [(p.1, a, b)] ++ R.drop (k + 1))[k]? = some (p.1, a, b) := by
      rw [List.append_assoc, List.getElem?_append_right (by rw [List.length_take]; omega), List.length_take]
      rw [show k - min k R.length = 0 by omega]
      rfl
    rw [he, hk] at h2
    have h3 := Option.some.inj h2
    rcases hne with z | z
    · exact z (by rw [h3])
    · exact z (by rw [h3])
theorem giv_addT {i j : List D} {Q : D → Prop} (h : i.length + j.length ≤ lim) (q : Q (.tup (i ++ j))) : Giv (fAdd (.tup i) (.tup j)) Q := by
  refine ⟨_, ?_, q⟩
  unfold fAdd orF fInt fCatS fCatL fCatT
  simp [h]
theorem changes_ok {L : List (List Nat)} (hL : NamesOk L 7) {v : V4} (hv : ValOk v) (hr : v.2.2.2.length ≤ 8) (h : DrE ed xs) (q : ∀ (cs : List V4) ys, (∀ c ∈ cs, ValOk c ∧ c ≠ v) → DrE ed ys → Q (.fr (cs.map DU)) [ys]) : Fv f_law_changes [.li xs, .da (DU v), .da (.lst (L.map .str))] Q := by
  obtain ⟨t, s, e, R⟩ := v
  have htl := hv.tl
  have hS := SGN_lim
  have t300 : t.length ≤ 300 := hv.tl
  have r8 : R.length ≤ 8 := hr
  have rl : R.length ≤ lim := Nat.le_trans r8 (by decide)
  have tl : t.length ≤ lim := Nat.le_trans t300 (by decide)
  have lL := hL.hi
  have s0 : 0 ≤ s := hv.s0
  have se : s ≤ e := hv.se
  have el : e ≤ t.length := hv.el
  have tok : ∀ c ∈ t, c ∈ SGN := hv.tok
  have row : RowOk R := hv.row
  refine fv_fn rfl ?_
  walk_at "n"
  unfold b_law_changes
  rw [next_eq, signs_eq]
  walk_at "gS"
  refine sv_then (fun ρ => ∃ (cs : List V4) (ys : List D), ρ = [.io ys, .d (DU (t, s, e, R)), .d (.lst (L.map .str)), .d (.str t), .d (.int s), .d (.int e), .d (.tup (R.map TD)), .d (.str SGN), .ow (cs.map DU), .no, .no, .no, .no, .no, .no] ∧ Ok (t, s, e, R) cs 1 ∧ DrE ed ys) ?_ ?_
  · walk_at "g"
    refine brn_d (fun z => ?_) (fun z => ?_)
    · walk_at "g"
      rename_i c hc
      refine app rfl rfl (by decide) ?_
      refine ⟨[(t ++ [c], s, e, R)], _, rfl, ⟨fun d hd => ?_, Nat.le_refl 1⟩, by assumption⟩
      rw [List.mem_singleton.mp hd]
      refine ⟨⟨?_, ?_, s0, se, ?_, row⟩, fun he => ?_⟩
      · show (t ++ [c]).length ≤ 300
        rw [List.length_append, List.length_singleton]; omega
      · intro d hd
        rcases List.mem_append.mp hd with hd | hd
        · exact tok d hd
        · rw [List.mem_singleton.mp hd]; exact hc
      · show e ≤ ((t ++ [c]).length : Nat)
        rw [List.length_append, List.length_singleton]; omega
      · have := congrArg (fun x : V4 => x.1.length) he
        simp only [List.length_append, List.length_singleton] at this
        omega
    · walk_at "g"
      exact ⟨[], _, rfl, ⟨fun d hd => absurd hd List.not_mem_nil, Nat.zero_le _⟩, by assumption⟩
  rintro ρ ⟨cs1, ys1, rfl, hc1, hd1⟩
  have lc1 := hc1.2
  refine sv_then (fun ρ => ∃ (cs : List V4) (ys : List D) (x12 x13 : Sl), ρ = [.io ys, .d (DU (t, s, e, R)), .d (.lst (L.map .str)), .d (.str t), .d (.int s), .d (.int e), .d (.tup (R.map TD)), .d (.str SGN), .ow (cs.map DU), .no, .no, .no, x12, x13, .no] ∧ Ok (t, s, e, R) cs 2 ∧ DrE ed ys) ?_ ?_
  · walk_at "g"
    refine brn_d (fun z => ?_) (fun z => ?_)
    · generalize hix : fIx = gix
      walk_at "g"
      rename_i r ys2 r0 r1 hd2
      subst hix
      obtain ⟨k, rfl⟩ : ∃ k : Nat, r = k := ⟨r.toNat, by omega⟩
      have hk : k < t.length := by omega
      have hat : atI t ((k : Nat) : Int) = some t[k] := by rw [atI_lit', List.getElem?_eq_getElem hk]
      refine giv_ixs tl hat ?_
      have hc : t[k] ∈ SGN := tok _ (List.getElem_mem _)
      obtain ⟨i, hi, ei⟩ := List.getElem_of_mem hc
      have hf : findC SGN t[k] = (i : Int) := by rw [← ei]; exact findC_at hi
      rw [SGN_len] at hi
      generalize hix : fIx = gix
      walk_at "g"
      rename_i r2 ys3 u0 u1 hd3
      subst hix
      rw [hf]
      have hm : (((i : Nat) : Int) + 1 + r2) % 96 = ((((i + 1 + r2.toNat) % 96 : Nat)) : Int) := by omega
      rw [hm]
      generalize hj : (i + 1 + r2.toNat) % 96 = j
      have hj96 : j < 96 := by omega
      have hne : j ≠ i := by omega
      refine giv_ixs hS (by rw [atI_lit', g_at hj96]) ?_
      have hcne : SGN[j]'(by rw [SGN_len]; exact hj96) ≠ t[k] := fun e => hne (by
        have h1 := sgn_nd.idxOf_getElem j (by rw [SGN_len]; exact hj96)
        have h2 := sgn_nd.idxOf_getElem i (by rw [SGN_len]; exact hi)
        rw [e.trans ei.symm, h2] at h1
        exact h1.symm)
      have hcs : SGN[j]'(by rw [SGN_len]; exact hj96) ∈ SGN := List.getElem_mem _
      generalize SGN[j]'(by rw [SGN_len]; exact hj96) = c at hcne hcs ⊢
      walk_at "g"
      refine app rfl rfl (by rw [List.length_map]; show _ < 16777216; omega) ?_
      refine ⟨cs1 ++ [(t.take k ++ [c] ++ t.drop (k + 1), s, e, R)], _, _, _, by rw [← mapDU]; rfl, hc1.add ⟨?_, ?_, s0, se, ?_, row⟩ fun he => exch_ne hk hcne (congrArg (fun x : V4 => x.1) he), hd3⟩
      · show (t.take k ++ [c] ++ t.drop (k + 1)).length ≤ 300
        simp only [List.length_append, List.length_take, List.length_drop, List.length_singleton]
        omega
      · intro d hd
        rcases List.mem_append.mp hd with hd | hd
        · rcases List.mem_append.mp hd with hd | hd
          · exact tok d (List.mem_of_mem_take hd)
          · rw [List.mem_singleton.mp hd]; exact hcs
        · exact tok d (List.mem_of_mem_drop hd)
      · show e ≤ ((t.take k ++ [c] ++ t.drop (k + 1)).length : Nat)
        simp only [List.length_append, List.length_take, List.length_drop, List.length_singleton]
        omega
    · walk_at "g"
      exact ⟨_, _, _, _, rfl, hc1.up (by decide), hd1⟩
  rintro ρ ⟨cs2, ys2, x12, x13, rfl, hc2, hd2⟩
  have lc2 := hc2.2
  refine sv_then (fun ρ => ∃ (cs : List V4), ρ = [.io ys2, .d (DU (t, s, e, R)), .d (.lst (L.map .str)), .d (.str t), .d (.int s), .d (.int e), .d (.tup (R.map TD)), .d (.str SGN), .ow (cs.map DU), .no, .no, .no, x12, x13, .no] ∧ Ok (t, s, e, R) cs 3) ?_ ?_
  · walk_at "g"
    refine brn_d (fun z => ?_) (fun z => ?_)
    · walk_at "g"
      refine app rfl rfl (by rw [List.length_map]; show _ < 16777216; omega) ?_
      refine ⟨cs2 ++ [(t, s - 1, e, R)], by rw [← mapDU]; rfl, hc2.add ⟨t300, tok, by show 0 ≤ s - 1; omega, by show s - 1 ≤ e; omega, el, row⟩ fun he => ?_⟩
      have := congrArg (fun x : V4 => x.2.1) he
      simp only at this
      omega
    · walk_at "g"
      exact ⟨_, rfl, hc2.up (by decide)⟩
  rintro ρ ⟨cs3, rfl, hc3⟩
  have lc3 := hc3.2
  refine sv_then (fun ρ => ∃ (cs : List V4), ρ = [.io ys2, .d (DU (t, s, e, R)), .d (.lst (L.map .str)), .d (.str t), .d (.int s), .d (.int e), .d (.tup (R.map TD)), .d (.str SGN), .ow (cs.map DU), .no, .no, .no, x12, x13, .no] ∧ Ok (t, s, e, R) cs 4) ?_ ?_
  · walk_at "g"
    refine brn_d (fun z => ?_) (fun z => ?_)
    · walk_at "g"
      refine app rfl rfl (by rw [List.length_map]; show _ < 16777216; omega) ?_
      refine ⟨cs3 ++ [(t, s, e + 1, R)], by rw [← mapDU]; rfl, hc3.add ⟨t300, tok, s0, by show s ≤ e + 1; omega, by show e + 1 ≤ ((t.length : Nat) : Int); omega, row⟩ fun he => ?_⟩
      have := congrArg (fun x : V4 => x.2.2.1) he
      simp only at this
      omega
    · walk_at "g"
      exact ⟨_, rfl, hc3.up (by decide)⟩
  rintro ρ ⟨cs4, rfl, hc4⟩
  have lc4 := hc4.2
  walk_at "gS"
  refine ev_lcm R TD (fun p => .str p.1) rfl rl (fun q' => ev_isqd (xs := R.map TD) ?_) (fun c hc Q' q' => ?_) ?_
  · walk_at "g"
    first | exact q' | exact ⟨rfl, q'⟩
  · walk_at "g"
    first | exact q' | exact ⟨rfl, q'⟩
  walk_at "gS"
  refine sv_then (fun ρ => ∃ (cs : List V4) (x10 : Sl), ρ = [.io ys2, .d (DU (t, s, e, R)), .d (.lst (L.map .str)), .d (.str t), .d (.int s), .d (.int e), .d (.tup (R.map TD)), .d (.str SGN), .ow (cs.map DU), .ow (NM R), x10, .no, x12, x13, .no] ∧ Ok (t, s, e, R) cs 12)
    (sv_for (fun i ρ => ∃ (cs : List V4) (x10 : Sl), ρ = [.io ys2, .d (DU (t, s, e, R)), .d (.lst (L.map .str)), .d (.str t), .d (.int s), .d (.int e), .d (.tup (R.map TD)), .d (.str SGN), .ow (cs.map DU), .ow (NM R), x10, .no, x12, x13, .no] ∧ Ok (t, s, e, R) cs (4 + i) ∧ ioQ (some x10) = false) (ev_isqd (xs := L.map .str) ?_)) ?_
  · walk_at "g"
    refine ⟨rfl, ⟨_, _, rfl, hc4, rfl⟩, ?_, ?_⟩
    · rintro i y hy ρ ⟨cs, x10, rfl, hc, h10⟩
      have lc := hc.2
      rw [List.getElem?_map] at hy
      obtain ⟨n, hn, rfl⟩ := Option.map_eq_some_iff.mp hy
      have hi := (List.getElem?_eq_some_iff.mp hn).1
      refine ⟨_, asg_z (by exact h10), ?_⟩
      walk_at "n"
      refine sv_if_l ?_
      walk_at "g"
      rw [NM_strs]
      refine ni_strs ?_
      rw [← NM_strs]
      walk_at "g"
      refine brn_nd (fun z => ?_) (fun z => ?_)
      · have hR2 : RowOk (R ++ [(n, s, e)]) := by
          refine ⟨by rw [List.length_append, List.length_singleton]; omega, ?_, fun p hp => ?_⟩
          · rw [List.map_append, List.nodup_append]
            exact ⟨row.nd, by simp, fun a ha b hb e' => z (by
              have hb' : b = n := List.mem_singleton.mp (by simpa using hb)
              rw [← hb', ← e']
              exact ha)⟩
          · rcases List.mem_append.mp hp with hp | hp
            · exact row.ok p hp
            · rw [List.mem_singleton.mp hp]; exact (hL.ok n (List.mem_of_getElem? hn)).ok
        obtain ⟨R', eR, pR, hR'⟩ := sort_rows hR2
        have hlen : R'.length = R.length + 1 := by rw [pR.length_eq, List.length_append, List.length_singleton]
        rw [List.map_append] at eR
        walk_at "g"
        refine ev_sortG ?_
        walk_at "g"
        refine ev_new ?_
        walk_at "g"
        refine ⟨_, _, rfl, rfl, ?_⟩
        walk_at "g"
        refine ⟨_, _, _, rfl, rfl, eR, ?_⟩
        walk_at "g"
        refine app rfl rfl (by rw [List.length_map]; show _ < 16777216; omega) ?_
        refine ⟨cs ++ [(t, s, e, R')], _, by rw [← mapDU]; rfl, hc.add ⟨t300, tok, s0, se, el, hR'⟩ fun he => ?_, rfl⟩
        have := congrArg (fun x : V4 => x.2.2.2.length) he
        simp only at this
        omega
      · walk_at "g"
        exact ⟨_, _, rfl, hc.up (by omega), rfl⟩
    · rintro ρ ⟨cs, x10, rfl, hc, h10⟩
      rw [List.length_map] at hc
      exact ⟨_, _, rfl, hc.up (by omega)⟩
  rintro ρ ⟨cs5, x10, rfl, hc5⟩
  have lc5 := hc5.2
  refine sv_then (fun ρ => ∃ (cs : List V4) (x11 : Sl), ρ = [.io ys2, .d (DU (t, s, e, R)), .d (.lst (L.map .str)), .d (.str t), .d (.int s), .d (.int e), .d (.tup (R.map TD)), .d (.str SGN), .ow (cs.map DU), .ow (NM R), x10, x11, x12, x13, .no] ∧ Ok (t, s, e, R) cs 100)
    (sv_for (fun i ρ => ∃ (cs : List V4) (x11 : Sl), ρ = [.io ys2, .d (DU (t, s, e, R)), .d (.lst (L.map .str)), .d (.str t), .d (.int s), .d (.int e), .d (.tup (R.map TD)), .d (.str SGN), .ow (cs.map DU), .ow (NM R), x10, x11, x12, x13, .no] ∧ Ok (t, s, e, R) cs (12 + 2 * i) ∧ ioQ (some x11) = false) (ev_ir1 ?_)) ?_
  · walk_at "g"
    have lm : (R.map TD).length = R.length := List.length_map ..
    refine ⟨_, rfl, by omega, by omega, ⟨_, _, rfl, hc5, rfl⟩, ?_, ?_⟩
    · rintro i y hy ρ ⟨cs, x11, rfl, hc, h11⟩
      obtain ⟨hi, ey⟩ := rngL_get hy
      rw [Int.zero_add] at ey
      subst ey
      have hi : i < R.length := by omega
      have lc := hc.2
      obtain ⟨p, hp⟩ : ∃ p, R[i]? = some p := ⟨_, List.getElem?_eq_getElem hi⟩
      have hat : atI (R.map TD) ((i : Nat) : Int) = some (TD p) := by rw [atI_lit', List.getElem?_map, hp]; rfl
      have ht : (R.map TD).take ((i : Nat) : Int).toNat ++ (R.map TD).drop (((i : Nat) : Int) + 1).toNat = (R.take i ++ R.drop (i + 1)).map TD := by
        rw [List.map_append, List.map_take, List.map_drop]
        rfl
      refine ⟨_, asg_z (by exact h11), ?_⟩
      walk_at "n"
      walk_at "gS"
      refine app rfl rfl (by rw [List.length_map]; show _ < 16777216; omega) ?_
      walk_at "n"
      rw [ht]
      walk_at "gS"
      have lc1 := (hc.add (c := (t, s, e, R.take i ++ R.drop (i + 1))) ⟨t300, tok, s0, se, el, eraseR_ok row i⟩ (fun he => by
        have := congrArg (fun x : V4 => x.2.2.2.length) he
        simp only [List.length_append, List.length_take, List.length_drop] at this
        omega))
      rw [mapDU (cs := cs) (c := (t, s, e, R.take i ++ R.drop (i + 1)))]
      generalize cs ++ [(t, s, e, R.take i ++ R.drop (i + 1))] = cs' at lc1 ⊢
      have lc2 := lc1.2
      have ht2 : ∀ a b : Int, (R.map TD).take ((i : Nat) : Int).toNat ++ [D.tup [D.str p.1, D.int a, D.int b]] ++ (R.map TD).drop (((i : Nat) : Int) + 1).toNat = (R.take i ++ [(p.1, a, b)] ++ R.drop (i + 1)).map TD := fun a b => by
        rw [List.map_append, List.map_append, List.map_take, List.map_drop]
        rfl
      refine brn_d (fun z => ?_) (fun z => ?_)
      · walk_at "g"
        refine giv_addT (by simp only [List.length_take, List.length_singleton]; show _ ≤ 16777216; omega) ?_
        walk_at "g"
        refine giv_addT (by simp only [List.length_append, List.length_take, List.length_singleton, List.length_drop]; show _ ≤ 16777216; omega) ?_
        walk_at "g"
        rw [ht2]
        refine app rfl rfl (by rw [List.length_map]; show _ < 16777216; omega) ?_
        exact ⟨cs' ++ [(t, s, e, R.take i ++ [(p.1, s, e)] ++ R.drop (i + 1))], _, by rw [← mapDU]; rfl, (lc1.add ⟨t300, tok, s0, se, el, (setR_ok row hp).1⟩ fun he => (setR_ok row hp).2 (by omega) (congrArg (fun x : V4 => x.2.2.2) he)).up (by omega), rfl⟩
      · walk_at "g"
        refine brn_d (fun z2 => ?_) (fun z2 => ?_)
        · walk_at "g"
          refine giv_addT (by simp only [List.length_take, List.length_singleton]; show _ ≤ 16777216; omega) ?_
          walk_at "g"
          refine giv_addT (by simp only [List.length_append, List.length_take, List.length_singleton, List.length_drop]; show _ ≤ 16777216; omega) ?_
          walk_at "g"
          rw [ht2]
          refine app rfl rfl (by rw [List.length_map]; show _ < 16777216; omega) ?_
          exact ⟨cs' ++ [(t, s, e, R.take i ++ [(p.1, s, s)] ++ R.drop (i + 1))], _, by rw [← mapDU]; rfl, (lc1.add ⟨t300, tok, s0, se, el, (setR_ok row hp).1⟩ fun he => (setR_ok row hp).2 (by omega) (congrArg (fun x : V4 => x.2.2.2) he)).up (by omega), rfl⟩
        · walk_at "g"
          exact ⟨cs', _, rfl, lc1.up (by omega), rfl⟩
    · rintro ρ ⟨cs, x11, rfl, hc, h11⟩
      rw [rngL_len] at hc
      exact ⟨_, _, rfl, hc.up (by omega)⟩
  rintro ρ ⟨cs6, x11, rfl, hc6⟩
  walk_at "g"
  walk_at "n"
  exact q _ _ hc6.1 hd2
end
end K84
namespace K84
open Sw L2
theorem mk_ok {v : V4} (hv : ValOk v) {ms : M (List Vl)} {ρ : Rho} {Q : Vl → Rho → Prop} (h : Ev ms ρ fun rs ρ1 => rs = [.fz (.str v.1), .fz (.int v.2.1), .fz (.int v.2.2.1), .fz (.tup (v.2.2.2.map TD))] ∧ Q (.fz (ANv v)) ρ1) : Ev (eMake "Answer" g_Answer ms) ρ Q := by
  obtain ⟨rs, ρ1, e, rfl, q⟩ := h
  exact ev_make ⟨_, ρ1, e, _, ρ1, _, _, rfl, make_ok (Nat.le_trans hv.row.len (by decide)), q⟩
abbrev OPQ : D → D → Option D := orF fEq (fOwnEq "Answer" f_Answer_eq)
theorem opq_ok {v w : V4} (hv : ValOk v) (hw : ValOk w) {Q : D → Prop} (q : Q (.bl (decide (v.1 = w.1 ∧ v.2.1 = w.2.1 ∧ v.2.2.1 = w.2.2.1 ∧ v.2.2.2 = w.2.2.2)))) : Giv (OPQ (ANv v) (ANv w)) Q :=
  giv_orr (fEq_objL rfl) (giv_ownEq isOf_obj isOf_obj (eq_ok hv.row hw.row ⟨_, rfl, q⟩))
theorem v_ext {v w : V4} : v = w ↔ (v.1 = w.1 ∧ v.2.1 = w.2.1 ∧ v.2.2.1 = w.2.2.1 ∧ v.2.2.2 = w.2.2.2) := by
  obtain ⟨a, b, c, d⟩ := v
  obtain ⟨a', b', c', d'⟩ := w
  simp only [Prod.mk.injEq]
theorem opq_du {v w : V4} (hv : ValOk v) (hw : ValOk w) {Q : D → Prop} (q : Q (.bl (decide (v.1 = w.1 ∧ v.2.1 = w.2.1 ∧ v.2.2.1 = w.2.2.1 ∧ v.2.2.2 = w.2.2.2)))) : Giv (OPQ (DU v) (DU w)) Q :=
  giv_orl (giv (eq_dec rfl (shDU hv) (shDU hw) nbDU nbDU (DU_inj.trans v_ext)) q)
theorem opq_ne {v w : V4} (hv : ValOk v) (hw : ValOk w) (hn : v ≠ w) {Q : D → Prop} (q : Q (.bl false)) : Giv (OPQ (ANv v) (ANv w)) Q := by
  refine opq_ok hv hw ?_
  rw [decide_eq_false (fun h => hn (v_ext.mpr h))]
  exact q
theorem opq_same {v : V4} (hv : ValOk v) {Q : D → Prop} (q : Q (.bl true)) : Giv (OPQ (ANv v) (ANv v)) Q := by
  refine opq_ok hv hv ?_
  rw [decide_eq_true (v_ext.mp rfl)]
  exact q
theorem law_fv (ns : List Int) (hn : ns.length ≤ 63) : Fv f_law [.da (.scr ns)] fun r os => r = .fz (.bl true) ∧ os = [] := by
  refine fv_fn rfl ?_
  walk_at "n"
  unfold b_law
  rw [next_eq, draw_eq]
  walk_at "gS"
  refine names_ok (by assumption) fun L y1 hL hd1 => ?_
  have lL := hL.hi
  have l0 := hL.lo
  have ll : (L.map D.str).length = L.length := List.length_map ..
  walk_at "gS"
  refine values_ok hL hd1 fun v y2 hv hv7 hd2 => ?_
  walk_at "gS"
  refine values_ok hL hd2 fun w y3 hw hw7 hd3 => ?_
  walk_at "gS"
  rename_i r y4 r0 r1 hd4
  refine giv_ixl_all r0 r1 (fun x hx => ?_)
  obtain ⟨n, hn, rfl⟩ := List.mem_map.mp hx
  walk_at "gS"
  refine near_name_ok (hL.ok n hn) hd4 fun n2 y5 hn2 hd5 => ?_
  walk_at "gS"
  refine mk_ok (v := v) hv ?_
  walk_at "g"
  refine ⟨rfl, ?_⟩
  walk_at "gS"
  refine mk_ok (v := w) hw ?_
  walk_at "g"
  refine ⟨rfl, ?_⟩
  walk_at "gS"
  rw [show L.map D.str ++ [D.str n2] = (L ++ [n2]).map D.str by rw [List.map_append]; rfl]
  generalize L ++ [n2] = A
  refine sv_then (fun ρ => ∃ (x5 x8 : Sl), ρ = [.d (.scr ns), .ow y5, .d (.lst (L.map .str)), .d (DU v), .d (DU w), x5, .d (ANv v), .d (ANv w), x8, .no, .no, .no] ∧ x5 = .d (.lst (A.map .str)))
    (sv_for (fun i ρ => ∃ (x5 x8 : Sl), ρ = [.d (.scr ns), .ow y5, .d (.lst (L.map .str)), .d (DU v), .d (DU w), x5, .d (ANv v), .d (ANv w), x8, .no, .no, .no] ∧ (x5 = .d (.lst (A.map .str)) ∨ (i = 0 ∧ x5 = .ow (A.map .str))) ∧ ioQ (some x8) = false) (ev_ir1 ?_)) ?_
  · walk_at "g"
    refine ⟨_, rfl, by omega, by omega, ⟨_, _, rfl, .inr ⟨rfl, rfl⟩, rfl⟩, ?_, ?_⟩
    · rintro i y hy ρ ⟨x5, x8, rfl, h5, h8⟩
      refine ⟨_, asg_z (by exact h8), ?_⟩
      walk_at "n"
      refine sv_if_l ?_
      rcases h5 with rfl | ⟨_, rfl⟩
      · walk_at "g"
        refine shows_ok hv ?_
        walk_at "g"
        refine shows_ok hw ?_
        walk_at "g"
        exact ⟨_, _, rfl, .inl rfl, rfl⟩
      · walk_at "g"
        refine shows_ok hv ?_
        walk_at "g"
        refine shows_ok hw ?_
        walk_at "g"
        exact ⟨_, _, rfl, .inl rfl, rfl⟩
    · rintro ρ ⟨x5, x8, rfl, h5, h8⟩
      refine ⟨_, _, rfl, ?_⟩
      rcases h5 with h5 | ⟨h5, _⟩
      · exact h5
      · rw [rngL_len] at h5
        exact absurd h5 (by decide)
  rintro ρ ⟨x5, x8, rfl, rfl⟩
  walk_at "gS"
  refine mk_ok (v := v) hv ?_
  walk_at "g"
  refine ev_new ?_
  walk_at "g"
  refine ⟨_, _, rfl, rfl, ?_⟩
  walk_at "g"
  refine ⟨rfl, ?_⟩
  generalize hop : orF fEq (fOwnEq "Answer" f_Answer_eq) = op
  walk_at "gS"
  refine sv_if_s ?_
  walk_at "g"
  subst hop
  refine opq_same hv ?_
  generalize hop : orF fEq (fOwnEq "Answer" f_Answer_eq) = op
  walk_at "g"
  subst hop
  refine opq_same hv ?_
  generalize hop : orF fEq (fOwnEq "Answer" f_Answer_eq) = op
  walk_at "g"
  subst hop
  refine opq_ok hv hw ?_
  generalize hop : orF fEq (fOwnEq "Answer" f_Answer_eq) = op
  walk_at "g"
  subst hop
  refine opq_du hv hw ?_
  generalize hop : orF fEq (fOwnEq "Answer" f_Answer_eq) = op
  walk_at "g"
  refine brn_nf rfl ?_
  walk_at "gS"
  refine sv_if_s ?_
  walk_at "g"
  refine apart_ok hv ?_
  walk_at "g"
  refine apart_ok hw ?_
  walk_at "gS"
  refine sv_then (fun ρ => ∃ (y6 : List D) (x10 x11 : Sl), ρ = [.d (.scr ns), .ow y6, .d (.lst (L.map .str)), .d (DU v), .d (DU w), .d (.lst (A.map .str)), .d (ANv v), .d (ANv w), x8, .d (ANv v), x10, x11])
    (sv_for (fun i ρ => ∃ (y6 : List D) (x10 x11 : Sl), ρ = [.d (.scr ns), .ow y6, .d (.lst (L.map .str)), .d (DU v), .d (DU w), .d (.lst (A.map .str)), .d (ANv v), .d (ANv w), x8, .d (ANv v), x10, x11] ∧ ioQ (some x10) = false ∧ ioQ (some x11) = false) (ev_isq ?_)) ?_
  · walk_at "g"
    refine changes_ok hL hv (by omega) hd5 fun cs y6 hcs hd6 => ?_
    walk_at "g"
    walk_at "n"
    refine ⟨_, _, _, rfl, rfl, ⟨_, _, _, rfl, rfl, rfl⟩, ?_, ?_⟩
    · rintro i y hy ρ ⟨y6, x10, x11, rfl, h10, h11⟩
      rw [List.getElem?_map] at hy
      obtain ⟨c, hc, rfl⟩ := Option.map_eq_some_iff.mp hy
      obtain ⟨vc, nc⟩ := hcs c (List.mem_of_getElem? hc)
      refine ⟨_, asg_z (by exact h10), ?_⟩
      walk_at "n"
      walk_at "gS"
      refine mk_ok (v := c) vc ?_
      walk_at "g"
      refine ⟨rfl, ?_⟩
      refine ⟨_, asg_z (by exact h11), ?_⟩
      walk_at "n"
      refine sv_if_l ?_
      walk_at "g"
      subst hop
      refine opq_ne hv vc (fun e => nc e.symm) ?_
      generalize hop : orF fEq (fOwnEq "Answer" f_Answer_eq) = op
      walk_at "g"
      subst hop
      refine opq_ne vc hv nc ?_
      walk_at "g"
      refine shows_ok vc ?_
      walk_at "g"
      exact ⟨_, _, _, rfl, rfl, rfl⟩
    · rintro ρ ⟨y6, x10, x11, rfl, h10, h11⟩
      exact ⟨_, _, _, rfl⟩
  rintro ρ ⟨y6, x10, x11, rfl⟩
  walk_at "g"
  refine shows_ok hv ?_
  walk_at "g"
  walk_at "n"
  exact ⟨rfl, rfl⟩
theorem law_true (ns : List Int) (hn : ns.length ≤ 63) : f_law [.da (.scr ns)] = some (.fz (.bl true), []) := by
  obtain ⟨r, os, e, rfl, rfl⟩ := law_fv ns hn
  exact e
end K84
namespace K84
open PySem PySem.Spec PyProof.Rows L2 Sw

def topS (i : Nat) : Stmt := PySem.Challenge.pw_surespan_k84_answer_object.main.body.getD i (.Pass ⟨0, 0, 0, 0⟩)
abbrev st_Answer_eq : Stmt := inClass (topS 14) 7
abbrev N_Answer_eq : List Str := ["self", "other"]
abbrev P_Answer_eq : List Str := ["self", "other"]
theorem sc_Answer_eq : FnScope N_Answer_eq P_Answer_eq (defScope st_Answer_eq) := ⟨rfl, rfl, rfl, by decide +kernel, rfl, by decide +kernel, by decide +kernel⟩
abbrev st_init_Answer : Stmt := inClass (topS 14) 0
abbrev N_init_Answer : List Str := ["self", "text", "start", "end", "row", "triple"]
abbrev P_init_Answer : List Str := ["self", "text", "start", "end", "row"]
theorem sc_init_Answer : FnScope N_init_Answer P_init_Answer (defScope st_init_Answer) := ⟨rfl, rfl, rfl, by decide +kernel, rfl, by decide +kernel, by decide +kernel⟩
abbrev st_law_apart : Stmt := topS 31
abbrev N_law_apart : List Str := ["_law_answer", "_law_due", "_law_names_here", "_law_other", "_law_triple"]
abbrev P_law_apart : List Str := ["_law_answer", "_law_due"]
theorem sc_law_apart : FnScope N_law_apart P_law_apart (defScope st_law_apart) := ⟨rfl, rfl, rfl, by decide +kernel, rfl, by decide +kernel, by decide +kernel⟩
abbrev st_law_next : Stmt := topS 17
abbrev N_law_next : List Str := ["_law_draw_here", "_law_many", "_law_at"]
abbrev P_law_next : List Str := ["_law_draw_here", "_law_many"]
theorem sc_law_next : FnScope N_law_next P_law_next (defScope st_law_next) := ⟨rfl, rfl, rfl, by decide +kernel, rfl, by decide +kernel, by decide +kernel⟩
abbrev st_law_signs : Stmt := topS 18
abbrev N_law_signs : List Str := ["_law_signs_here"]
abbrev P_law_signs : List Str := []
theorem sc_law_signs : FnScope N_law_signs P_law_signs (defScope st_law_signs) := ⟨rfl, rfl, rfl, by decide +kernel, rfl, by decide +kernel, by decide +kernel⟩
abbrev st_law_changes : Stmt := topS 27
abbrev N_law_changes : List Str := ["_law_draw_here", "_law_due", "_law_names_here", "_law_text", "_law_start", "_law_end", "_law_row_here", "_law_signs_here", "_law_found", "_law_known", "_law_name", "_law_k", "_law_at", "_law_sign", "_law_triple"]
abbrev P_law_changes : List Str := ["_law_draw_here", "_law_due", "_law_names_here"]
theorem sc_law_changes : FnScope N_law_changes P_law_changes (defScope st_law_changes) := ⟨rfl, rfl, rfl, by decide +kernel, rfl, by decide +kernel, by decide +kernel⟩
abbrev st_law_draw : Stmt := topS 16
abbrev N_law_draw : List Str := ["_law_script", "_law_digits", "_law_one", "_law_two", "_law_cell", "_law_rest", "_law_k"]
abbrev P_law_draw : List Str := ["_law_script"]
theorem sc_law_draw : FnScope N_law_draw P_law_draw (defScope st_law_draw) := ⟨rfl, rfl, rfl, by decide +kernel, rfl, by decide +kernel, by decide +kernel⟩
abbrev st_law_near_name : Stmt := topS 23
abbrev N_law_near_name : List Str := ["_law_draw_here", "_law_name", "_law_others", "_law_choice", "_law_at"]
abbrev P_law_near_name : List Str := ["_law_draw_here", "_law_name"]
theorem sc_law_near_name : FnScope N_law_near_name P_law_near_name (defScope st_law_near_name) := ⟨rfl, rfl, rfl, by decide +kernel, rfl, by decide +kernel, by decide +kernel⟩
abbrev st_law_new_name : Stmt := topS 22
abbrev N_law_new_name : List Str := ["_law_draw_here", "_law_firsts", "_law_others", "_law_name", "_law_k"]
abbrev P_law_new_name : List Str := ["_law_draw_here"]
theorem sc_law_new_name : FnScope N_law_new_name P_law_new_name (defScope st_law_new_name) := ⟨rfl, rfl, rfl, by decide +kernel, rfl, by decide +kernel, by decide +kernel⟩
abbrev st_law_names : Stmt := topS 24
abbrev N_law_names : List Str := ["_law_draw_here", "_law_names_here", "_law_k", "_law_name"]
abbrev P_law_names : List Str := ["_law_draw_here"]
theorem sc_law_names : FnScope N_law_names P_law_names (defScope st_law_names) := ⟨rfl, rfl, rfl, by decide +kernel, rfl, by decide +kernel, by decide +kernel⟩
abbrev st_Answer_contains : Stmt := inClass (topS 14) 4
abbrev N_Answer_contains : List Str := ["self", "name"]
abbrev P_Answer_contains : List Str := ["self", "name"]
theorem sc_Answer_contains : FnScope N_Answer_contains P_Answer_contains (defScope st_Answer_contains) := ⟨rfl, rfl, rfl, by decide +kernel, rfl, by decide +kernel, by decide +kernel⟩
abbrev st_Answer_iter : Stmt := inClass (topS 14) 6
abbrev N_Answer_iter : List Str := ["self"]
abbrev P_Answer_iter : List Str := ["self"]
theorem sc_Answer_iter : FnScope N_Answer_iter P_Answer_iter (defScope st_Answer_iter) := ⟨rfl, rfl, rfl, by decide +kernel, rfl, by decide +kernel, by decide +kernel⟩
abbrev st_Answer_len : Stmt := inClass (topS 14) 5
abbrev N_Answer_len : List Str := ["self"]
abbrev P_Answer_len : List Str := ["self"]
theorem sc_Answer_len : FnScope N_Answer_len P_Answer_len (defScope st_Answer_len) := ⟨rfl, rfl, rfl, by decide +kernel, rfl, by decide +kernel, by decide +kernel⟩
abbrev st_Answer_span : Stmt := inClass (topS 14) 2
abbrev N_Answer_span : List Str := ["self", "name", "known", "start", "end"]
abbrev P_Answer_span : List Str := ["self", "name"]
theorem sc_Answer_span : FnScope N_Answer_span P_Answer_span (defScope st_Answer_span) := ⟨rfl, rfl, rfl, by decide +kernel, rfl, by decide +kernel, by decide +kernel⟩
abbrev st_Answer_whole : Stmt := inClass (topS 14) 1
abbrev N_Answer_whole : List Str := ["self"]
abbrev P_Answer_whole : List Str := ["self"]
theorem sc_Answer_whole : FnScope N_Answer_whole P_Answer_whole (defScope st_Answer_whole) := ⟨rfl, rfl, rfl, by decide +kernel, rfl, by decide +kernel, by decide +kernel⟩
abbrev st_law_int : Stmt := topS 20
abbrev N_law_int : List Str := ["_law_value"]
abbrev P_law_int : List Str := ["_law_value"]
theorem sc_law_int : FnScope N_law_int P_law_int (defScope st_law_int) := ⟨rfl, rfl, rfl, by decide +kernel, rfl, by decide +kernel, by decide +kernel⟩
abbrev st_law_is_row : Stmt := topS 21
abbrev N_law_is_row : List Str := ["_law_row_here", "_law_triple"]
abbrev P_law_is_row : List Str := ["_law_row_here"]
theorem sc_law_is_row : FnScope N_law_is_row P_law_is_row (defScope st_law_is_row) := ⟨rfl, rfl, rfl, by decide +kernel, rfl, by decide +kernel, by decide +kernel⟩
abbrev st_Answer_getitem : Stmt := inClass (topS 14) 3
abbrev N_Answer_getitem : List Str := ["self", "name", "found"]
abbrev P_Answer_getitem : List Str := ["self", "name"]
theorem sc_Answer_getitem : FnScope N_Answer_getitem P_Answer_getitem (defScope st_Answer_getitem) := ⟨rfl, rfl, rfl, by decide +kernel, rfl, by decide +kernel, by decide +kernel⟩
abbrev st_law_set_to : Stmt := topS 29
abbrev N_law_set_to : List Str := ["_law_answer", "_law_triple", "_law_text", "_law_span", "_law_piece"]
abbrev P_law_set_to : List Str := ["_law_answer", "_law_triple", "_law_text"]
theorem sc_law_set_to : FnScope N_law_set_to P_law_set_to (defScope st_law_set_to) := ⟨rfl, rfl, rfl, by decide +kernel, rfl, by decide +kernel, by decide +kernel⟩
abbrev st_law_unknown : Stmt := topS 28
abbrev N_law_unknown : List Str := ["_law_answer", "_law_name", "_law_found", "e"]
abbrev P_law_unknown : List Str := ["_law_answer", "_law_name"]
theorem sc_law_unknown : FnScope N_law_unknown P_law_unknown (defScope st_law_unknown) := ⟨rfl, rfl, rfl, by decide +kernel, rfl, by decide +kernel, by decide +kernel⟩
abbrev st_law_shows : Stmt := topS 30
abbrev N_law_shows : List Str := ["_law_answer", "_law_due", "_law_names_here", "_law_known", "_law_triple", "_law_name"]
abbrev P_law_shows : List Str := ["_law_answer", "_law_due", "_law_names_here"]
theorem sc_law_shows : FnScope N_law_shows P_law_shows (defScope st_law_shows) := ⟨rfl, rfl, rfl, by decide +kernel, rfl, by decide +kernel, by decide +kernel⟩
abbrev st_law_letters : Stmt := topS 19
abbrev N_law_letters : List Str := ["_law_draw_here", "_law_choice", "_law_signs_here", "_law_first", "_law_second", "_law_third", "_law_k"]
abbrev P_law_letters : List Str := ["_law_draw_here"]
theorem sc_law_letters : FnScope N_law_letters P_law_letters (defScope st_law_letters) := ⟨rfl, rfl, rfl, by decide +kernel, rfl, by decide +kernel, by decide +kernel⟩
abbrev st_law_row : Stmt := topS 25
abbrev N_law_row : List Str := ["_law_draw_here", "_law_names_here", "_law_start", "_law_end", "_law_low", "_law_high", "_law_row_here", "_law_turn", "_law_name", "_law_one", "_law_two", "_law_first", "_law_last", "_law_choice"]
abbrev P_law_row : List Str := ["_law_draw_here", "_law_names_here", "_law_start", "_law_end"]
theorem sc_law_row : FnScope N_law_row P_law_row (defScope st_law_row) := ⟨rfl, rfl, rfl, by decide +kernel, rfl, by decide +kernel, by decide +kernel⟩
abbrev st_law_values : Stmt := topS 26
abbrev N_law_values : List Str := ["_law_draw_here", "_law_names_here", "_law_pool", "_law_size", "_law_text", "_law_one", "_law_two", "_law_start", "_law_end", "_law_k"]
abbrev P_law_values : List Str := ["_law_draw_here", "_law_names_here"]
theorem sc_law_values : FnScope N_law_values P_law_values (defScope st_law_values) := ⟨rfl, rfl, rfl, by decide +kernel, rfl, by decide +kernel, by decide +kernel⟩
abbrev st_law : Stmt := topS 32
abbrev N_law : List Str := ["_law_script", "_law_draw_here", "_law_names_here", "_law_first", "_law_second", "_law_asked", "_law_one", "_law_two", "_law_k", "_law_twin", "_law_due", "_law_other"]
abbrev P_law : List Str := ["_law_script"]
theorem sc_law : FnScope N_law P_law (defScope st_law) := ⟨rfl, rfl, rfl, by decide +kernel, rfl, by decide +kernel, by decide +kernel⟩
section
variable {P : Program} {w : World} {K : PySem.W.Frag} {mg : Str → Option Value} {base : Heap}
abbrev stx_UnknownGroup : Stmt := inClass (topS 5) 0
theorem scx_UnknownGroup : FnScope ["self", "name"] ["self", "name"] (defScope stx_UnknownGroup) := ⟨rfl, rfl, rfl, by decide +kernel, rfl, by decide +kernel, by decide +kernel⟩
theorem okxi_UnknownGroup {f C : Addr} {fd : FuncData} (F : FunG K "__init__" "UnknownGroup.__init__" stx_UnknownGroup f fd) (T : OexC K C) (hno : PySem.W.findIn K (.ref C) "name" = some none) : FnOk P w K mg base CX0 1 f fd ["self", "name"] (spXI C "name") :=
  fn_xinit F scx_UnknownGroup rfl T hno (by decide) (by decide) (by first | exact Or.inl rfl | exact Or.inr (Or.inl rfl) | exact Or.inr (Or.inr rfl)) (by first | exact Or.inl rfl | exact Or.inr (Or.inl rfl) | exact Or.inr (Or.inr rfl))
/-- what the text says of the exceptions' classes -/
structure XCls (K : PySem.W.Frag) (mg : Str → Option Value) (X_BadTree X_NoSuchText X_NotPlain X_NotRegular X_OutOfSteps X_PatternFault X_SpanError X_StreamClosed X_TemplateFault X_TooManyAnswers X_TooManyStates X_UnknownGroup fx_UnknownGroup : Addr) : Prop where
  g_BadTree : mg "BadTree" = some (.ref X_BadTree)
  g_NoSuchText : mg "NoSuchText" = some (.ref X_NoSuchText)
  g_NotPlain : mg "NotPlain" = some (.ref X_NotPlain)
  g_NotRegular : mg "NotRegular" = some (.ref X_NotRegular)
  g_OutOfSteps : mg "OutOfSteps" = some (.ref X_OutOfSteps)
  g_PatternFault : mg "PatternFault" = some (.ref X_PatternFault)
  g_SpanError : mg "SpanError" = some (.ref X_SpanError)
  g_StreamClosed : mg "StreamClosed" = some (.ref X_StreamClosed)
  g_TemplateFault : mg "TemplateFault" = some (.ref X_TemplateFault)
  g_TooManyAnswers : mg "TooManyAnswers" = some (.ref X_TooManyAnswers)
  g_TooManyStates : mg "TooManyStates" = some (.ref X_TooManyStates)
  g_UnknownGroup : mg "UnknownGroup" = some (.ref X_UnknownGroup)
  rs_UnknownGroup : Rs1 K "UnknownGroup" X_UnknownGroup fx_UnknownGroup
  xc_UnknownGroup : ExcC K X_UnknownGroup
  q_UnknownGroup_BadTree : PySem.W.kitOne K (.ref X_UnknownGroup) (.ref X_BadTree) = some false
  q_UnknownGroup_NoSuchText : PySem.W.kitOne K (.ref X_UnknownGroup) (.ref X_NoSuchText) = some false
  q_UnknownGroup_NotPlain : PySem.W.kitOne K (.ref X_UnknownGroup) (.ref X_NotPlain) = some false
  q_UnknownGroup_NotRegular : PySem.W.kitOne K (.ref X_UnknownGroup) (.ref X_NotRegular) = some false
  q_UnknownGroup_OutOfSteps : PySem.W.kitOne K (.ref X_UnknownGroup) (.ref X_OutOfSteps) = some false
  q_UnknownGroup_PatternFault : PySem.W.kitOne K (.ref X_UnknownGroup) (.ref X_PatternFault) = some false
  q_UnknownGroup_SpanError : PySem.W.kitOne K (.ref X_UnknownGroup) (.ref X_SpanError) = some true
  q_UnknownGroup_StreamClosed : PySem.W.kitOne K (.ref X_UnknownGroup) (.ref X_StreamClosed) = some false
  q_UnknownGroup_TemplateFault : PySem.W.kitOne K (.ref X_UnknownGroup) (.ref X_TemplateFault) = some false
  q_UnknownGroup_TooManyAnswers : PySem.W.kitOne K (.ref X_UnknownGroup) (.ref X_TooManyAnswers) = some false
  q_UnknownGroup_TooManyStates : PySem.W.kitOne K (.ref X_UnknownGroup) (.ref X_TooManyStates) = some false
  q_UnknownGroup_UnknownGroup : PySem.W.kitOne K (.ref X_UnknownGroup) (.ref X_UnknownGroup) = some true
  q_UnknownGroup_ValueError : PySem.W.kitOne K (.ref X_UnknownGroup) (.type "ValueError") = some true
  e_UnknownGroup_SpanError : PySem.W.exmOne K (.ref X_UnknownGroup) (.ref X_SpanError) = some true
  n_UnknownGroup_name : PySem.W.findIn K (.ref X_UnknownGroup) "name" = some none
theorem XCls.kit_BadTree {K : PySem.W.Frag} {mg : Str → Option Value} {X_BadTree X_NoSuchText X_NotPlain X_NotRegular X_OutOfSteps X_PatternFault X_SpanError X_StreamClosed X_TemplateFault X_TooManyAnswers X_TooManyStates X_UnknownGroup fx_UnknownGroup : Addr} (T : XCls K mg X_BadTree X_NoSuchText X_NotPlain X_NotRegular X_OutOfSteps X_PatternFault X_SpanError X_StreamClosed X_TemplateFault X_TooManyAnswers X_TooManyStates X_UnknownGroup fx_UnknownGroup) {c : Str} {C : Addr} (cn : ClsN K c C) : ∀ b, xt c "BadTree" = some b → PySem.W.kitOne K (.ref C) (.ref X_BadTree) = some b := fun b h => by
  unfold xt at h
  by_cases h_UnknownGroup : c = "UnknownGroup"
  · subst h_UnknownGroup
    cases cn.uniq T.rs_UnknownGroup.cn
    rw [if_pos rfl] at h
    have h' : some false = some b := h
    cases h'
    exact T.q_UnknownGroup_BadTree
  rw [if_neg h_UnknownGroup] at h
  cases h
theorem XCls.kit_NoSuchText {K : PySem.W.Frag} {mg : Str → Option Value} {X_BadTree X_NoSuchText X_NotPlain X_NotRegular X_OutOfSteps X_PatternFault X_SpanError X_StreamClosed X_TemplateFault X_TooManyAnswers X_TooManyStates X_UnknownGroup fx_UnknownGroup : Addr} (T : XCls K mg X_BadTree X_NoSuchText X_NotPlain X_NotRegular X_OutOfSteps X_PatternFault X_SpanError X_StreamClosed X_TemplateFault X_TooManyAnswers X_TooManyStates X_UnknownGroup fx_UnknownGroup) {c : Str} {C : Addr} (cn : ClsN K c C) : ∀ b, xt c "NoSuchText" = some b → PySem.W.kitOne K (.ref C) (.ref X_NoSuchText) = some b := fun b h => by
  unfold xt at h
  by_cases h_UnknownGroup : c = "UnknownGroup"
  · subst h_UnknownGroup
    cases cn.uniq T.rs_UnknownGroup.cn
    rw [if_pos rfl] at h
    have h' : some false = some b := h
    cases h'
    exact T.q_UnknownGroup_NoSuchText
  rw [if_neg h_UnknownGroup] at h
  cases h
theorem XCls.kit_NotPlain {K : PySem.W.Frag} {mg : Str → Option Value} {X_BadTree X_NoSuchText X_NotPlain X_NotRegular X_OutOfSteps X_PatternFault X_SpanError X_StreamClosed X_TemplateFault X_TooManyAnswers X_TooManyStates X_UnknownGroup fx_UnknownGroup : Addr} (T : XCls K mg X_BadTree X_NoSuchText X_NotPlain X_NotRegular X_OutOfSteps X_PatternFault X_SpanError X_StreamClosed X_TemplateFault X_TooManyAnswers X_TooManyStates X_UnknownGroup fx_UnknownGroup) {c : Str} {C : Addr} (cn : ClsN K c C) : ∀ b, xt c "NotPlain" = some b → PySem.W.kitOne K (.ref C) (.ref X_NotPlain) = some b := fun b h => by
  unfold xt at h
  by_cases h_UnknownGroup : c = "UnknownGroup"
  · subst h_UnknownGroup
    cases cn.uniq T.rs_UnknownGroup.cn
    rw [if_pos rfl] at h
    have h' : some false = some b := h
    cases h'
    exact T.q_UnknownGroup_NotPlain
  rw [if_neg h_UnknownGroup] at h
  cases h
theorem XCls.kit_NotRegular {K : PySem.W.Frag} {mg : Str → Option Value} {X_BadTree X_NoSuchText X_NotPlain X_NotRegular X_OutOfSteps X_PatternFault X_SpanError X_StreamClosed X_TemplateFault X_TooManyAnswers X_TooManyStates X_UnknownGroup fx_UnknownGroup : Addr} (T : XCls K mg X_BadTree X_NoSuchText X_NotPlain X_NotRegular X_OutOfSteps X_PatternFault X_SpanError X_StreamClosed X_TemplateFault X_TooManyAnswers X_TooManyStates X_UnknownGroup fx_UnknownGroup) {c : Str} {C : Addr} (cn : ClsN K c C) : ∀ b, xt c "NotRegular" = some b → PySem.W.kitOne K (.ref C) (.ref X_NotRegular) = some b := fun b h => by
  unfold xt at h
  by_cases h_UnknownGroup : c = "UnknownGroup"
  · subst h_UnknownGroup
    cases cn.uniq T.rs_UnknownGroup.cn
    rw [if_pos rfl] at h
    have h' : some false = some b := h
    cases h'
    exact T.q_UnknownGroup_NotRegular
  rw [if_neg h_UnknownGroup] at h
  cases h
theorem XCls.kit_OutOfSteps {K : PySem.W.Frag} {mg : Str → Option Value} {X_BadTree X_NoSuchText X_NotPlain X_NotRegular X_OutOfSteps X_PatternFault X_SpanError X_StreamClosed X_TemplateFault X_TooManyAnswers X_TooManyStates X_UnknownGroup fx_UnknownGroup : Addr} (T : XCls K mg X_BadTree X_NoSuchText X_NotPlain X_NotRegular X_OutOfSteps X_PatternFault X_SpanError X_StreamClosed X_TemplateFault X_TooManyAnswers X_TooManyStates X_UnknownGroup fx_UnknownGroup) {c : Str} {C : Addr} (cn : ClsN K c C) : ∀ b, xt c "OutOfSteps" = some b → PySem.W.kitOne K (.ref C) (.ref X_OutOfSteps) = some b := fun b h => by
  unfold xt at h
  by_cases h_UnknownGroup : c = "UnknownGroup"
  · subst h_UnknownGroup
    cases cn.uniq T.rs_UnknownGroup.cn
    rw [if_pos rfl] at h
    have h' : some false = some b := h
    cases h'
    exact T.q_UnknownGroup_OutOfSteps
  rw [if_neg h_UnknownGroup] at h
  cases h
theorem XCls.kit_PatternFault {K : PySem.W.Frag} {mg : Str → Option Value} {X_BadTree X_NoSuchText X_NotPlain X_NotRegular X_OutOfSteps X_PatternFault X_SpanError X_StreamClosed X_TemplateFault X_TooManyAnswers X_TooManyStates X_UnknownGroup fx_UnknownGroup : Addr} (T : XCls K mg X_BadTree X_NoSuchText X_NotPlain X_NotRegular X_OutOfSteps X_PatternFault X_SpanError X_StreamClosed X_TemplateFault X_TooManyAnswers X_TooManyStates X_UnknownGroup fx_UnknownGroup) {c : Str} {C : Addr} (cn : ClsN K c C) : ∀ b, xt c "PatternFault" = some b → PySem.W.kitOne K (.ref C) (.ref X_PatternFault) = some b := fun b h => by
  unfold xt at h
  by_cases h_UnknownGroup : c = "UnknownGroup"
  · subst h_UnknownGroup
    cases cn.uniq T.rs_UnknownGroup.cn
    rw [if_pos rfl] at h
    have h' : some false = some b := h
    cases h'
    exact T.q_UnknownGroup_PatternFault
  rw [if_neg h_UnknownGroup] at h
  cases h
theorem XCls.kit_SpanError {K : PySem.W.Frag} {mg : Str → Option Value} {X_BadTree X_NoSuchText X_NotPlain X_NotRegular X_OutOfSteps X_PatternFault X_SpanError X_StreamClosed X_TemplateFault X_TooManyAnswers X_TooManyStates X_UnknownGroup fx_UnknownGroup : Addr} (T : XCls K mg X_BadTree X_NoSuchText X_NotPlain X_NotRegular X_OutOfSteps X_PatternFault X_SpanError X_StreamClosed X_TemplateFault X_TooManyAnswers X_TooManyStates X_UnknownGroup fx_UnknownGroup) {c : Str} {C : Addr} (cn : ClsN K c C) : ∀ b, xt c "SpanError" = some b → PySem.W.kitOne K (.ref C) (.ref X_SpanError) = some b := fun b h => by
  unfold xt at h
  by_cases h_UnknownGroup : c = "UnknownGroup"
  · subst h_UnknownGroup
    cases cn.uniq T.rs_UnknownGroup.cn
    rw [if_pos rfl] at h
    have h' : some true = some b := h
    cases h'
    exact T.q_UnknownGroup_SpanError
  rw [if_neg h_UnknownGroup] at h
  cases h
theorem XCls.kit_StreamClosed {K : PySem.W.Frag} {mg : Str → Option Value} {X_BadTree X_NoSuchText X_NotPlain X_NotRegular X_OutOfSteps X_PatternFault X_SpanError X_StreamClosed X_TemplateFault X_TooManyAnswers X_TooManyStates X_UnknownGroup fx_UnknownGroup : Addr} (T : XCls K mg X_BadTree X_NoSuchText X_NotPlain X_NotRegular X_OutOfSteps X_PatternFault X_SpanError X_StreamClosed X_TemplateFault X_TooManyAnswers X_TooManyStates X_UnknownGroup fx_UnknownGroup) {c : Str} {C : Addr} (cn : ClsN K c C) : ∀ b, xt c "StreamClosed" = some b → PySem.W.kitOne K (.ref C) (.ref X_StreamClosed) = some b := fun b h => by
  unfold xt at h
  by_cases h_UnknownGroup : c = "UnknownGroup"
  · subst h_UnknownGroup
    cases cn.uniq T.rs_UnknownGroup.cn
    rw [if_pos rfl] at h
    have h' : some false = some b := h
    cases h'
    exact T.q_UnknownGroup_StreamClosed
  rw [if_neg h_UnknownGroup] at h
  cases h
theorem XCls.kit_TemplateFault {K : PySem.W.Frag} {mg : Str → Option Value} {X_BadTree X_NoSuchText X_NotPlain X_NotRegular X_OutOfSteps X_PatternFault X_SpanError X_StreamClosed X_TemplateFault X_TooManyAnswers X_TooManyStates X_UnknownGroup fx_UnknownGroup : Addr} (T : XCls K mg X_BadTree X_NoSuchText X_NotPlain X_NotRegular X_OutOfSteps X_PatternFault X_SpanError X_StreamClosed X_TemplateFault X_TooManyAnswers X_TooManyStates X_UnknownGroup fx_UnknownGroup) {c : Str} {C : Addr} (cn : ClsN K c C) : ∀ b, xt c "TemplateFault" = some b → PySem.W.kitOne K (.ref C) (.ref X_TemplateFault) = some b := fun b h => by
  unfold xt at h
  by_cases h_UnknownGroup : c = "UnknownGroup"
  · subst h_UnknownGroup
    cases cn.uniq T.rs_UnknownGroup.cn
    rw [if_pos rfl] at h
    have h' : some false = some b := h
    cases h'
    exact T.q_UnknownGroup_TemplateFault
  rw [if_neg h_UnknownGroup] at h
  cases h
theorem XCls.kit_TooManyAnswers {K : PySem.W.Frag} {mg : Str → Option Value} {X_BadTree X_NoSuchText X_NotPlain X_NotRegular X_OutOfSteps X_PatternFault X_SpanError X_StreamClosed X_TemplateFault X_TooManyAnswers X_TooManyStates X_UnknownGroup fx_UnknownGroup : Addr} (T : XCls K mg X_BadTree X_NoSuchText X_NotPlain X_NotRegular X_OutOfSteps X_PatternFault X_SpanError X_StreamClosed X_TemplateFault X_TooManyAnswers X_TooManyStates X_UnknownGroup fx_UnknownGroup) {c : Str} {C : Addr} (cn : ClsN K c C) : ∀ b, xt c "TooManyAnswers" = some b → PySem.W.kitOne K (.ref C) (.ref X_TooManyAnswers) = some b := fun b h => by
  unfold xt at h
  by_cases h_UnknownGroup : c = "UnknownGroup"
  · subst h_UnknownGroup
    cases cn.uniq T.rs_UnknownGroup.cn
    rw [if_pos rfl] at h
    have h' : some false = some b := h
    cases h'
    exact T.q_UnknownGroup_TooManyAnswers
  rw [if_neg h_UnknownGroup] at h
  cases h
theorem XCls.kit_TooManyStates {K : PySem.W.Frag} {mg : Str → Option Value} {X_BadTree X_NoSuchText X_NotPlain X_NotRegular X_OutOfSteps X_PatternFault X_SpanError X_StreamClosed X_TemplateFault X_TooManyAnswers X_TooManyStates X_UnknownGroup fx_UnknownGroup : Addr} (T : XCls K mg X_BadTree X_NoSuchText X_NotPlain X_NotRegular X_OutOfSteps X_PatternFault X_SpanError X_StreamClosed X_TemplateFault X_TooManyAnswers X_TooManyStates X_UnknownGroup fx_UnknownGroup) {c : Str} {C : Addr} (cn : ClsN K c C) : ∀ b, xt c "TooManyStates" = some b → PySem.W.kitOne K (.ref C) (.ref X_TooManyStates) = some b := fun b h => by
  unfold xt at h
  by_cases h_UnknownGroup : c = "UnknownGroup"
  · subst h_UnknownGroup
    cases cn.uniq T.rs_UnknownGroup.cn
    rw [if_pos rfl] at h
    have h' : some false = some b := h
    cases h'
    exact T.q_UnknownGroup_TooManyStates
  rw [if_neg h_UnknownGroup] at h
  cases h
theorem XCls.kit_UnknownGroup {K : PySem.W.Frag} {mg : Str → Option Value} {X_BadTree X_NoSuchText X_NotPlain X_NotRegular X_OutOfSteps X_PatternFault X_SpanError X_StreamClosed X_TemplateFault X_TooManyAnswers X_TooManyStates X_UnknownGroup fx_UnknownGroup : Addr} (T : XCls K mg X_BadTree X_NoSuchText X_NotPlain X_NotRegular X_OutOfSteps X_PatternFault X_SpanError X_StreamClosed X_TemplateFault X_TooManyAnswers X_TooManyStates X_UnknownGroup fx_UnknownGroup) {c : Str} {C : Addr} (cn : ClsN K c C) : ∀ b, xt c "UnknownGroup" = some b → PySem.W.kitOne K (.ref C) (.ref X_UnknownGroup) = some b := fun b h => by
  unfold xt at h
  by_cases h_UnknownGroup : c = "UnknownGroup"
  · subst h_UnknownGroup
    cases cn.uniq T.rs_UnknownGroup.cn
    rw [if_pos rfl] at h
    have h' : some true = some b := h
    cases h'
    exact T.q_UnknownGroup_UnknownGroup
  rw [if_neg h_UnknownGroup] at h
  cases h
theorem XCls.kit_ValueError {K : PySem.W.Frag} {mg : Str → Option Value} {X_BadTree X_NoSuchText X_NotPlain X_NotRegular X_OutOfSteps X_PatternFault X_SpanError X_StreamClosed X_TemplateFault X_TooManyAnswers X_TooManyStates X_UnknownGroup fx_UnknownGroup : Addr} (T : XCls K mg X_BadTree X_NoSuchText X_NotPlain X_NotRegular X_OutOfSteps X_PatternFault X_SpanError X_StreamClosed X_TemplateFault X_TooManyAnswers X_TooManyStates X_UnknownGroup fx_UnknownGroup) {c : Str} {C : Addr} (cn : ClsN K c C) : ∀ b, xt c "ValueError" = some b → PySem.W.kitOne K (.ref C) (.type "ValueError") = some b := fun b h => by
  unfold xt at h
  by_cases h_UnknownGroup : c = "UnknownGroup"
  · subst h_UnknownGroup
    cases cn.uniq T.rs_UnknownGroup.cn
    rw [if_pos rfl] at h
    have h' : some true = some b := h
    cases h'
    exact T.q_UnknownGroup_ValueError
  rw [if_neg h_UnknownGroup] at h
  cases h
theorem XCls.exm_SpanError {K : PySem.W.Frag} {mg : Str → Option Value} {X_BadTree X_NoSuchText X_NotPlain X_NotRegular X_OutOfSteps X_PatternFault X_SpanError X_StreamClosed X_TemplateFault X_TooManyAnswers X_TooManyStates X_UnknownGroup fx_UnknownGroup : Addr} (T : XCls K mg X_BadTree X_NoSuchText X_NotPlain X_NotRegular X_OutOfSteps X_PatternFault X_SpanError X_StreamClosed X_TemplateFault X_TooManyAnswers X_TooManyStates X_UnknownGroup fx_UnknownGroup) {c : Str} {C : Addr} (cn : ClsN K c C) : ∀ b, xt c "SpanError" = some b → PySem.W.exmOne K (.ref C) (.ref X_SpanError) = some b := fun b h => by
  unfold xt at h
  by_cases h_UnknownGroup : c = "UnknownGroup"
  · subst h_UnknownGroup
    cases cn.uniq T.rs_UnknownGroup.cn
    rw [if_pos rfl] at h
    have h' : some true = some b := h
    cases h'
    exact T.e_UnknownGroup_SpanError
  rw [if_neg h_UnknownGroup] at h
  cases h
theorem XCls.su {K : PySem.W.Frag} {mg : Str → Option Value} {X_BadTree X_NoSuchText X_NotPlain X_NotRegular X_OutOfSteps X_PatternFault X_SpanError X_StreamClosed X_TemplateFault X_TooManyAnswers X_TooManyStates X_UnknownGroup fx_UnknownGroup : Addr} (T : XCls K mg X_BadTree X_NoSuchText X_NotPlain X_NotRegular X_OutOfSteps X_PatternFault X_SpanError X_StreamClosed X_TemplateFault X_TooManyAnswers X_TooManyStates X_UnknownGroup fx_UnknownGroup) {c k : Str} {b : Bool} {C : Addr} (h : xt c k = some b) (cn : ClsN K c C) : ExcC K C := by
  unfold xt at h
  by_cases h_UnknownGroup : c = "UnknownGroup"
  · subst h_UnknownGroup
    cases cn.uniq T.rs_UnknownGroup.cn
    exact T.xc_UnknownGroup
  rw [if_neg h_UnknownGroup] at h
  cases h
theorem XCls.no_name {K : PySem.W.Frag} {mg : Str → Option Value} {X_BadTree X_NoSuchText X_NotPlain X_NotRegular X_OutOfSteps X_PatternFault X_SpanError X_StreamClosed X_TemplateFault X_TooManyAnswers X_TooManyStates X_UnknownGroup fx_UnknownGroup : Addr} (T : XCls K mg X_BadTree X_NoSuchText X_NotPlain X_NotRegular X_OutOfSteps X_PatternFault X_SpanError X_StreamClosed X_TemplateFault X_TooManyAnswers X_TooManyStates X_UnknownGroup fx_UnknownGroup) {c k : Str} {b : Bool} {C : Addr} (cn : ClsN K c C) (h : xt c k = some b) : PySem.W.findIn K (.ref C) "name" = some none := by
  unfold xt at h
  by_cases h_UnknownGroup : c = "UnknownGroup"
  · subst h_UnknownGroup
    cases cn.uniq T.rs_UnknownGroup.cn
    exact T.n_UnknownGroup_name
  rw [if_neg h_UnknownGroup] at h
  cases h
theorem ok_Answer_eq {f : Addr} {fd : FuncData} (F : FunG K "__eq__" "Answer.__eq__" st_Answer_eq f fd) (b_isinstance : mg "isinstance" = none) {C_Answer : Addr} (hC_Answer : ClsN K "Answer" C_Answer) (cl_Answer : Cls K C_Answer) (na_Answer_text : NoAttr K C_Answer "text") (na_Answer_start : NoAttr K C_Answer "start") (na_Answer_end : NoAttr K C_Answer "end") (na_Answer_row : NoAttr K C_Answer "row") (ic_Answer : IsiC K C_Answer) (mgC_Answer : mg "Answer" = some (.ref C_Answer)) :
    FnOk P w K mg base CX0 1 f fd P_Answer_eq (spF K 2 f_Answer_eq) := by
  have nd := sc_Answer_eq.nd
  refine fn_ok F sc_Answer_eq rfl rfl (by decide) fun cdv A outer s H E hr => ?_
  have hu := hr.units
  exact (sb_cons (ss_if (st_not (st_val (se_isC b_isinstance rfl hC_Answer cl_Answer ic_Answer mgC_Answer rfl (se_var (pv 1))) (by intro _; rfl))) (sb_one (ss_ret se_bl)) sb_nil)
    (sb_one (ss_ret (se_and (se_c (oEq hu) (se_fld hC_Answer cl_Answer na_Answer_text (se_var (pv 0)) rfl) (se_fld hC_Answer cl_Answer na_Answer_text (se_var (pv 1)) rfl) (nomark _)) (se_and (se_c (oEq hu) (se_fld hC_Answer cl_Answer na_Answer_start (se_var (pv 0)) rfl) (se_fld hC_Answer cl_Answer na_Answer_start (se_var (pv 1)) rfl) (nomark _)) (se_and (se_c (oEq hu) (se_fld hC_Answer cl_Answer na_Answer_end (se_var (pv 0)) rfl) (se_fld hC_Answer cl_Answer na_Answer_end (se_var (pv 1)) rfl) (nomark _)) (se_one (se_c (oEq hu) (se_fld hC_Answer cl_Answer na_Answer_row (se_var (pv 0)) rfl) (se_fld hC_Answer cl_Answer na_Answer_row (se_var (pv 1)) rfl) (nomark _)))))))))
theorem ok_init_Answer {f : Addr} {fd : FuncData} (F : FunG K "__init__" "Answer.__init__" st_init_Answer f fd) {C_Answer : Addr} (cl_Answer : Cls K C_Answer) (na_Answer_text : NoAttr K C_Answer "text") (na_Answer_start : NoAttr K C_Answer "start") (na_Answer_end : NoAttr K C_Answer "end") (na_Answer_row : NoAttr K C_Answer "row") (na_Answer__names : NoAttr K C_Answer "_names") :
    FnOk P w K mg base CX0 1 f fd P_init_Answer (spI K C_Answer 4 g_Answer) := by
  have nd := sc_init_Answer.nd
  refine fn_init F sc_init_Answer rfl rfl (by decide) fun cdv A outer s H E hr => ?_
  have hu := hr.units
  exact (si0_cons (si0_fld cl_Answer na_Answer_text (pv 0) (se_var (pv 1)) rfl)
    (si0_cons (si0_fld cl_Answer na_Answer_start (pv 0) (se_var (pv 2)) rfl)
    (si0_cons (si0_fld cl_Answer na_Answer_end (pv 0) (se_var (pv 3)) rfl)
    (si0_cons (si0_fld cl_Answer na_Answer_row (pv 0) (se_var (pv 4)) rfl)
    (si0_cons (si0_fld cl_Answer na_Answer__names (pv 0) (se_lc (own := [("triple", 5)]) rfl nd (si_seq (se_var (pv 4))) (blkOk_by (own := [("triple", 5)]) (N := N_init_Answer) (sc := defScope st_init_Answer) (by decide +kernel)) (by decide) (gok_name 5) (fun _ _ _ _ _ => (sg_name (i := 5) nd rfl (Or.inl rfl))) (fun _ _ _ _ _ => sts_nil) (fun _ _ _ _ _ => (se_ix (se_var (pv 5)) se_int (fun _ _ => rfl)))) rfl)
    si0_nil)))))
theorem ok_law_apart {f : Addr} {fd : FuncData} (F : FunG K "_law_apart" "_law_apart" st_law_apart f fd) (b_len : mg "len" = none) (b_list : mg "list" = none) {C_Answer : Addr} (hC_Answer : ClsN K "Answer" C_Answer) (cl_Answer : Cls K C_Answer) (ic_Answer : IsiC K C_Answer) (qc_Answer : EqC K C_Answer) (ql_Answer : EqL K C_Answer) (rq_Answer : RqC K C_Answer) {a_Answer_eq : Addr} {d_Answer_eq : FuncData} (ok_Answer_eq : FnOk P w K mg base CX0 1 a_Answer_eq d_Answer_eq P_Answer_eq (spF K 2 f_Answer_eq)) (at_Answer_eq : PySem.W.findIn K (.ref C_Answer) "__eq__" = some (some (.ref a_Answer_eq))) (fn_Answer_eq : PySem.W.isFn K (.ref a_Answer_eq) = true) (kp_Answer_eq : PySem.W.keepIn K (.ref a_Answer_eq) = true) (bi_Answer_eq : Binds K d_Answer_eq P_Answer_eq []) :
    FnOk P w K mg base CX0 2 f fd P_law_apart (spF K 2 f_law_apart) := by
  have nd := sc_law_apart.nd
  refine fn_ok F sc_law_apart rfl rfl (by decide) fun cdv A outer s H E hr => ?_
  have hu := hr.units
  exact (sb_cons (ss_setlc (i := 2) (own := [("_law_triple", 4)]) rfl nd rfl rfl (sw_true rfl rfl rfl (by decide +kernel)) (si_seq (se_ix (se_var (pv 1)) se_int (fun _ _ => rfl))) (blkOk_by (own := [("_law_triple", 4)]) (N := N_law_apart) (sc := defScope st_law_apart) (by decide +kernel)) (by decide) (gok_name 4) (fun _ _ _ _ _ => (sg_name (i := 4) nd rfl (Or.inl rfl))) (fun _ _ _ _ _ => sts_nil) (fun _ _ _ _ _ => (se_ix (se_var (pv 4)) se_int (fun _ _ => rfl))))
    (sb_cons (ss_for PassesOwn.never rfl (si_seq (se_lst (sa_cons (se_var (pv 1)) (sa_cons (se_tolist b_list rfl (se_var (pv 1))) (sa_cons (se_slcA (se_var (pv 1)) (so_some se_int) so_none) (sa_cons (se_ix (se_var (pv 1)) se_int (fun _ _ => rfl)) (sa_cons (se_var (pv 2)) (sa_cons (se_ix (se_var (pv 1)) se_int (fun _ _ => rfl)) (sa_cons (se_slcA (se_ix (se_var (pv 1)) se_int (fun _ _ => rfl)) (so_some (se_ix (se_var (pv 1)) se_int (fun _ _ => rfl))) (so_some (se_ix (se_var (pv 1)) se_int (fun _ _ => rfl)))) (sa_cons (se_ix (se_var (pv 1)) se_int (fun _ _ => rfl)) (sa_cons (se_len b_len rfl (sa_cons (se_var (pv 2)) sa_nil)) (sa_cons se_non sa_nil)))))))))))) (sg_name (i := 3) nd rfl (Or.inl rfl)) (sb_one (ss_if (st_bool (sw_or (st_c (Op2.or (Op2.or (Op2.or (Op2.or (oEq hu) (oOwnEq hC_Answer cl_Answer ic_Answer qc_Answer at_Answer_eq fn_Answer_eq hu ok_Answer_eq (hr.mono (by decide)) bi_Answer_eq )) (oOwnEqL hC_Answer ql_Answer at_Answer_eq fn_Answer_eq hu ok_Answer_eq (hr.mono (by decide)) bi_Answer_eq )) (oReqEq hC_Answer rq_Answer at_Answer_eq fn_Answer_eq hu ok_Answer_eq (hr.mono (by decide)) bi_Answer_eq )) (oReqEqL hC_Answer rq_Answer at_Answer_eq fn_Answer_eq hu ok_Answer_eq (hr.mono (by decide)) bi_Answer_eq )) (se_var (pv 0)) (se_var (pv 3)) (nomark _)) (sw_or1 (st_c (Op2.or (Op2.or (Op2.or (Op2.or (oEq hu) (oOwnEq hC_Answer cl_Answer ic_Answer qc_Answer at_Answer_eq fn_Answer_eq hu ok_Answer_eq (hr.mono (by decide)) bi_Answer_eq )) (oOwnEqL hC_Answer ql_Answer at_Answer_eq fn_Answer_eq hu ok_Answer_eq (hr.mono (by decide)) bi_Answer_eq )) (oReqEq hC_Answer rq_Answer at_Answer_eq fn_Answer_eq hu ok_Answer_eq (hr.mono (by decide)) bi_Answer_eq )) (oReqEqL hC_Answer rq_Answer at_Answer_eq fn_Answer_eq hu ok_Answer_eq (hr.mono (by decide)) bi_Answer_eq )) (se_var (pv 3)) (se_var (pv 0)) (nomark _))))) (sb_one (ss_ret se_bl)) sb_nil)))
    (sb_one (ss_ret se_bl))))
theorem ok_law_next {f : Addr} {fd : FuncData} (F : FunG K "_law_next" "_law_next" st_law_next f fd) (b_int : mg "int" = none) (b_len : mg "len" = none) :
    FnOk P w K mg base CX0 1 f fd P_law_next (spF K 2 f_law_next) := by
  have nd := sc_law_next.nd
  refine fn_ok F sc_law_next rfl rfl (by decide) fun cdv A outer s H E hr => ?_
  have hu := hr.units
  exact (sb_cons (ss_set (i := 2) nd rfl (Or.inl rfl) (se_ix (se_var (pv 0)) se_int (fun _ _ => rfl)))
    (sb_cons (ss_if (st_c oLt (se_var (pv 2)) (se_len b_len rfl (sa_cons (se_ix (se_var (pv 0)) se_int (fun _ _ => rfl)) sa_nil)) (nomark _)) (sb_cons (ss_seti (i := 0) (pv 0) se_int (se_b oAdd (se_var (pv 2)) se_int))
    (sb_one (ss_ret (se_b oMod (se_toint b_int rfl (sa_cons (se_ix (se_ix (se_var (pv 0)) se_int (fun _ _ => rfl)) (se_var (pv 2)) (fun _ _ => rfl)) sa_nil)) (se_var (pv 1)))))) sb_nil)
    (sb_cons (ss_seti (i := 0) (pv 0) se_int (se_b oMod (se_toint b_int rfl (sa_cons (se_b oAdd (se_b oMul (se_ix (se_var (pv 0)) se_int (fun _ _ => rfl)) se_int) se_int) sa_nil)) se_int))
    (sb_cons (ss_seti (i := 0) (pv 0) se_int (se_b oMod (se_toint b_int rfl (sa_cons (se_b oAdd (se_b oMul (se_ix (se_var (pv 0)) se_int (fun _ _ => rfl)) se_int) se_int) sa_nil)) se_int))
    (sb_one (ss_ret (se_b oMod (se_toint b_int rfl (sa_cons (se_b oAdd (se_b oDiv (se_ix (se_var (pv 0)) se_int (fun _ _ => rfl)) se_int) (se_b oDiv (se_ix (se_var (pv 0)) se_int (fun _ _ => rfl)) se_int)) sa_nil)) (se_var (pv 1)))))))))
theorem ok_law_signs {f : Addr} {fd : FuncData} (F : FunG K "_law_signs" "_law_signs" st_law_signs f fd)  :
    FnOk P w K mg base CX0 1 f fd P_law_signs (spF K 0 f_law_signs) := by
  have nd := sc_law_signs.nd
  refine fn_ok F sc_law_signs rfl rfl (by decide) fun cdv A outer s H E hr => ?_
  have hu := hr.units
  exact (sb_cons (ss_set (i := 0) nd rfl (Or.inl rfl) (se_str (cs := tx_0123456789abcd) (by decide +kernel)))
    (sb_one (ss_ret (se_b oAdd (se_var (pv 0)) (se_str (cs := tx_abcdefghijklmn) (by decide +kernel))))))
theorem ok_law_changes {f : Addr} {fd : FuncData} (F : FunG K "_law_changes" "_law_changes" st_law_changes f fd) (b_int : mg "int" = none) (b_len : mg "len" = none) (b_list : mg "list" = none) (b_range : mg "range" = none) (b_sorted : mg "sorted" = none) (b_tuple : mg "tuple" = none) {a_law_next : Addr} {d_law_next : FuncData} (ok_law_next : FnOk P w K mg base CX0 1 a_law_next d_law_next P_law_next (spF K 2 f_law_next)) (mg_law_next : mg "_law_next" = some (.ref a_law_next)) (kp_law_next : PySem.W.keepIn K (.ref a_law_next) = true) (bi_law_next : Binds K d_law_next P_law_next []) {a_law_signs : Addr} {d_law_signs : FuncData} (ok_law_signs : FnOk P w K mg base CX0 1 a_law_signs d_law_signs P_law_signs (spF K 0 f_law_signs)) (mg_law_signs : mg "_law_signs" = some (.ref a_law_signs)) (kp_law_signs : PySem.W.keepIn K (.ref a_law_signs) = true) (bi_law_signs : Binds K d_law_signs P_law_signs []) :
    FnOk P w K mg base CX0 2 f fd P_law_changes (spF K 3 f_law_changes) := by
  have nd := sc_law_changes.nd
  refine fn_ok F sc_law_changes rfl rfl (by decide) fun cdv A outer s H E hr => ?_
  have hu := hr.units
  exact (sb_cons (ss_set (i := 3) nd rfl (Or.inl rfl) (se_ix (se_var (pv 1)) se_int (fun _ _ => rfl)))
    (sb_cons (ss_set (i := 4) nd rfl (Or.inl rfl) (se_ix (se_var (pv 1)) se_int (fun _ _ => rfl)))
    (sb_cons (ss_set (i := 5) nd rfl (Or.inl rfl) (se_ix (se_var (pv 1)) se_int (fun _ _ => rfl)))
    (sb_cons (ss_set (i := 6) nd rfl (Or.inl rfl) (se_ix (se_var (pv 1)) se_int (fun _ _ => rfl)))
    (sb_cons (ss_set (i := 7) nd rfl (Or.inl rfl) (se_call0 (fs := []) ok_law_signs fnS_len (hr.mono (by decide)) mg_law_signs kp_law_signs bi_law_signs rfl))
    (sb_cons (ss_set (i := 8) nd rfl (Or.inl rfl) (se_lst sa_nil))
    (sb_cons (ss_if (st_c oLt (se_len b_len rfl (sa_cons (se_var (pv 3)) sa_nil)) se_int (nomark _)) (sb_one (ss_app (i := 8) (pv 8) (se_tup (sa_cons (se_add (se_var (pv 3)) (se_ix (se_var (pv 7)) (se_call (fs := [true, false]) ok_law_next fnS_len (hr.mono (by decide)) mg_law_next kp_law_next bi_law_next rfl (sa_cons (se_var (pv 0)) (sa_cons se_int sa_nil))) (fun _ _ => rfl))) (sa_cons (se_var (pv 4)) (sa_cons (se_var (pv 5)) (sa_cons (se_var (pv 6)) sa_nil))))))) sb_nil)
    (sb_cons (ss_if (st_c oGt (se_len b_len rfl (sa_cons (se_var (pv 3)) sa_nil)) se_int (nomark _)) (sb_cons (ss_set (i := 12) nd rfl (Or.inl rfl) (se_call (fs := [true, false]) ok_law_next fnS_len (hr.mono (by decide)) mg_law_next kp_law_next bi_law_next rfl (sa_cons (se_var (pv 0)) (sa_cons (se_len b_len rfl (sa_cons (se_var (pv 3)) sa_nil)) sa_nil))))
    (sb_cons (ss_set (i := 13) nd rfl (Or.inl rfl) (se_ix (se_var (pv 7)) (se_b oMod (se_toint b_int rfl (sa_cons (se_b oAdd (se_b oAdd (se_find (se_var (pv 7)) (sa_cons (se_ix (se_var (pv 3)) (se_var (pv 12)) (fun _ _ => rfl)) sa_nil)) se_int) (se_call (fs := [true, false]) ok_law_next fnS_len (hr.mono (by decide)) mg_law_next kp_law_next bi_law_next rfl (sa_cons (se_var (pv 0)) (sa_cons se_int sa_nil)))) sa_nil)) se_int) (fun _ _ => rfl)))
    (sb_one (ss_app (i := 8) (pv 8) (se_tup (sa_cons (se_add (se_add (se_slcA (se_var (pv 3)) so_none (so_some (se_var (pv 12)))) (se_var (pv 13))) (se_slcA (se_var (pv 3)) (so_some (se_b oAdd (se_var (pv 12)) se_int)) so_none)) (sa_cons (se_var (pv 4)) (sa_cons (se_var (pv 5)) (sa_cons (se_var (pv 6)) sa_nil))))))))) sb_nil)
    (sb_cons (ss_if (st_c oGt (se_var (pv 4)) se_int (nomark _)) (sb_one (ss_app (i := 8) (pv 8) (se_tup (sa_cons (se_var (pv 3)) (sa_cons (se_b oSub (se_var (pv 4)) se_int) (sa_cons (se_var (pv 5)) (sa_cons (se_var (pv 6)) sa_nil))))))) sb_nil)
    (sb_cons (ss_if (st_c oLt (se_var (pv 5)) (se_len b_len rfl (sa_cons (se_var (pv 3)) sa_nil)) (nomark _)) (sb_one (ss_app (i := 8) (pv 8) (se_tup (sa_cons (se_var (pv 3)) (sa_cons (se_var (pv 4)) (sa_cons (se_b oAdd (se_var (pv 5)) se_int) (sa_cons (se_var (pv 6)) sa_nil))))))) sb_nil)
    (sb_cons (ss_setlc (i := 9) (own := [("_law_triple", 14)]) rfl nd rfl rfl (sw_true rfl rfl rfl (by decide +kernel)) (si_seq (se_var (pv 6))) (blkOk_by (own := [("_law_triple", 14)]) (N := N_law_changes) (sc := defScope st_law_changes) (by decide +kernel)) (by decide) (gok_name 14) (fun _ _ _ _ _ => (sg_name (i := 14) nd rfl (Or.inl rfl))) (fun _ _ _ _ _ => sts_nil) (fun _ _ _ _ _ => (se_ix (se_var (pv 14)) se_int (fun _ _ => rfl))))
    (sb_cons (ss_for PassesOwn.never rfl (si_seq (se_var (pv 2))) (sg_name (i := 10) nd rfl (Or.inl rfl)) (sb_one (ss_if (st_c oNi (se_var (pv 10)) (se_var (pv 9)) rfl) (sb_one (ss_app (i := 8) (pv 8) (se_tup (sa_cons (se_var (pv 3)) (sa_cons (se_var (pv 4)) (sa_cons (se_var (pv 5)) (sa_cons (se_totup b_tuple rfl (sa_cons (se_sortG hu b_sorted rfl (sa_cons (se_add (se_tolist b_list rfl (se_var (pv 6))) (se_lst (sa_cons (se_tup (sa_cons (se_var (pv 10)) (sa_cons (se_var (pv 4)) (sa_cons (se_var (pv 5)) sa_nil)))) sa_nil))) sa_nil)) sa_nil)) sa_nil))))))) sb_nil)))
    (sb_cons (ss_for PassesOwn.never rfl (si_range1 b_range rfl (sa_cons (se_len b_len rfl (sa_cons (se_var (pv 6)) sa_nil)) sa_nil)) (sg_name (i := 11) nd rfl (Or.inl rfl)) (sb_cons (ss_app (i := 8) (pv 8) (se_tup (sa_cons (se_var (pv 3)) (sa_cons (se_var (pv 4)) (sa_cons (se_var (pv 5)) (sa_cons (se_add (se_slcA (se_var (pv 6)) so_none (so_some (se_var (pv 11)))) (se_slcA (se_var (pv 6)) (so_some (se_b oAdd (se_var (pv 11)) se_int)) so_none)) sa_nil))))))
    (sb_one (ss_if (st_bool (sw_or (st_c oGt (se_ix (se_ix (se_var (pv 6)) (se_var (pv 11)) (fun _ _ => rfl)) se_int (fun _ _ => rfl)) (se_var (pv 4)) (nomark _)) (sw_or1 (st_c oLt (se_ix (se_ix (se_var (pv 6)) (se_var (pv 11)) (fun _ _ => rfl)) se_int (fun _ _ => rfl)) (se_var (pv 5)) (nomark _))))) (sb_one (ss_app (i := 8) (pv 8) (se_tup (sa_cons (se_var (pv 3)) (sa_cons (se_var (pv 4)) (sa_cons (se_var (pv 5)) (sa_cons (se_b oAdd (se_b oAdd (se_slcA (se_var (pv 6)) so_none (so_some (se_var (pv 11)))) (se_tup (sa_cons (se_tup (sa_cons (se_ix (se_ix (se_var (pv 6)) (se_var (pv 11)) (fun _ _ => rfl)) se_int (fun _ _ => rfl)) (sa_cons (se_var (pv 4)) (sa_cons (se_var (pv 5)) sa_nil)))) sa_nil))) (se_slcA (se_var (pv 6)) (so_some (se_b oAdd (se_var (pv 11)) se_int)) so_none)) sa_nil))))))) (sb_one (ss_if (st_c oLt (se_var (pv 4)) (se_var (pv 5)) (nomark _)) (sb_one (ss_app (i := 8) (pv 8) (se_tup (sa_cons (se_var (pv 3)) (sa_cons (se_var (pv 4)) (sa_cons (se_var (pv 5)) (sa_cons (se_b oAdd (se_b oAdd (se_slcA (se_var (pv 6)) so_none (so_some (se_var (pv 11)))) (se_tup (sa_cons (se_tup (sa_cons (se_ix (se_ix (se_var (pv 6)) (se_var (pv 11)) (fun _ _ => rfl)) se_int (fun _ _ => rfl)) (sa_cons (se_var (pv 4)) (sa_cons (se_var (pv 4)) sa_nil)))) sa_nil))) (se_slcA (se_var (pv 6)) (so_some (se_b oAdd (se_var (pv 11)) se_int)) so_none)) sa_nil))))))) sb_nil))))))
    (sb_one (ss_ret (se_var (pv 8)))))))))))))))))
theorem ok_law_draw {f : Addr} {fd : FuncData} (F : FunG K "_law_draw" "_law_draw" st_law_draw f fd) (b_int : mg "int" = none) (b_range : mg "range" = none) :
    FnOk P w K mg base CX0 1 f fd P_law_draw (spF K 1 f_law_draw) := by
  have nd := sc_law_draw.nd
  refine fn_ok F sc_law_draw rfl rfl (by decide) fun cdv A outer s H E hr => ?_
  have hu := hr.units
  exact (sb_cons (ss_set (i := 1) nd rfl (Or.inl rfl) (se_lst sa_nil))
    (sb_cons (ss_set (i := 2) nd rfl (Or.inl rfl) se_int)
    (sb_cons (ss_set (i := 3) nd rfl (Or.inl rfl) se_int)
    (sb_cons (ss_for PassesOwn.never rfl (si_seq (se_var (pv 0))) (sg_name (i := 4) nd rfl (Or.inl rfl)) (sb_cons (ss_set (i := 2) nd rfl (Or.inl rfl) (se_b oMod (se_toint b_int rfl (sa_cons (se_b oAdd (se_b oMul (se_var (pv 2)) se_int) (se_var (pv 4))) sa_nil)) se_int))
    (sb_cons (ss_set (i := 3) nd rfl (Or.inl rfl) (se_b oMod (se_toint b_int rfl (sa_cons (se_b oAdd (se_b oMul (se_var (pv 3)) se_int) (se_b oDiv (se_var (pv 4)) se_int)) sa_nil)) se_int))
    (sb_cons (ss_set (i := 5) nd rfl (Or.inl rfl) (se_var (pv 4)))
    (sb_cons (ss_if (st_c oLt (se_var (pv 4)) (se_b oPow se_int se_int) (nomark _)) (sb_one (ss_set (i := 5) nd rfl (Or.inl rfl) se_int)) sb_nil)
    (sb_one (ss_for PassesOwn.never rfl (si_range1 b_range rfl (sa_cons se_int sa_nil)) (sg_name (i := 6) nd rfl (Or.inl rfl)) (sb_one (ss_if (st_c oGt (se_var (pv 5)) se_int (nomark _)) (sb_cons (ss_app (i := 1) (pv 1) (se_b oMod (se_toint b_int rfl (sa_cons (se_var (pv 5)) sa_nil)) se_int))
    (sb_one (ss_set (i := 5) nd rfl (Or.inl rfl) (se_b oDiv (se_var (pv 5)) se_int)))) sb_nil)))))))))
    (sb_one (ss_ret (se_lst (sa_cons se_int (sa_cons (se_var (pv 2)) (sa_cons (se_var (pv 3)) (sa_cons (se_var (pv 1)) (sa_cons se_int sa_nil))))))))))))
theorem ok_law_near_name {f : Addr} {fd : FuncData} (F : FunG K "_law_near_name" "_law_near_name" st_law_near_name f fd) (b_len : mg "len" = none) {a_law_next : Addr} {d_law_next : FuncData} (ok_law_next : FnOk P w K mg base CX0 1 a_law_next d_law_next P_law_next (spF K 2 f_law_next)) (mg_law_next : mg "_law_next" = some (.ref a_law_next)) (kp_law_next : PySem.W.keepIn K (.ref a_law_next) = true) (bi_law_next : Binds K d_law_next P_law_next []) :
    FnOk P w K mg base CX0 2 f fd P_law_near_name (spF K 2 f_law_near_name) := by
  have nd := sc_law_near_name.nd
  refine fn_ok F sc_law_near_name rfl rfl (by decide) fun cdv A outer s H E hr => ?_
  have hu := hr.units
  exact (sb_cons (ss_set (i := 2) nd rfl (Or.inl rfl) (se_str (cs := tx_abcdefghijklmn2) (by decide +kernel)))
    (sb_cons (ss_set (i := 3) nd rfl (Or.inl rfl) (se_call (fs := [true, false]) ok_law_next fnS_len (hr.mono (by decide)) mg_law_next kp_law_next bi_law_next rfl (sa_cons (se_var (pv 0)) (sa_cons se_int sa_nil))))
    (sb_cons (ss_set (i := 4) nd rfl (Or.inl rfl) (se_call (fs := [true, false]) ok_law_next fnS_len (hr.mono (by decide)) mg_law_next kp_law_next bi_law_next rfl (sa_cons (se_var (pv 0)) (sa_cons (se_len b_len rfl (sa_cons (se_var (pv 1)) sa_nil)) sa_nil))))
    (sb_cons (ss_if (st_bool (sw_and (st_c (oEq hu) (se_var (pv 3)) se_int (nomark _)) (sw_and1 (st_c oGt (se_len b_len rfl (sa_cons (se_var (pv 1)) sa_nil)) se_int (nomark _))))) (sb_one (ss_ret (se_slcA (se_var (pv 1)) so_none (so_some (se_b oSub (se_len b_len rfl (sa_cons (se_var (pv 1)) sa_nil)) se_int))))) sb_nil)
    (sb_cons (ss_if (st_bool (sw_and (st_c (oEq hu) (se_var (pv 3)) se_int (nomark _)) (sw_and1 (st_c oLt (se_len b_len rfl (sa_cons (se_var (pv 1)) sa_nil)) se_int (nomark _))))) (sb_one (ss_ret (se_add (se_var (pv 1)) (se_ix (se_var (pv 2)) (se_call (fs := [true, false]) ok_law_next fnS_len (hr.mono (by decide)) mg_law_next kp_law_next bi_law_next rfl (sa_cons (se_var (pv 0)) (sa_cons se_int sa_nil))) (fun _ _ => rfl))))) sb_nil)
    (sb_one (ss_ret (se_add (se_add (se_slcA (se_var (pv 1)) so_none (so_some (se_var (pv 4)))) (se_ix (se_var (pv 2)) (se_call (fs := [true, false]) ok_law_next fnS_len (hr.mono (by decide)) mg_law_next kp_law_next bi_law_next rfl (sa_cons (se_var (pv 0)) (sa_cons se_int sa_nil))) (fun _ _ => rfl))) (se_slcA (se_var (pv 1)) (so_some (se_b oAdd (se_var (pv 4)) se_int)) so_none)))))))))
theorem ok_law_new_name {f : Addr} {fd : FuncData} (F : FunG K "_law_new_name" "_law_new_name" st_law_new_name f fd) (b_range : mg "range" = none) {a_law_next : Addr} {d_law_next : FuncData} (ok_law_next : FnOk P w K mg base CX0 1 a_law_next d_law_next P_law_next (spF K 2 f_law_next)) (mg_law_next : mg "_law_next" = some (.ref a_law_next)) (kp_law_next : PySem.W.keepIn K (.ref a_law_next) = true) (bi_law_next : Binds K d_law_next P_law_next []) :
    FnOk P w K mg base CX0 2 f fd P_law_new_name (spF K 1 f_law_new_name) := by
  have nd := sc_law_new_name.nd
  refine fn_ok F sc_law_new_name rfl rfl (by decide) fun cdv A outer s H E hr => ?_
  have hu := hr.units
  exact (sb_cons (ss_set (i := 1) nd rfl (Or.inl rfl) (se_str (cs := tx_abcdefghijklmn3) (by decide +kernel)))
    (sb_cons (ss_set (i := 2) nd rfl (Or.inl rfl) (se_b oAdd (se_var (pv 1)) (se_str (cs := tx_0123456789) (by decide +kernel))))
    (sb_cons (ss_set (i := 3) nd rfl (Or.inl rfl) (se_ix (se_var (pv 1)) (se_call (fs := [true, false]) ok_law_next fnS_len (hr.mono (by decide)) mg_law_next kp_law_next bi_law_next rfl (sa_cons (se_var (pv 0)) (sa_cons se_int sa_nil))) (fun _ _ => rfl)))
    (sb_cons (ss_for PassesOwn.never rfl (si_range1 b_range rfl (sa_cons (se_call (fs := [true, false]) ok_law_next fnS_len (hr.mono (by decide)) mg_law_next kp_law_next bi_law_next rfl (sa_cons (se_var (pv 0)) (sa_cons se_int sa_nil))) sa_nil)) (sg_name (i := 4) nd rfl (Or.inl rfl)) (sb_one (ss_set (i := 3) nd rfl (Or.inl rfl) (se_add (se_var (pv 3)) (se_ix (se_var (pv 2)) (se_call (fs := [true, false]) ok_law_next fnS_len (hr.mono (by decide)) mg_law_next kp_law_next bi_law_next rfl (sa_cons (se_var (pv 0)) (sa_cons se_int sa_nil))) (fun _ _ => rfl))))))
    (sb_one (ss_ret (se_var (pv 3))))))))
theorem ok_law_names {f : Addr} {fd : FuncData} (F : FunG K "_law_names" "_law_names" st_law_names f fd) (b_len : mg "len" = none) (b_range : mg "range" = none) (b_sorted : mg "sorted" = none) {a_law_near_name : Addr} {d_law_near_name : FuncData} (ok_law_near_name : FnOk P w K mg base CX0 2 a_law_near_name d_law_near_name P_law_near_name (spF K 2 f_law_near_name)) (mg_law_near_name : mg "_law_near_name" = some (.ref a_law_near_name)) (kp_law_near_name : PySem.W.keepIn K (.ref a_law_near_name) = true) (bi_law_near_name : Binds K d_law_near_name P_law_near_name []) {a_law_new_name : Addr} {d_law_new_name : FuncData} (ok_law_new_name : FnOk P w K mg base CX0 2 a_law_new_name d_law_new_name P_law_new_name (spF K 1 f_law_new_name)) (mg_law_new_name : mg "_law_new_name" = some (.ref a_law_new_name)) (kp_law_new_name : PySem.W.keepIn K (.ref a_law_new_name) = true) (bi_law_new_name : Binds K d_law_new_name P_law_new_name []) {a_law_next : Addr} {d_law_next : FuncData} (ok_law_next : FnOk P w K mg base CX0 1 a_law_next d_law_next P_law_next (spF K 2 f_law_next)) (mg_law_next : mg "_law_next" = some (.ref a_law_next)) (kp_law_next : PySem.W.keepIn K (.ref a_law_next) = true) (bi_law_next : Binds K d_law_next P_law_next []) :
    FnOk P w K mg base CX0 3 f fd P_law_names (spF K 1 f_law_names) := by
  have nd := sc_law_names.nd
  refine fn_ok F sc_law_names rfl rfl (by decide) fun cdv A outer s H E hr => ?_
  have hu := hr.units
  exact (sb_cons (ss_set (i := 1) nd rfl (Or.inl rfl) (se_lst (sa_cons (se_call (fs := [true]) ok_law_new_name fnS_len (hr.mono (by decide)) mg_law_new_name kp_law_new_name bi_law_new_name rfl (sa_cons (se_var (pv 0)) sa_nil)) sa_nil)))
    (sb_cons (ss_for PassesOwn.never rfl (si_range1 b_range rfl (sa_cons (se_call (fs := [true, false]) ok_law_next fnS_len (hr.mono (by decide)) mg_law_next kp_law_next bi_law_next rfl (sa_cons (se_var (pv 0)) (sa_cons se_int sa_nil))) sa_nil)) (sg_name (i := 2) nd rfl (Or.inl rfl)) (sb_cons (ss_set (i := 3) nd rfl (Or.inl rfl) (se_call (fs := [true, false]) ok_law_near_name fnS_len (hr.mono (by decide)) mg_law_near_name kp_law_near_name bi_law_near_name rfl (sa_cons (se_var (pv 0)) (sa_cons (se_ix (se_var (pv 1)) (se_call (fs := [true, false]) ok_law_next fnS_len (hr.mono (by decide)) mg_law_next kp_law_next bi_law_next rfl (sa_cons (se_var (pv 0)) (sa_cons (se_len b_len rfl (sa_cons (se_var (pv 1)) sa_nil)) sa_nil))) (fun _ _ => rfl)) sa_nil))))
    (sb_cons (ss_if (st_c (oEq hu) (se_call (fs := [true, false]) ok_law_next fnS_len (hr.mono (by decide)) mg_law_next kp_law_next bi_law_next rfl (sa_cons (se_var (pv 0)) (sa_cons se_int sa_nil))) se_int (nomark _)) (sb_one (ss_set (i := 3) nd rfl (Or.inl rfl) (se_call (fs := [true]) ok_law_new_name fnS_len (hr.mono (by decide)) mg_law_new_name kp_law_new_name bi_law_new_name rfl (sa_cons (se_var (pv 0)) sa_nil)))) sb_nil)
    (sb_one (ss_if (st_c oNi (se_var (pv 3)) (se_var (pv 1)) rfl) (sb_one (ss_app (i := 1) (pv 1) (se_var (pv 3)))) sb_nil)))))
    (sb_one (ss_ret (se_sortG hu b_sorted rfl (sa_cons (se_var (pv 1)) sa_nil))))))
theorem ok_Answer_contains {f : Addr} {fd : FuncData} (F : FunG K "__contains__" "Answer.__contains__" st_Answer_contains f fd) {C_Answer : Addr} (hC_Answer : ClsN K "Answer" C_Answer) (cl_Answer : Cls K C_Answer) (na_Answer__names : NoAttr K C_Answer "_names") :
    FnOk P w K mg base CX0 1 f fd P_Answer_contains (spF K 2 f_Answer_contains) := by
  have nd := sc_Answer_contains.nd
  refine fn_ok F sc_Answer_contains rfl rfl (by decide) fun cdv A outer s H E hr => ?_
  have hu := hr.units
  exact (sb_one (ss_ret (se_c oIn (se_var (pv 1)) (se_fld hC_Answer cl_Answer na_Answer__names (se_var (pv 0)) rfl) rfl)))
theorem ok_Answer_iter {f : Addr} {fd : FuncData} (F : FunG K "__iter__" "Answer.__iter__" st_Answer_iter f fd) (b_iter : mg "iter" = none) {C_Answer : Addr} (hC_Answer : ClsN K "Answer" C_Answer) (cl_Answer : Cls K C_Answer) (na_Answer__names : NoAttr K C_Answer "_names") :
    ItFn P w K mg base 1 f fd P_Answer_iter "Answer" "_names" := by
  have nd := sc_Answer_iter.nd
  refine fn_it F sc_Answer_iter rfl rfl (by decide) fun cdv A outer s H E hr => ?_
  exact pss_cons (ps_ret (pe_callB (x := "iter") call_iterA rfl b_iter (by decide +kernel) (sa_cons (se_fld hC_Answer cl_Answer na_Answer__names (se_var (pv 0)) rfl) sa_nil))) pss_nil
theorem ok_Answer_len {f : Addr} {fd : FuncData} (F : FunG K "__len__" "Answer.__len__" st_Answer_len f fd) (b_len : mg "len" = none) {C_Answer : Addr} (hC_Answer : ClsN K "Answer" C_Answer) (cl_Answer : Cls K C_Answer) (na_Answer__names : NoAttr K C_Answer "_names") :
    FnOk P w K mg base CX0 1 f fd P_Answer_len (spF K 1 f_Answer_len) := by
  have nd := sc_Answer_len.nd
  refine fn_ok F sc_Answer_len rfl rfl (by decide) fun cdv A outer s H E hr => ?_
  have hu := hr.units
  exact (sb_one (ss_ret (se_len b_len rfl (sa_cons (se_fld hC_Answer cl_Answer na_Answer__names (se_var (pv 0)) rfl) sa_nil))))
theorem ok_Answer_span {f : Addr} {fd : FuncData} (F : FunG K "span" "Answer.span" st_Answer_span f fd) {C_Answer : Addr} (hC_Answer : ClsN K "Answer" C_Answer) (cl_Answer : Cls K C_Answer) (na_Answer_row : NoAttr K C_Answer "row") :
    FnOk P w K mg base CX0 1 f fd P_Answer_span (spF K 2 f_Answer_span) := by
  have nd := sc_Answer_span.nd
  refine fn_ok F sc_Answer_span rfl rfl (by decide) fun cdv A outer s H E hr => ?_
  have hu := hr.units
  exact (sb_cons (ss_for PassesOwn.never rfl (si_seq (se_fld hC_Answer cl_Answer na_Answer_row (se_var (pv 0)) rfl)) (sg_tup rfl (sgs_cons (sg_name (i := 2) nd rfl (Or.inl rfl)) (sgs_cons (sg_name (i := 3) nd rfl (Or.inl rfl)) (sgs_cons (sg_name (i := 4) nd rfl (Or.inl rfl)) sgs_nil)))) (sb_one (ss_if (st_c (oEq hu) (se_var (pv 2)) (se_var (pv 1)) (nomark _)) (sb_one (ss_ret (se_tup (sa_cons (se_var (pv 3)) (sa_cons (se_var (pv 4)) sa_nil))))) sb_nil)))
    (sb_one (ss_ret se_non)))
theorem ok_Answer_whole {f : Addr} {fd : FuncData} (F : FunG K "whole" "Answer.whole" st_Answer_whole f fd) {C_Answer : Addr} (hC_Answer : ClsN K "Answer" C_Answer) (cl_Answer : Cls K C_Answer) (na_Answer_text : NoAttr K C_Answer "text") (na_Answer_start : NoAttr K C_Answer "start") (na_Answer_end : NoAttr K C_Answer "end") :
    FnOk P w K mg base CX0 1 f fd P_Answer_whole (spF K 1 f_Answer_whole) := by
  have nd := sc_Answer_whole.nd
  refine fn_ok F sc_Answer_whole rfl rfl (by decide) fun cdv A outer s H E hr => ?_
  have hu := hr.units
  exact (sb_one (ss_ret (se_slcA (se_fld hC_Answer cl_Answer na_Answer_text (se_var (pv 0)) rfl) (so_some (se_fld hC_Answer cl_Answer na_Answer_start (se_var (pv 0)) rfl)) (so_some (se_fld hC_Answer cl_Answer na_Answer_end (se_var (pv 0)) rfl)))))
theorem ok_law_int {f : Addr} {fd : FuncData} (F : FunG K "_law_int" "_law_int" st_law_int f fd) (b_bool : mg "bool" = none) (b_int : mg "int" = none) (b_isinstance : mg "isinstance" = none) :
    FnOk P w K mg base CX0 1 f fd P_law_int (spF K 1 f_law_int) := by
  have nd := sc_law_int.nd
  refine fn_ok F sc_law_int rfl rfl (by decide) fun cdv A outer s H E hr => ?_
  have hu := hr.units
  exact (sb_one (ss_ret (se_and (se_isi b_isinstance rfl b_int rfl (by decide +kernel) (se_var (pv 0))) (se_one (se_not (se_isi b_isinstance rfl b_bool rfl (by decide +kernel) (se_var (pv 0))))))))
theorem ok_law_is_row {f : Addr} {fd : FuncData} (F : FunG K "_law_is_row" "_law_is_row" st_law_is_row f fd) (b_isinstance : mg "isinstance" = none) (b_len : mg "len" = none) (b_str : mg "str" = none) (b_tuple : mg "tuple" = none) {a_law_int : Addr} {d_law_int : FuncData} (ok_law_int : FnOk P w K mg base CX0 1 a_law_int d_law_int P_law_int (spF K 1 f_law_int)) (mg_law_int : mg "_law_int" = some (.ref a_law_int)) (kp_law_int : PySem.W.keepIn K (.ref a_law_int) = true) (bi_law_int : Binds K d_law_int P_law_int []) :
    FnOk P w K mg base CX0 2 f fd P_law_is_row (spF K 1 f_law_is_row) := by
  have nd := sc_law_is_row.nd
  refine fn_ok F sc_law_is_row rfl rfl (by decide) fun cdv A outer s H E hr => ?_
  have hu := hr.units
  exact (sb_cons (ss_if (st_not (st_val (se_isi b_isinstance rfl b_tuple rfl (by decide +kernel) (se_var (pv 0))) (by intro _; rfl))) (sb_one (ss_ret se_bl)) sb_nil)
    (sb_cons (ss_for PassesOwn.never rfl (si_seq (se_var (pv 0))) (sg_name (i := 1) nd rfl (Or.inl rfl)) (sb_cons (ss_if (st_bool (sw_or (st_not (st_val (se_isi b_isinstance rfl b_tuple rfl (by decide +kernel) (se_var (pv 1))) (by intro _; rfl))) (sw_or1 (st_c (oNe hu) (se_len b_len rfl (sa_cons (se_var (pv 1)) sa_nil)) se_int (nomark _))))) (sb_one (ss_ret se_bl)) sb_nil)
    (sb_one (ss_if (st_bool (sw_or (st_not (st_val (se_isi b_isinstance rfl b_str rfl (by decide +kernel) (se_ix (se_var (pv 1)) se_int (fun _ _ => rfl))) (by intro _; rfl))) (sw_or (st_not (st_val (se_call (fs := []) ok_law_int fnS_len (hr.mono (by decide)) mg_law_int kp_law_int bi_law_int rfl (sa_cons (se_ix (se_var (pv 1)) se_int (fun _ _ => rfl)) sa_nil)) (by intro _; rfl))) (sw_or1 (st_not (st_val (se_call (fs := []) ok_law_int fnS_len (hr.mono (by decide)) mg_law_int kp_law_int bi_law_int rfl (sa_cons (se_ix (se_var (pv 1)) se_int (fun _ _ => rfl)) sa_nil)) (by intro _; rfl))))))) (sb_one (ss_ret se_bl)) sb_nil))))
    (sb_one (ss_ret se_bl))))
theorem ok_Answer_getitem {f : Addr} {fd : FuncData} (F : FunG K "__getitem__" "Answer.__getitem__" st_Answer_getitem f fd) {C_Answer : Addr} (hC_Answer : ClsN K "Answer" C_Answer) (cl_Answer : Cls K C_Answer) (na_Answer_text : NoAttr K C_Answer "text") {X_BadTree X_NoSuchText X_NotPlain X_NotRegular X_OutOfSteps X_PatternFault X_SpanError X_StreamClosed X_TemplateFault X_TooManyAnswers X_TooManyStates X_UnknownGroup fx_UnknownGroup : Addr} (XX : XCls K mg X_BadTree X_NoSuchText X_NotPlain X_NotRegular X_OutOfSteps X_PatternFault X_SpanError X_StreamClosed X_TemplateFault X_TooManyAnswers X_TooManyStates X_UnknownGroup fx_UnknownGroup) {fdx_UnknownGroup : FuncData} (okx_UnknownGroup : FnOk P w K mg base CX0 1 fx_UnknownGroup fdx_UnknownGroup ["self", "name"] (spXI X_UnknownGroup "name")) (bix_UnknownGroup : Binds K fdx_UnknownGroup ["self", "name"] []) {a_Answer_span : Addr} {d_Answer_span : FuncData} (ok_Answer_span : FnOk P w K mg base CX0 1 a_Answer_span d_Answer_span P_Answer_span (spF K 2 f_Answer_span)) (at_Answer_span : PySem.W.findIn K (.ref C_Answer) "span" = some (some (.ref a_Answer_span))) (fn_Answer_span : PySem.W.isFn K (.ref a_Answer_span) = true) (kp_Answer_span : PySem.W.keepIn K (.ref a_Answer_span) = true) (bi_Answer_span : Binds K d_Answer_span P_Answer_span []) :
    FnOk P w K mg base (L2N.CX P w) 3 f fd P_Answer_getitem (spFX K 2 f_Answer_getitem x_Answer_getitem) := by
  have nd := sc_Answer_getitem.nd
  refine fn_okX F sc_Answer_getitem rfl rfl (by decide) fun cdv A outer s H E hr => ?_
  have hu := hr.units
  exact (sb_cons (ss_set (i := 2) nd rfl (Or.inl rfl) (se_meth hC_Answer cl_Answer ⟨at_Answer_span , fn_Answer_span , kp_Answer_span ⟩ ok_Answer_span fnS_len (hr.mono (by decide)) bi_Answer_span (se_var (pv 0)) (sa_cons (se_var (pv 1)) sa_nil)))
    (sb_cons (ss_if (st_c oIs (se_var (pv 2)) se_non (nomark _)) (sb_one (ss_raise1 rfl (L2N.takes_of rfl rfl rfl rfl) XX.rs_UnknownGroup okx_UnknownGroup (hr.mono (by decide)) bix_UnknownGroup XX.g_UnknownGroup rfl (se_var (pv 1)))) sb_nil)
    (sb_one (ss_ret (se_slcA (se_fld hC_Answer cl_Answer na_Answer_text (se_var (pv 0)) rfl) (so_some (se_ix (se_var (pv 2)) se_int (fun _ _ => rfl))) (so_some (se_ix (se_var (pv 2)) se_int (fun _ _ => rfl))))))))
theorem ok_law_set_to {f : Addr} {fd : FuncData} (F : FunG K "_law_set_to" "_law_set_to" st_law_set_to f fd) (b_isinstance : mg "isinstance" = none) (b_len : mg "len" = none) (b_str : mg "str" = none) (b_tuple : mg "tuple" = none) {C_Answer : Addr} (hC_Answer : ClsN K "Answer" C_Answer) (cl_Answer : Cls K C_Answer) {a_Answer_contains : Addr} {d_Answer_contains : FuncData} (ok_Answer_contains : FnOk P w K mg base CX0 1 a_Answer_contains d_Answer_contains P_Answer_contains (spF K 2 f_Answer_contains)) (at_Answer_contains : PySem.W.findIn K (.ref C_Answer) "__contains__" = some (some (.ref a_Answer_contains))) (fn_Answer_contains : PySem.W.isFn K (.ref a_Answer_contains) = true) (kp_Answer_contains : PySem.W.keepIn K (.ref a_Answer_contains) = true) (bi_Answer_contains : Binds K d_Answer_contains P_Answer_contains []) {a_Answer_getitem : Addr} {d_Answer_getitem : FuncData} (ok_Answer_getitem : FnOk P w K mg base (L2N.CX P w) 3 a_Answer_getitem d_Answer_getitem P_Answer_getitem (spFX K 2 f_Answer_getitem x_Answer_getitem)) (at_Answer_getitem : PySem.W.findIn K (.ref C_Answer) "__getitem__" = some (some (.ref a_Answer_getitem))) (fn_Answer_getitem : PySem.W.isFn K (.ref a_Answer_getitem) = true) (gi_Answer_getitem : PySem.W.fnIn K a_Answer_getitem = true) (kp_Answer_getitem : PySem.W.keepIn K (.ref a_Answer_getitem) = true) (bi_Answer_getitem : Binds K d_Answer_getitem P_Answer_getitem []) {a_Answer_span : Addr} {d_Answer_span : FuncData} (ok_Answer_span : FnOk P w K mg base CX0 1 a_Answer_span d_Answer_span P_Answer_span (spF K 2 f_Answer_span)) (at_Answer_span : PySem.W.findIn K (.ref C_Answer) "span" = some (some (.ref a_Answer_span))) (fn_Answer_span : PySem.W.isFn K (.ref a_Answer_span) = true) (kp_Answer_span : PySem.W.keepIn K (.ref a_Answer_span) = true) (bi_Answer_span : Binds K d_Answer_span P_Answer_span []) {a_law_int : Addr} {d_law_int : FuncData} (ok_law_int : FnOk P w K mg base CX0 1 a_law_int d_law_int P_law_int (spF K 1 f_law_int)) (mg_law_int : mg "_law_int" = some (.ref a_law_int)) (kp_law_int : PySem.W.keepIn K (.ref a_law_int) = true) (bi_law_int : Binds K d_law_int P_law_int []) :
    FnOk P w K mg base CX0 5 f fd P_law_set_to (spF K 3 f_law_set_to) := by
  have nd := sc_law_set_to.nd
  refine fn_ok F sc_law_set_to rfl rfl (by decide) fun cdv A outer s H E hr => ?_
  have hu := hr.units
  exact (sb_cons (ss_if (st_c (Op2.or oNi (oOwnNi hC_Answer at_Answer_contains fn_Answer_contains ok_Answer_contains (hr.mono (by decide)) bi_Answer_contains )) (se_ix (se_var (pv 1)) se_int (fun _ _ => rfl)) (se_var (pv 0)) rfl) (sb_one (ss_ret se_bl)) sb_nil)
    (sb_cons (ss_set (i := 3) nd rfl (Or.inl rfl) (se_meth hC_Answer cl_Answer ⟨at_Answer_span , fn_Answer_span , kp_Answer_span ⟩ ok_Answer_span fnS_len (hr.mono (by decide)) bi_Answer_span (se_var (pv 0)) (sa_cons (se_ix (se_var (pv 1)) se_int (fun _ _ => rfl)) sa_nil)))
    (sb_cons (ss_if (st_bool (sw_or (st_not (st_val (se_isi b_isinstance rfl b_tuple rfl (by decide +kernel) (se_var (pv 3))) (by intro _; rfl))) (sw_or (st_c (oNe hu) (se_len b_len rfl (sa_cons (se_var (pv 3)) sa_nil)) se_int (nomark _)) (sw_or (st_not (st_val (se_call (fs := []) ok_law_int fnS_len (hr.mono (by decide)) mg_law_int kp_law_int bi_law_int rfl (sa_cons (se_ix (se_var (pv 3)) se_int (fun _ _ => rfl)) sa_nil)) (by intro _; rfl))) (sw_or1 (st_not (st_val (se_call (fs := []) ok_law_int fnS_len (hr.mono (by decide)) mg_law_int kp_law_int bi_law_int rfl (sa_cons (se_ix (se_var (pv 3)) se_int (fun _ _ => rfl)) sa_nil)) (by intro _; rfl)))))))) (sb_one (ss_ret se_bl)) sb_nil)
    (sb_cons (ss_set (i := 4) nd rfl (Or.inl rfl) (se_ixN hC_Answer at_Answer_getitem gi_Answer_getitem fn_Answer_getitem ok_Answer_getitem (hr.mono (by decide)) bi_Answer_getitem (se_var (pv 0)) (se_ix (se_var (pv 1)) se_int (fun _ _ => rfl)) (fun _ _ => by with_unfolding_all rfl)))
    (sb_one (ss_ret (se_and (se_c (oEq hu) (se_var (pv 3)) (se_tup (sa_cons (se_ix (se_var (pv 1)) se_int (fun _ _ => rfl)) (sa_cons (se_ix (se_var (pv 1)) se_int (fun _ _ => rfl)) sa_nil))) (nomark _)) (se_and (se_isi b_isinstance rfl b_str rfl (by decide +kernel) (se_var (pv 4))) (se_one (se_c (oEq hu) (se_var (pv 4)) (se_slcA (se_var (pv 2)) (so_some (se_ix (se_var (pv 1)) se_int (fun _ _ => rfl))) (so_some (se_ix (se_var (pv 1)) se_int (fun _ _ => rfl)))) (nomark _)))))))))))
theorem ok_law_unknown {f : Addr} {fd : FuncData} (F : FunG K "_law_unknown" "_law_unknown" st_law_unknown f fd) (b_ValueError : mg "ValueError" = none) (b_isinstance : mg "isinstance" = none) (b_str : mg "str" = none) {C_Answer : Addr} (hC_Answer : ClsN K "Answer" C_Answer) {X_BadTree X_NoSuchText X_NotPlain X_NotRegular X_OutOfSteps X_PatternFault X_SpanError X_StreamClosed X_TemplateFault X_TooManyAnswers X_TooManyStates X_UnknownGroup fx_UnknownGroup : Addr} (XX : XCls K mg X_BadTree X_NoSuchText X_NotPlain X_NotRegular X_OutOfSteps X_PatternFault X_SpanError X_StreamClosed X_TemplateFault X_TooManyAnswers X_TooManyStates X_UnknownGroup fx_UnknownGroup) {a_Answer_getitem : Addr} {d_Answer_getitem : FuncData} (ok_Answer_getitem : FnOk P w K mg base (L2N.CX P w) 3 a_Answer_getitem d_Answer_getitem P_Answer_getitem (spFX K 2 f_Answer_getitem x_Answer_getitem)) (at_Answer_getitem : PySem.W.findIn K (.ref C_Answer) "__getitem__" = some (some (.ref a_Answer_getitem))) (fn_Answer_getitem : PySem.W.isFn K (.ref a_Answer_getitem) = true) (gi_Answer_getitem : PySem.W.fnIn K a_Answer_getitem = true) (kp_Answer_getitem : PySem.W.keepIn K (.ref a_Answer_getitem) = true) (bi_Answer_getitem : Binds K d_Answer_getitem P_Answer_getitem []) :
    FnOk P w K mg base CX0 5 f fd P_law_unknown (spF K 2 f_law_unknown) := by
  have nd := sc_law_unknown.nd
  refine fn_ok F sc_law_unknown rfl rfl (by decide) fun cdv A outer s H E hr => ?_
  have hu := hr.units
  exact (sb_cons (ss_set (i := 2) nd rfl (Or.inl rfl) se_non)
    (sb_cons (ss_try (i := 3) (ca := fun e => xt e.c "SpanError") (su := fun a dx e => (sSeq (sIf (tOr (tNot (tE (eIsx 3 a dx e.f.isSome (xt e.c "UnknownGroup")))) (tNot (tE (eIsx 3 a dx e.f.isSome (xt e.c "ValueError"))))) (sRet (eC (.bl false))) sNx)
  (sSeq (sIf (tE (eIsx 3 a dx e.f.isSome (xAny (xt e.c) ["PatternFault", "TemplateFault", "BadTree", "NotRegular", "NotPlain", "StreamClosed"]))) (sRet (eC (.bl false))) sNx)
  (sSeq (sIf (tE (eIsx 3 a dx e.f.isSome (xAny (xt e.c) ["OutOfSteps", "TooManyStates", "TooManyAnswers", "NoSuchText"]))) (sRet (eC (.bl false))) sNx)
  (sRet (eAnd (eBin fIs (eVar 2) (eC .non)) (eAnd (eUn (fIsi "str") (eFldX 3 a dx e.f.isSome "name")) (eBin fEq (eFldX 3 a dx e.f.isSome "name") (eVar 1))))))))) rfl rfl nd rfl rfl ⟨rfl, by decide, Or.inl XX.g_SpanError⟩ takesN0 (fun e b C h cn => XX.exm_SpanError cn b h) (fun a dx e => by repeat (first | exact um_nx | exact um_c | exact um_isx | exact um_fldx | exact um_nil | exact um_var (by decide) | refine um_seq ?_ ?_ | refine um_if ?_ ?_ ?_ | refine um_ret ?_ | refine um_asg (by decide) ?_ | refine um_and ?_ ?_ | refine um_or ?_ ?_ | refine um_not ?_ | refine um_tE ?_ | refine um_tAnd ?_ ?_ | refine um_tOr ?_ ?_ | refine um_tNot ?_ | refine um_bin ?_ ?_ | refine um_un ?_ | refine um_cons ?_ ?_ | refine um_call ?_)) (fun W pn xe tk po => (sb_one (ss_setX (i := 2) nd rfl (Or.inl rfl) (se_ixX tk hC_Answer at_Answer_getitem gi_Answer_getitem fn_Answer_getitem ok_Answer_getitem (hr.mono (by decide)) bi_Answer_getitem (se_var (pv 0)) (se_var (pv 1)) (fun _ _ => by with_unfolding_all rfl)))))
    (fun a C dx oe d pn e hce cn r1 r2 hz hfl => by have xs := XX.su hce cn; exact (sb_cons (ss_if (st_bool (sw_or (st_not (st_val (se_isx (call_isX xs hz hfl) (hd0_of r1) (hd1_of r2) b_isinstance rfl (pv 3) (pe_glob (v := .ref X_UnknownGroup) rfl XX.g_UnknownGroup rfl) (.own _) (XX.kit_UnknownGroup cn)) (by intro _; rfl))) (sw_or1 (st_not (st_val (se_isx (call_isX xs hz hfl) (hd0_of r1) (hd1_of r2) b_isinstance rfl (pv 3) (pe_bltn (v := .ty "ValueError") rfl b_ValueError (by decide +kernel) rfl) (.ty _) (XX.kit_ValueError cn)) (by intro _; rfl)))))) (sb_one (ss_ret se_bl)) sb_nil)
    (sb_cons (ss_if (st_val (se_isxT (call_isXT xs hz hfl) (hd0_of r1) (hd1_of r2) b_isinstance rfl (pv 3) (.cons (pe_glob (v := .ref X_PatternFault) rfl XX.g_PatternFault rfl) (.own _) rfl (.cons (pe_glob (v := .ref X_TemplateFault) rfl XX.g_TemplateFault rfl) (.own _) rfl (.cons (pe_glob (v := .ref X_BadTree) rfl XX.g_BadTree rfl) (.own _) rfl (.cons (pe_glob (v := .ref X_NotRegular) rfl XX.g_NotRegular rfl) (.own _) rfl (.cons (pe_glob (v := .ref X_NotPlain) rfl XX.g_NotPlain rfl) (.own _) rfl (.cons (pe_glob (v := .ref X_StreamClosed) rfl XX.g_StreamClosed rfl) (.own _) rfl .nil)))))) (by decide) rfl (KitL.ok (f := xt e.c) (ks := ["PatternFault", "TemplateFault", "BadTree", "NotRegular", "NotPlain", "StreamClosed"]) (.cons (XX.kit_PatternFault cn) (.cons (XX.kit_TemplateFault cn) (.cons (XX.kit_BadTree cn) (.cons (XX.kit_NotRegular cn) (.cons (XX.kit_NotPlain cn) (.cons (XX.kit_StreamClosed cn) .nil)))))))) (by intro _; rfl)) (sb_one (ss_ret se_bl)) sb_nil)
    (sb_cons (ss_if (st_val (se_isxT (call_isXT xs hz hfl) (hd0_of r1) (hd1_of r2) b_isinstance rfl (pv 3) (.cons (pe_glob (v := .ref X_OutOfSteps) rfl XX.g_OutOfSteps rfl) (.own _) rfl (.cons (pe_glob (v := .ref X_TooManyStates) rfl XX.g_TooManyStates rfl) (.own _) rfl (.cons (pe_glob (v := .ref X_TooManyAnswers) rfl XX.g_TooManyAnswers rfl) (.own _) rfl (.cons (pe_glob (v := .ref X_NoSuchText) rfl XX.g_NoSuchText rfl) (.own _) rfl .nil)))) (by decide) rfl (KitL.ok (f := xt e.c) (ks := ["OutOfSteps", "TooManyStates", "TooManyAnswers", "NoSuchText"]) (.cons (XX.kit_OutOfSteps cn) (.cons (XX.kit_TooManyStates cn) (.cons (XX.kit_TooManyAnswers cn) (.cons (XX.kit_NoSuchText cn) .nil)))))) (by intro _; rfl)) (sb_one (ss_ret se_bl)) sb_nil)
    (sb_one (ss_ret (se_and (se_c oIs (se_var (pv 2)) se_non (nomark _)) (se_and (se_isi b_isinstance rfl b_str rfl (by decide +kernel) (se_fldx xs (XX.no_name cn hce) hz hfl (hd1_of r2) (pv 3))) (se_one (se_c (oEq hu) (se_fldx xs (XX.no_name cn hce) hz hfl (hd1_of r2) (pv 3)) (se_var (pv 1)) (nomark _))))))))))))
    (sb_one (ss_ret se_bl))))
theorem ok_law_shows {f : Addr} {fd : FuncData} (F : FunG K "_law_shows" "_law_shows" st_law_shows f fd) (b_isinstance : mg "isinstance" = none) (b_len : mg "len" = none) (b_list : mg "list" = none) (b_str : mg "str" = none) {C_Answer : Addr} (hC_Answer : ClsN K "Answer" C_Answer) (cl_Answer : Cls K C_Answer) (na_Answer_text : NoAttr K C_Answer "text") (na_Answer_start : NoAttr K C_Answer "start") (na_Answer_end : NoAttr K C_Answer "end") (na_Answer_row : NoAttr K C_Answer "row") {a_Answer_contains : Addr} {d_Answer_contains : FuncData} (ok_Answer_contains : FnOk P w K mg base CX0 1 a_Answer_contains d_Answer_contains P_Answer_contains (spF K 2 f_Answer_contains)) (at_Answer_contains : PySem.W.findIn K (.ref C_Answer) "__contains__" = some (some (.ref a_Answer_contains))) (fn_Answer_contains : PySem.W.isFn K (.ref a_Answer_contains) = true) (kp_Answer_contains : PySem.W.keepIn K (.ref a_Answer_contains) = true) (bi_Answer_contains : Binds K d_Answer_contains P_Answer_contains []) {a_Answer_iter : Addr} {d_Answer_iter : FuncData} (ok_Answer_iter : ItFn P w K mg base 1 a_Answer_iter d_Answer_iter P_Answer_iter "Answer" "_names") (at_Answer_iter : PySem.W.findIn K (.ref C_Answer) "__iter__" = some (some (.ref a_Answer_iter))) (fn_Answer_iter : PySem.W.isFn K (.ref a_Answer_iter) = true) (kp_Answer_iter : PySem.W.keepIn K (.ref a_Answer_iter) = true) (bi_Answer_iter : Binds K d_Answer_iter P_Answer_iter []) {a_Answer_len : Addr} {d_Answer_len : FuncData} (ok_Answer_len : FnOk P w K mg base CX0 1 a_Answer_len d_Answer_len P_Answer_len (spF K 1 f_Answer_len)) (at_Answer_len : PySem.W.findIn K (.ref C_Answer) "__len__" = some (some (.ref a_Answer_len))) (fn_Answer_len : PySem.W.isFn K (.ref a_Answer_len) = true) (kp_Answer_len : PySem.W.keepIn K (.ref a_Answer_len) = true) (bi_Answer_len : Binds K d_Answer_len P_Answer_len []) {a_Answer_span : Addr} {d_Answer_span : FuncData} (ok_Answer_span : FnOk P w K mg base CX0 1 a_Answer_span d_Answer_span P_Answer_span (spF K 2 f_Answer_span)) (at_Answer_span : PySem.W.findIn K (.ref C_Answer) "span" = some (some (.ref a_Answer_span))) (fn_Answer_span : PySem.W.isFn K (.ref a_Answer_span) = true) (kp_Answer_span : PySem.W.keepIn K (.ref a_Answer_span) = true) (bi_Answer_span : Binds K d_Answer_span P_Answer_span []) {p_Answer_whole a_Answer_whole : Addr} {d_Answer_whole : FuncData} (ok_Answer_whole : FnOk P w K mg base CX0 1 a_Answer_whole d_Answer_whole P_Answer_whole (spF K 1 f_Answer_whole)) (pr_Answer_whole : PropOf K C_Answer "whole" p_Answer_whole a_Answer_whole) (bi_Answer_whole : Binds K d_Answer_whole P_Answer_whole []) {a_law_int : Addr} {d_law_int : FuncData} (ok_law_int : FnOk P w K mg base CX0 1 a_law_int d_law_int P_law_int (spF K 1 f_law_int)) (mg_law_int : mg "_law_int" = some (.ref a_law_int)) (kp_law_int : PySem.W.keepIn K (.ref a_law_int) = true) (bi_law_int : Binds K d_law_int P_law_int []) {a_law_is_row : Addr} {d_law_is_row : FuncData} (ok_law_is_row : FnOk P w K mg base CX0 2 a_law_is_row d_law_is_row P_law_is_row (spF K 1 f_law_is_row)) (mg_law_is_row : mg "_law_is_row" = some (.ref a_law_is_row)) (kp_law_is_row : PySem.W.keepIn K (.ref a_law_is_row) = true) (bi_law_is_row : Binds K d_law_is_row P_law_is_row []) {a_law_set_to : Addr} {d_law_set_to : FuncData} (ok_law_set_to : FnOk P w K mg base CX0 5 a_law_set_to d_law_set_to P_law_set_to (spF K 3 f_law_set_to)) (mg_law_set_to : mg "_law_set_to" = some (.ref a_law_set_to)) (kp_law_set_to : PySem.W.keepIn K (.ref a_law_set_to) = true) (bi_law_set_to : Binds K d_law_set_to P_law_set_to []) {a_law_unknown : Addr} {d_law_unknown : FuncData} (ok_law_unknown : FnOk P w K mg base CX0 5 a_law_unknown d_law_unknown P_law_unknown (spF K 2 f_law_unknown)) (mg_law_unknown : mg "_law_unknown" = some (.ref a_law_unknown)) (kp_law_unknown : PySem.W.keepIn K (.ref a_law_unknown) = true) (bi_law_unknown : Binds K d_law_unknown P_law_unknown []) :
    FnOk P w K mg base CX0 6 f fd P_law_shows (spF K 3 f_law_shows) := by
  have nd := sc_law_shows.nd
  refine fn_ok F sc_law_shows rfl rfl (by decide) fun cdv A outer s H E hr => ?_
  have hu := hr.units
  exact (sb_cons (ss_if (st_bool (sw_or (st_not (st_val (se_isi b_isinstance rfl b_str rfl (by decide +kernel) (se_fld hC_Answer cl_Answer na_Answer_text (se_var (pv 0)) rfl)) (by intro _; rfl))) (sw_or (st_not (st_val (se_call (fs := []) ok_law_int fnS_len (hr.mono (by decide)) mg_law_int kp_law_int bi_law_int rfl (sa_cons (se_fld hC_Answer cl_Answer na_Answer_start (se_var (pv 0)) rfl) sa_nil)) (by intro _; rfl))) (sw_or1 (st_not (st_val (se_call (fs := []) ok_law_int fnS_len (hr.mono (by decide)) mg_law_int kp_law_int bi_law_int rfl (sa_cons (se_fld hC_Answer cl_Answer na_Answer_end (se_var (pv 0)) rfl) sa_nil)) (by intro _; rfl))))))) (sb_one (ss_ret se_bl)) sb_nil)
    (sb_cons (ss_if (st_bool (sw_or (st_not (st_val (se_call (fs := []) ok_law_is_row fnS_len (hr.mono (by decide)) mg_law_is_row kp_law_is_row bi_law_is_row rfl (sa_cons (se_fld hC_Answer cl_Answer na_Answer_row (se_var (pv 0)) rfl) sa_nil)) (by intro _; rfl))) (sw_or1 (st_c (oNe hu) (se_tup (sa_cons (se_fld hC_Answer cl_Answer na_Answer_text (se_var (pv 0)) rfl) (sa_cons (se_fld hC_Answer cl_Answer na_Answer_start (se_var (pv 0)) rfl) (sa_cons (se_fld hC_Answer cl_Answer na_Answer_end (se_var (pv 0)) rfl) (sa_cons (se_fld hC_Answer cl_Answer na_Answer_row (se_var (pv 0)) rfl) sa_nil))))) (se_var (pv 1)) (nomark _))))) (sb_one (ss_ret se_bl)) sb_nil)
    (sb_cons (ss_if (st_bool (sw_or (st_not (st_val (se_isi b_isinstance rfl b_str rfl (by decide +kernel) (se_prop hC_Answer cl_Answer pr_Answer_whole ok_Answer_whole fnS_len (hr.mono (by decide)) bi_Answer_whole (se_var (pv 0)) rfl)) (by intro _; rfl))) (sw_or1 (st_c (oNe hu) (se_prop hC_Answer cl_Answer pr_Answer_whole ok_Answer_whole fnS_len (hr.mono (by decide)) bi_Answer_whole (se_var (pv 0)) rfl) (se_slcA (se_ix (se_var (pv 1)) se_int (fun _ _ => rfl)) (so_some (se_ix (se_var (pv 1)) se_int (fun _ _ => rfl))) (so_some (se_ix (se_var (pv 1)) se_int (fun _ _ => rfl)))) (nomark _))))) (sb_one (ss_ret se_bl)) sb_nil)
    (sb_cons (ss_setlc (i := 3) (own := [("_law_triple", 4)]) rfl nd rfl rfl (sw_true rfl rfl rfl (by decide +kernel)) (si_seq (se_ix (se_var (pv 1)) se_int (fun _ _ => rfl))) (blkOk_by (own := [("_law_triple", 4)]) (N := N_law_shows) (sc := defScope st_law_shows) (by decide +kernel)) (by decide) (gok_name 4) (fun _ _ _ _ _ => (sg_name (i := 4) nd rfl (Or.inl rfl))) (fun _ _ _ _ _ => sts_nil) (fun _ _ _ _ _ => (se_ix (se_var (pv 4)) se_int (fun _ _ => rfl))))
    (sb_cons (ss_if (st_bool (sw_or (st_c (oNe hu) (se_lenO hC_Answer at_Answer_len fn_Answer_len ok_Answer_len (hr.mono (by decide)) bi_Answer_len b_len rfl (sa_cons (se_var (pv 0)) sa_nil)) (se_lenO hC_Answer at_Answer_len fn_Answer_len ok_Answer_len (hr.mono (by decide)) bi_Answer_len b_len rfl (sa_cons (se_var (pv 3)) sa_nil)) (nomark _)) (sw_or (st_c (oNe hu) (se_listO (m := 2) rfl hC_Answer at_Answer_iter fn_Answer_iter ok_Answer_iter bi_Answer_iter at_Answer_len fn_Answer_len ok_Answer_len bi_Answer_len (by decide) (by decide) (hr.mono (by decide)) b_list rfl (se_var (pv 0))) (se_var (pv 3)) (nomark _)) (sw_or1 (st_c (oNe hu) (se_lc (own := [("_law_name", 5)]) rfl nd (si_own hC_Answer at_Answer_iter fn_Answer_iter ok_Answer_iter (hr.mono (by decide)) bi_Answer_iter (se_var (pv 0))) (blkOk_by (own := [("_law_name", 5)]) (N := N_law_shows) (sc := defScope st_law_shows) (by decide +kernel)) (by decide) (gok_name 5) (fun _ _ _ _ _ => (sg_name (i := 5) nd rfl (Or.inl rfl))) (fun _ _ _ _ _ => sts_nil) (fun _ _ _ _ _ => (se_var (pv 5)))) (se_var (pv 3)) (nomark _)))))) (sb_one (ss_ret se_bl)) sb_nil)
    (sb_cons (ss_for PassesOwn.never rfl (si_seq (se_ix (se_var (pv 1)) se_int (fun _ _ => rfl))) (sg_name (i := 4) nd rfl (Or.inl rfl)) (sb_one (ss_if (st_not (st_val (se_call (fs := []) ok_law_set_to fnS_len (hr.mono (by decide)) mg_law_set_to kp_law_set_to bi_law_set_to rfl (sa_cons (se_var (pv 0)) (sa_cons (se_var (pv 4)) (sa_cons (se_ix (se_var (pv 1)) se_int (fun _ _ => rfl)) sa_nil)))) (by intro _; rfl))) (sb_one (ss_ret se_bl)) sb_nil)))
    (sb_cons (ss_for PassesOwn.never rfl (si_seq (se_var (pv 2))) (sg_name (i := 5) nd rfl (Or.inl rfl)) (sb_one (ss_if (st_c (Op2.or oNi (oOwnNi hC_Answer at_Answer_contains fn_Answer_contains ok_Answer_contains (hr.mono (by decide)) bi_Answer_contains )) (se_var (pv 5)) (se_var (pv 3)) rfl) (sb_one (ss_if (st_bool (sw_or (st_c (Op2.or oIn (oOwnIn hC_Answer at_Answer_contains fn_Answer_contains ok_Answer_contains (hr.mono (by decide)) bi_Answer_contains )) (se_var (pv 5)) (se_var (pv 0)) rfl) (sw_or (st_c oNt (se_meth hC_Answer cl_Answer ⟨at_Answer_span , fn_Answer_span , kp_Answer_span ⟩ ok_Answer_span fnS_len (hr.mono (by decide)) bi_Answer_span (se_var (pv 0)) (sa_cons (se_var (pv 5)) sa_nil)) se_non (nomark _)) (sw_or1 (st_not (st_val (se_call (fs := []) ok_law_unknown fnS_len (hr.mono (by decide)) mg_law_unknown kp_law_unknown bi_law_unknown rfl (sa_cons (se_var (pv 0)) (sa_cons (se_var (pv 5)) sa_nil))) (by intro _; rfl))))))) (sb_one (ss_ret se_bl)) sb_nil)) sb_nil)))
    (sb_one (ss_ret se_bl)))))))))
theorem ok_law_letters {f : Addr} {fd : FuncData} (F : FunG K "_law_letters" "_law_letters" st_law_letters f fd) (b_int : mg "int" = none) (b_range : mg "range" = none) {a_law_next : Addr} {d_law_next : FuncData} (ok_law_next : FnOk P w K mg base CX0 1 a_law_next d_law_next P_law_next (spF K 2 f_law_next)) (mg_law_next : mg "_law_next" = some (.ref a_law_next)) (kp_law_next : PySem.W.keepIn K (.ref a_law_next) = true) (bi_law_next : Binds K d_law_next P_law_next []) {a_law_signs : Addr} {d_law_signs : FuncData} (ok_law_signs : FnOk P w K mg base CX0 1 a_law_signs d_law_signs P_law_signs (spF K 0 f_law_signs)) (mg_law_signs : mg "_law_signs" = some (.ref a_law_signs)) (kp_law_signs : PySem.W.keepIn K (.ref a_law_signs) = true) (bi_law_signs : Binds K d_law_signs P_law_signs []) :
    FnOk P w K mg base CX0 2 f fd P_law_letters (spF K 1 f_law_letters) := by
  have nd := sc_law_letters.nd
  refine fn_ok F sc_law_letters rfl rfl (by decide) fun cdv A outer s H E hr => ?_
  have hu := hr.units
  exact (sb_cons (ss_set (i := 1) nd rfl (Or.inl rfl) (se_call (fs := [true, false]) ok_law_next fnS_len (hr.mono (by decide)) mg_law_next kp_law_next bi_law_next rfl (sa_cons (se_var (pv 0)) (sa_cons se_int sa_nil))))
    (sb_cons (ss_if (st_c (oEq hu) (se_var (pv 1)) se_int (nomark _)) (sb_one (ss_ret (se_str (cs := [10, 97, 98]) (by decide +kernel)))) sb_nil)
    (sb_cons (ss_if (st_c (oEq hu) (se_var (pv 1)) se_int (nomark _)) (sb_one (ss_ret (se_str (cs := [32, 97, 98]) (by decide +kernel)))) sb_nil)
    (sb_cons (ss_if (st_c (oEq hu) (se_var (pv 1)) se_int (nomark _)) (sb_one (ss_ret (se_str (cs := [97, 98, 99]) (by decide +kernel)))) sb_nil)
    (sb_cons (ss_set (i := 2) nd rfl (Or.inr rfl) (se_call0 (fs := []) ok_law_signs fnS_len (hr.mono (by decide)) mg_law_signs kp_law_signs bi_law_signs rfl))
    (sb_cons (ss_set (i := 3) nd rfl (Or.inr rfl) (se_call (fs := [true, false]) ok_law_next fnS_len (hr.mono (by decide)) mg_law_next kp_law_next bi_law_next rfl (sa_cons (se_var (pv 0)) (sa_cons se_int sa_nil))))
    (sb_cons (ss_set (i := 4) nd rfl (Or.inr rfl) (se_b oMod (se_toint b_int rfl (sa_cons (se_b oAdd (se_b oAdd (se_var (pv 3)) se_int) (se_call (fs := [true, false]) ok_law_next fnS_len (hr.mono (by decide)) mg_law_next kp_law_next bi_law_next rfl (sa_cons (se_var (pv 0)) (sa_cons se_int sa_nil)))) sa_nil)) se_int))
    (sb_cons (ss_set (i := 5) nd rfl (Or.inr rfl) (se_b oMod (se_toint b_int rfl (sa_cons (se_b oAdd (se_b oAdd (se_var (pv 3)) se_int) (se_call (fs := [true, false]) ok_law_next fnS_len (hr.mono (by decide)) mg_law_next kp_law_next bi_law_next rfl (sa_cons (se_var (pv 0)) (sa_cons se_int sa_nil)))) sa_nil)) se_int))
    (sb_cons (ss_if (st_c (oEq hu) (se_var (pv 5)) (se_var (pv 4)) (nomark _)) (sb_one (ss_set (i := 5) nd rfl (Or.inr rfl) (se_b oMod (se_toint b_int rfl (sa_cons (se_b oAdd (se_var (pv 5)) se_int) sa_nil)) se_int))) sb_nil)
    (sb_cons (ss_if (st_c (oEq hu) (se_var (pv 5)) (se_var (pv 3)) (nomark _)) (sb_one (ss_set (i := 5) nd rfl (Or.inr rfl) (se_b oMod (se_toint b_int rfl (sa_cons (se_b oAdd (se_var (pv 5)) se_int) sa_nil)) se_int))) sb_nil)
    (sb_one (ss_ret (se_join (se_str (cs := []) (by decide +kernel)) (sa_cons (se_lc (own := [("_law_k", 6)]) rfl nd (si_range1 b_range rfl (sa_cons se_int sa_nil)) (blkOk_by (own := [("_law_k", 6)]) (N := N_law_letters) (sc := defScope st_law_letters) (by decide +kernel)) (by decide) (gok_name 6) (fun _ _ _ _ _ => (sg_name (i := 6) nd rfl (Or.inl rfl))) (fun _ _ _ _ _ => (sts_one (st_bool (sw_or (st_c (oEq hu) (se_var (pv 6)) (se_var (pv 3)) (nomark _)) (sw_or (st_c (oEq hu) (se_var (pv 6)) (se_var (pv 4)) (nomark _)) (sw_or1 (st_c (oEq hu) (se_var (pv 6)) (se_var (pv 5)) (nomark _)))))))) (fun _ _ _ _ _ => (se_ix (se_var (pv 2)) (se_var (pv 6)) (fun _ _ => rfl)))) sa_nil))))))))))))))
theorem ok_law_row {f : Addr} {fd : FuncData} (F : FunG K "_law_row" "_law_row" st_law_row f fd) (b_len : mg "len" = none) (b_max : mg "max" = none) (b_min : mg "min" = none) (b_sorted : mg "sorted" = none) (b_tuple : mg "tuple" = none) {a_law_next : Addr} {d_law_next : FuncData} (ok_law_next : FnOk P w K mg base CX0 1 a_law_next d_law_next P_law_next (spF K 2 f_law_next)) (mg_law_next : mg "_law_next" = some (.ref a_law_next)) (kp_law_next : PySem.W.keepIn K (.ref a_law_next) = true) (bi_law_next : Binds K d_law_next P_law_next []) :
    FnOk P w K mg base CX0 2 f fd P_law_row (spF K 4 f_law_row) := by
  have nd := sc_law_row.nd
  refine fn_ok F sc_law_row rfl rfl (by decide) fun cdv A outer s H E hr => ?_
  have hu := hr.units
  exact (sb_cons (ss_set (i := 4) nd rfl (Or.inl rfl) (se_var (pv 2)))
    (sb_cons (ss_set (i := 5) nd rfl (Or.inl rfl) (se_var (pv 3)))
    (sb_cons (ss_set (i := 6) nd rfl (Or.inl rfl) (se_lst sa_nil))
    (sb_cons (ss_set (i := 7) nd rfl (Or.inl rfl) (se_call (fs := [true, false]) ok_law_next fnS_len (hr.mono (by decide)) mg_law_next kp_law_next bi_law_next rfl (sa_cons (se_var (pv 0)) (sa_cons (se_b oAdd (se_len b_len rfl (sa_cons (se_var (pv 1)) sa_nil)) se_int) sa_nil))))
    (sb_cons (ss_for PassesOwn.never rfl (si_seq (se_add (se_slcA (se_var (pv 1)) (so_some (se_var (pv 7))) so_none) (se_slcA (se_var (pv 1)) so_none (so_some (se_var (pv 7)))))) (sg_name (i := 8) nd rfl (Or.inl rfl)) (sb_one (ss_if (st_c oGt (se_call (fs := [true, false]) ok_law_next fnS_len (hr.mono (by decide)) mg_law_next kp_law_next bi_law_next rfl (sa_cons (se_var (pv 0)) (sa_cons se_int sa_nil))) se_int (nomark _)) (sb_cons (ss_set (i := 9) nd rfl (Or.inl rfl) (se_add (se_var (pv 4)) (se_call (fs := [true, false]) ok_law_next fnS_len (hr.mono (by decide)) mg_law_next kp_law_next bi_law_next rfl (sa_cons (se_var (pv 0)) (sa_cons (se_b oAdd (se_b oSub (se_var (pv 5)) (se_var (pv 4))) se_int) sa_nil)))))
    (sb_cons (ss_set (i := 10) nd rfl (Or.inl rfl) (se_add (se_var (pv 4)) (se_call (fs := [true, false]) ok_law_next fnS_len (hr.mono (by decide)) mg_law_next kp_law_next bi_law_next rfl (sa_cons (se_var (pv 0)) (sa_cons (se_b oAdd (se_b oSub (se_var (pv 5)) (se_var (pv 4))) se_int) sa_nil)))))
    (sb_cons (ss_set (i := 11) nd rfl (Or.inl rfl) (se_min2 b_min rfl rfl (sa_cons (se_var (pv 9)) (sa_cons (se_var (pv 10)) sa_nil))))
    (sb_cons (ss_set (i := 12) nd rfl (Or.inl rfl) (se_max2 b_max rfl rfl (sa_cons (se_var (pv 9)) (sa_cons (se_var (pv 10)) sa_nil))))
    (sb_cons (ss_app (i := 6) (pv 6) (se_tup (sa_cons (se_var (pv 8)) (sa_cons (se_var (pv 11)) (sa_cons (se_var (pv 12)) sa_nil)))))
    (sb_cons (ss_set (i := 13) nd rfl (Or.inl rfl) (se_call (fs := [true, false]) ok_law_next fnS_len (hr.mono (by decide)) mg_law_next kp_law_next bi_law_next rfl (sa_cons (se_var (pv 0)) (sa_cons se_int sa_nil))))
    (sb_one (ss_if (st_c (oEq hu) (se_var (pv 13)) se_int (nomark _)) (sb_one (ss_set (i := 4) nd rfl (Or.inl rfl) (se_var (pv 12)))) (sb_one (ss_if (st_c (oEq hu) (se_var (pv 13)) se_int (nomark _)) (sb_one (ss_set (i := 5) nd rfl (Or.inl rfl) (se_var (pv 11)))) (sb_cons (ss_set (i := 4) nd rfl (Or.inl rfl) (se_var (pv 11)))
    (sb_one (ss_set (i := 5) nd rfl (Or.inl rfl) (se_var (pv 12))))))))))))))) sb_nil)))
    (sb_one (ss_ret (se_totup b_tuple rfl (sa_cons (se_sortG hu b_sorted rfl (sa_cons (se_var (pv 6)) sa_nil)) sa_nil)))))))))
theorem ok_law_values {f : Addr} {fd : FuncData} (F : FunG K "_law_values" "_law_values" st_law_values f fd) (b_len : mg "len" = none) (b_max : mg "max" = none) (b_min : mg "min" = none) (b_range : mg "range" = none) {a_law_letters : Addr} {d_law_letters : FuncData} (ok_law_letters : FnOk P w K mg base CX0 2 a_law_letters d_law_letters P_law_letters (spF K 1 f_law_letters)) (mg_law_letters : mg "_law_letters" = some (.ref a_law_letters)) (kp_law_letters : PySem.W.keepIn K (.ref a_law_letters) = true) (bi_law_letters : Binds K d_law_letters P_law_letters []) {a_law_next : Addr} {d_law_next : FuncData} (ok_law_next : FnOk P w K mg base CX0 1 a_law_next d_law_next P_law_next (spF K 2 f_law_next)) (mg_law_next : mg "_law_next" = some (.ref a_law_next)) (kp_law_next : PySem.W.keepIn K (.ref a_law_next) = true) (bi_law_next : Binds K d_law_next P_law_next []) {a_law_row : Addr} {d_law_row : FuncData} (ok_law_row : FnOk P w K mg base CX0 2 a_law_row d_law_row P_law_row (spF K 4 f_law_row)) (mg_law_row : mg "_law_row" = some (.ref a_law_row)) (kp_law_row : PySem.W.keepIn K (.ref a_law_row) = true) (bi_law_row : Binds K d_law_row P_law_row []) {a_law_signs : Addr} {d_law_signs : FuncData} (ok_law_signs : FnOk P w K mg base CX0 1 a_law_signs d_law_signs P_law_signs (spF K 0 f_law_signs)) (mg_law_signs : mg "_law_signs" = some (.ref a_law_signs)) (kp_law_signs : PySem.W.keepIn K (.ref a_law_signs) = true) (bi_law_signs : Binds K d_law_signs P_law_signs []) :
    FnOk P w K mg base CX0 3 f fd P_law_values (spF K 2 f_law_values) := by
  have nd := sc_law_values.nd
  refine fn_ok F sc_law_values rfl rfl (by decide) fun cdv A outer s H E hr => ?_
  have hu := hr.units
  exact (sb_cons (ss_set (i := 2) nd rfl (Or.inr rfl) (se_call0 (fs := []) ok_law_signs fnS_len (hr.mono (by decide)) mg_law_signs kp_law_signs bi_law_signs rfl))
    (sb_cons (ss_if (st_c (oEq hu) (se_call (fs := [true, false]) ok_law_next fnS_len (hr.mono (by decide)) mg_law_next kp_law_next bi_law_next rfl (sa_cons (se_var (pv 0)) (sa_cons se_int sa_nil))) se_int (nomark _)) (sb_one (ss_set (i := 2) nd rfl (Or.inr rfl) (se_call (fs := [true]) ok_law_letters fnS_len (hr.mono (by decide)) mg_law_letters kp_law_letters bi_law_letters rfl (sa_cons (se_var (pv 0)) sa_nil)))) sb_nil)
    (sb_cons (ss_set (i := 3) nd rfl (Or.inl rfl) (se_call (fs := [true, false]) ok_law_next fnS_len (hr.mono (by decide)) mg_law_next kp_law_next bi_law_next rfl (sa_cons (se_var (pv 0)) (sa_cons se_int sa_nil))))
    (sb_cons (ss_if (st_c (oEq hu) (se_call (fs := [true, false]) ok_law_next fnS_len (hr.mono (by decide)) mg_law_next kp_law_next bi_law_next rfl (sa_cons (se_var (pv 0)) (sa_cons se_int sa_nil))) se_int (nomark _)) (sb_one (ss_set (i := 3) nd rfl (Or.inl rfl) (se_b oAdd se_int (se_call (fs := [true, false]) ok_law_next fnS_len (hr.mono (by decide)) mg_law_next kp_law_next bi_law_next rfl (sa_cons (se_var (pv 0)) (sa_cons se_int sa_nil)))))) sb_nil)
    (sb_cons (ss_set (i := 4) nd rfl (Or.inl rfl) (se_join (se_str (cs := []) (by decide +kernel)) (sa_cons (se_lc (own := [("_law_k", 9)]) rfl nd (si_range1 b_range rfl (sa_cons (se_var (pv 3)) sa_nil)) (blkOk_by (own := [("_law_k", 9)]) (N := N_law_values) (sc := defScope st_law_values) (by decide +kernel)) (by decide) (gok_name 9) (fun _ _ _ _ _ => (sg_name (i := 9) nd rfl (Or.inl rfl))) (fun _ _ _ _ _ => sts_nil) (fun _ _ _ _ _ => (se_ix (se_var (pv 2)) (se_call (fs := [true, false]) ok_law_next fnS_len (hr.mono (by decide)) mg_law_next kp_law_next bi_law_next rfl (sa_cons (se_var (pv 0)) (sa_cons (se_len b_len rfl (sa_cons (se_var (pv 2)) sa_nil)) sa_nil))) (fun _ _ => rfl)))) sa_nil)))
    (sb_cons (ss_set (i := 5) nd rfl (Or.inl rfl) (se_call (fs := [true, false]) ok_law_next fnS_len (hr.mono (by decide)) mg_law_next kp_law_next bi_law_next rfl (sa_cons (se_var (pv 0)) (sa_cons (se_b oAdd (se_var (pv 3)) se_int) sa_nil))))
    (sb_cons (ss_set (i := 6) nd rfl (Or.inl rfl) (se_call (fs := [true, false]) ok_law_next fnS_len (hr.mono (by decide)) mg_law_next kp_law_next bi_law_next rfl (sa_cons (se_var (pv 0)) (sa_cons (se_b oAdd (se_var (pv 3)) se_int) sa_nil))))
    (sb_cons (ss_set (i := 7) nd rfl (Or.inl rfl) (se_min2 b_min rfl rfl (sa_cons (se_var (pv 5)) (sa_cons (se_var (pv 6)) sa_nil))))
    (sb_cons (ss_set (i := 8) nd rfl (Or.inl rfl) (se_max2 b_max rfl rfl (sa_cons (se_var (pv 5)) (sa_cons (se_var (pv 6)) sa_nil))))
    (sb_one (ss_ret (se_tup (sa_cons (se_var (pv 4)) (sa_cons (se_var (pv 7)) (sa_cons (se_var (pv 8)) (sa_cons (se_call (fs := [true, false, false, false]) ok_law_row fnS_len (hr.mono (by decide)) mg_law_row kp_law_row bi_law_row rfl (sa_cons (se_var (pv 0)) (sa_cons (se_var (pv 1)) (sa_cons (se_var (pv 7)) (sa_cons (se_var (pv 8)) sa_nil))))) sa_nil))))))))))))))))
theorem ok_law {f : Addr} {fd : FuncData} (F : FunG K "law" "law" st_law f fd) (b_len : mg "len" = none) (b_list : mg "list" = none) (b_range : mg "range" = none) (b_tuple : mg "tuple" = none) {C_Answer : Addr} (hC_Answer : ClsN K "Answer" C_Answer) (cl_Answer : Cls K C_Answer) (ic_Answer : IsiC K C_Answer) (qc_Answer : EqC K C_Answer) {fi_Answer : Addr} {fdi_Answer : FuncData} (M_Answer : Mk K C_Answer fi_Answer) (okI_Answer : FnOk P w K mg base CX0 1 fi_Answer fdi_Answer P_init_Answer (spI K C_Answer 4 g_Answer)) (mgC_Answer : mg "Answer" = some (.ref C_Answer)) (biI_Answer : Binds K fdi_Answer P_init_Answer []) {a_Answer_eq : Addr} {d_Answer_eq : FuncData} (ok_Answer_eq : FnOk P w K mg base CX0 1 a_Answer_eq d_Answer_eq P_Answer_eq (spF K 2 f_Answer_eq)) (at_Answer_eq : PySem.W.findIn K (.ref C_Answer) "__eq__" = some (some (.ref a_Answer_eq))) (fn_Answer_eq : PySem.W.isFn K (.ref a_Answer_eq) = true) (kp_Answer_eq : PySem.W.keepIn K (.ref a_Answer_eq) = true) (bi_Answer_eq : Binds K d_Answer_eq P_Answer_eq []) {a_law_apart : Addr} {d_law_apart : FuncData} (ok_law_apart : FnOk P w K mg base CX0 2 a_law_apart d_law_apart P_law_apart (spF K 2 f_law_apart)) (mg_law_apart : mg "_law_apart" = some (.ref a_law_apart)) (kp_law_apart : PySem.W.keepIn K (.ref a_law_apart) = true) (bi_law_apart : Binds K d_law_apart P_law_apart []) {a_law_changes : Addr} {d_law_changes : FuncData} (ok_law_changes : FnOk P w K mg base CX0 2 a_law_changes d_law_changes P_law_changes (spF K 3 f_law_changes)) (mg_law_changes : mg "_law_changes" = some (.ref a_law_changes)) (kp_law_changes : PySem.W.keepIn K (.ref a_law_changes) = true) (bi_law_changes : Binds K d_law_changes P_law_changes []) {a_law_draw : Addr} {d_law_draw : FuncData} (ok_law_draw : FnOk P w K mg base CX0 1 a_law_draw d_law_draw P_law_draw (spF K 1 f_law_draw)) (mg_law_draw : mg "_law_draw" = some (.ref a_law_draw)) (kp_law_draw : PySem.W.keepIn K (.ref a_law_draw) = true) (bi_law_draw : Binds K d_law_draw P_law_draw []) {a_law_names : Addr} {d_law_names : FuncData} (ok_law_names : FnOk P w K mg base CX0 3 a_law_names d_law_names P_law_names (spF K 1 f_law_names)) (mg_law_names : mg "_law_names" = some (.ref a_law_names)) (kp_law_names : PySem.W.keepIn K (.ref a_law_names) = true) (bi_law_names : Binds K d_law_names P_law_names []) {a_law_near_name : Addr} {d_law_near_name : FuncData} (ok_law_near_name : FnOk P w K mg base CX0 2 a_law_near_name d_law_near_name P_law_near_name (spF K 2 f_law_near_name)) (mg_law_near_name : mg "_law_near_name" = some (.ref a_law_near_name)) (kp_law_near_name : PySem.W.keepIn K (.ref a_law_near_name) = true) (bi_law_near_name : Binds K d_law_near_name P_law_near_name []) {a_law_next : Addr} {d_law_next : FuncData} (ok_law_next : FnOk P w K mg base CX0 1 a_law_next d_law_next P_law_next (spF K 2 f_law_next)) (mg_law_next : mg "_law_next" = some (.ref a_law_next)) (kp_law_next : PySem.W.keepIn K (.ref a_law_next) = true) (bi_law_next : Binds K d_law_next P_law_next []) {a_law_shows : Addr} {d_law_shows : FuncData} (ok_law_shows : FnOk P w K mg base CX0 6 a_law_shows d_law_shows P_law_shows (spF K 3 f_law_shows)) (mg_law_shows : mg "_law_shows" = some (.ref a_law_shows)) (kp_law_shows : PySem.W.keepIn K (.ref a_law_shows) = true) (bi_law_shows : Binds K d_law_shows P_law_shows []) {a_law_values : Addr} {d_law_values : FuncData} (ok_law_values : FnOk P w K mg base CX0 3 a_law_values d_law_values P_law_values (spF K 2 f_law_values)) (mg_law_values : mg "_law_values" = some (.ref a_law_values)) (kp_law_values : PySem.W.keepIn K (.ref a_law_values) = true) (bi_law_values : Binds K d_law_values P_law_values []) :
    FnOk P w K mg base CX0 7 f fd P_law (spF K 1 f_law) := by
  have nd := sc_law.nd
  refine fn_ok F sc_law rfl rfl (by decide) fun cdv A outer s H E hr => ?_
  have hu := hr.units
  exact (sb_cons (ss_set (i := 1) nd rfl (Or.inl rfl) (se_call (fs := []) ok_law_draw fnS_len (hr.mono (by decide)) mg_law_draw kp_law_draw bi_law_draw rfl (sa_cons (se_var (pv 0)) sa_nil)))
    (sb_cons (ss_set (i := 2) nd rfl (Or.inl rfl) (se_call (fs := [true]) ok_law_names fnS_len (hr.mono (by decide)) mg_law_names kp_law_names bi_law_names rfl (sa_cons (se_var (pv 1)) sa_nil)))
    (sb_cons (ss_set (i := 3) nd rfl (Or.inl rfl) (se_call (fs := [true, false]) ok_law_values fnS_len (hr.mono (by decide)) mg_law_values kp_law_values bi_law_values rfl (sa_cons (se_var (pv 1)) (sa_cons (se_var (pv 2)) sa_nil))))
    (sb_cons (ss_set (i := 4) nd rfl (Or.inl rfl) (se_call (fs := [true, false]) ok_law_values fnS_len (hr.mono (by decide)) mg_law_values kp_law_values bi_law_values rfl (sa_cons (se_var (pv 1)) (sa_cons (se_var (pv 2)) sa_nil))))
    (sb_cons (ss_set (i := 5) nd rfl (Or.inl rfl) (se_add (se_var (pv 2)) (se_lst (sa_cons (se_call (fs := [true, false]) ok_law_near_name fnS_len (hr.mono (by decide)) mg_law_near_name kp_law_near_name bi_law_near_name rfl (sa_cons (se_var (pv 1)) (sa_cons (se_ix (se_var (pv 2)) (se_call (fs := [true, false]) ok_law_next fnS_len (hr.mono (by decide)) mg_law_next kp_law_next bi_law_next rfl (sa_cons (se_var (pv 1)) (sa_cons (se_len b_len rfl (sa_cons (se_var (pv 2)) sa_nil)) sa_nil))) (fun _ _ => rfl)) sa_nil))) sa_nil))))
    (sb_cons (ss_set (i := 6) nd rfl (Or.inl rfl) (se_make M_Answer hC_Answer okI_Answer g_Answer_len (hr.mono (by decide)) rfl mgC_Answer biI_Answer (sa_cons (se_ix (se_var (pv 3)) se_int (fun _ _ => rfl)) (sa_cons (se_ix (se_var (pv 3)) se_int (fun _ _ => rfl)) (sa_cons (se_ix (se_var (pv 3)) se_int (fun _ _ => rfl)) (sa_cons (se_ix (se_var (pv 3)) se_int (fun _ _ => rfl)) sa_nil))))))
    (sb_cons (ss_set (i := 7) nd rfl (Or.inl rfl) (se_make M_Answer hC_Answer okI_Answer g_Answer_len (hr.mono (by decide)) rfl mgC_Answer biI_Answer (sa_cons (se_ix (se_var (pv 4)) se_int (fun _ _ => rfl)) (sa_cons (se_ix (se_var (pv 4)) se_int (fun _ _ => rfl)) (sa_cons (se_ix (se_var (pv 4)) se_int (fun _ _ => rfl)) (sa_cons (se_ix (se_var (pv 4)) se_int (fun _ _ => rfl)) sa_nil))))))
    (sb_cons (ss_for PassesOwn.never rfl (si_range1 b_range rfl (sa_cons se_int sa_nil)) (sg_name (i := 8) nd rfl (Or.inl rfl)) (sb_one (ss_if (st_bool (sw_or (st_not (st_val (se_call (fs := []) ok_law_shows fnS_len (hr.mono (by decide)) mg_law_shows kp_law_shows bi_law_shows rfl (sa_cons (se_var (pv 6)) (sa_cons (se_var (pv 3)) (sa_cons (se_var (pv 5)) sa_nil)))) (by intro _; rfl))) (sw_or1 (st_not (st_val (se_call (fs := []) ok_law_shows fnS_len (hr.mono (by decide)) mg_law_shows kp_law_shows bi_law_shows rfl (sa_cons (se_var (pv 7)) (sa_cons (se_var (pv 4)) (sa_cons (se_var (pv 5)) sa_nil)))) (by intro _; rfl)))))) (sb_one (ss_ret se_bl)) sb_nil)))
    (sb_cons (ss_set (i := 9) nd rfl (Or.inl rfl) (se_make M_Answer hC_Answer okI_Answer g_Answer_len (hr.mono (by decide)) rfl mgC_Answer biI_Answer (sa_cons (se_ix (se_var (pv 3)) se_int (fun _ _ => rfl)) (sa_cons (se_ix (se_var (pv 3)) se_int (fun _ _ => rfl)) (sa_cons (se_ix (se_var (pv 3)) se_int (fun _ _ => rfl)) (sa_cons (se_totup b_tuple rfl (sa_cons (se_tolist b_list rfl (se_ix (se_var (pv 3)) se_int (fun _ _ => rfl))) sa_nil)) sa_nil))))))
    (sb_cons (ss_if (st_bool (sw_or (st_not (st_c (Op2.or (oEq hu) (oOwnEq hC_Answer cl_Answer ic_Answer qc_Answer at_Answer_eq fn_Answer_eq hu ok_Answer_eq (hr.mono (by decide)) bi_Answer_eq )) (se_var (pv 6)) (se_var (pv 9)) (nomark _))) (sw_or (st_not (st_c (Op2.or (oEq hu) (oOwnEq hC_Answer cl_Answer ic_Answer qc_Answer at_Answer_eq fn_Answer_eq hu ok_Answer_eq (hr.mono (by decide)) bi_Answer_eq )) (se_var (pv 9)) (se_var (pv 6)) (nomark _))) (sw_or1 (st_c (oNe hu) (se_c (Op2.or (oEq hu) (oOwnEq hC_Answer cl_Answer ic_Answer qc_Answer at_Answer_eq fn_Answer_eq hu ok_Answer_eq (hr.mono (by decide)) bi_Answer_eq )) (se_var (pv 6)) (se_var (pv 7)) (nomark _)) (se_c (Op2.or (oEq hu) (oOwnEq hC_Answer cl_Answer ic_Answer qc_Answer at_Answer_eq fn_Answer_eq hu ok_Answer_eq (hr.mono (by decide)) bi_Answer_eq )) (se_var (pv 3)) (se_var (pv 4)) (nomark _)) (nomark _)))))) (sb_one (ss_ret se_bl)) sb_nil)
    (sb_cons (ss_if (st_bool (sw_or (st_not (st_val (se_call (fs := []) ok_law_apart fnS_len (hr.mono (by decide)) mg_law_apart kp_law_apart bi_law_apart rfl (sa_cons (se_var (pv 6)) (sa_cons (se_var (pv 3)) sa_nil))) (by intro _; rfl))) (sw_or1 (st_not (st_val (se_call (fs := []) ok_law_apart fnS_len (hr.mono (by decide)) mg_law_apart kp_law_apart bi_law_apart rfl (sa_cons (se_var (pv 7)) (sa_cons (se_var (pv 4)) sa_nil))) (by intro _; rfl)))))) (sb_one (ss_ret se_bl)) sb_nil)
    (sb_cons (ss_for PassesOwn.never rfl (si_seq (se_call (fs := [true, false, false]) ok_law_changes fnS_len (hr.mono (by decide)) mg_law_changes kp_law_changes bi_law_changes rfl (sa_cons (se_var (pv 1)) (sa_cons (se_var (pv 3)) (sa_cons (se_var (pv 2)) sa_nil))))) (sg_name (i := 10) nd rfl (Or.inl rfl)) (sb_cons (ss_set (i := 11) nd rfl (Or.inl rfl) (se_make M_Answer hC_Answer okI_Answer g_Answer_len (hr.mono (by decide)) rfl mgC_Answer biI_Answer (sa_cons (se_ix (se_var (pv 10)) se_int (fun _ _ => rfl)) (sa_cons (se_ix (se_var (pv 10)) se_int (fun _ _ => rfl)) (sa_cons (se_ix (se_var (pv 10)) se_int (fun _ _ => rfl)) (sa_cons (se_ix (se_var (pv 10)) se_int (fun _ _ => rfl)) sa_nil))))))
    (sb_one (ss_if (st_bool (sw_or (st_c (Op2.or (oEq hu) (oOwnEq hC_Answer cl_Answer ic_Answer qc_Answer at_Answer_eq fn_Answer_eq hu ok_Answer_eq (hr.mono (by decide)) bi_Answer_eq )) (se_var (pv 6)) (se_var (pv 11)) (nomark _)) (sw_or (st_c (Op2.or (oEq hu) (oOwnEq hC_Answer cl_Answer ic_Answer qc_Answer at_Answer_eq fn_Answer_eq hu ok_Answer_eq (hr.mono (by decide)) bi_Answer_eq )) (se_var (pv 11)) (se_var (pv 6)) (nomark _)) (sw_or1 (st_not (st_val (se_call (fs := []) ok_law_shows fnS_len (hr.mono (by decide)) mg_law_shows kp_law_shows bi_law_shows rfl (sa_cons (se_var (pv 11)) (sa_cons (se_var (pv 10)) (sa_cons (se_var (pv 5)) sa_nil)))) (by intro _; rfl))))))) (sb_one (ss_ret se_bl)) sb_nil))))
    (sb_one (ss_ret (se_call (fs := []) ok_law_shows fnS_len (hr.mono (by decide)) mg_law_shows kp_law_shows bi_law_shows rfl (sa_cons (se_var (pv 6)) (sa_cons (se_var (pv 3)) (sa_cons (se_var (pv 5)) sa_nil))))))))))))))))))
end
end K84
namespace K84
open PySem PySem.Spec PyProof.Rows L2 Sw
/-! what the top has written -/
theorem all_mk {l : PySem.W.OpenLaw} {w : World} {K : PySem.W.Frag} {h : Heap} {mg : Str → Option Value} {fa : Addr} (X : K.In h) (G : h.Ns mainGlobals mg) (hfa : mg "law" = some (.ref fa))
    {C_Answer : Addr} (aC_Answer : PySem.W.nsIn K mainGlobals "Answer" = some (some (.ref C_Answer)))
    (pg_Answer : PySem.W.plainGet K C_Answer PySem.Str.empty = true) (hd_Answer : PySem.W.hasDictIn K C_Answer = true) (po_Answer : PySem.W.plainOver K C_Answer = true) (sa_Answer : PySem.W.findIn K (.ref C_Answer) "__setattr__" = some (some (.builtin "object.__setattr__"))) (mk_Answer : PySem.W.makesIn K C_Answer = true) (kc_Answer : PySem.W.keepIn K (.ref C_Answer) = true)
    (na_Answer_text : PySem.W.findIn K (.ref C_Answer) "text" = some none)
    (na_Answer_start : PySem.W.findIn K (.ref C_Answer) "start" = some none)
    (na_Answer_end : PySem.W.findIn K (.ref C_Answer) "end" = some none)
    (na_Answer_row : PySem.W.findIn K (.ref C_Answer) "row" = some none)
    (na_Answer__names : PySem.W.findIn K (.ref C_Answer) "_names" = some none)
    (ic0_Answer : PySem.W.findIn K (.ref C_Answer) "__class__" = some (some (.builtin "object.__class__"))) (ic1_Answer : PySem.W.specialIn K (.builtin "object.__class__") "__get__" = some (some (.builtin "getset_descriptor.__get__"))) (ic2_Answer : PySem.W.takesIn K (.builtin "object.__class__") = some true) (ic3_Answer : PySem.W.mroIn K C_Answer (.type "object") = some true)
    (ic4_Answer : PySem.W.kitOne K (.type "NoneType") (.ref C_Answer) = some false)
    (ic5_Answer : PySem.W.kitOne K (.type "bool") (.ref C_Answer) = some false)
    (ic6_Answer : PySem.W.kitOne K (.type "int") (.ref C_Answer) = some false)
    (ic7_Answer : PySem.W.kitOne K (.type "str") (.ref C_Answer) = some false)
    (ic8_Answer : PySem.W.kitOne K (.type "list") (.ref C_Answer) = some false)
    (ic9_Answer : PySem.W.kitOne K (.type "tuple") (.ref C_Answer) = some false)
    (qc0_Answer : PySem.W.notFirst K C_Answer (.type "NoneType") = true)
    (qc1_Answer : PySem.W.notFirst K C_Answer (.type "bool") = true)
    (qc2_Answer : PySem.W.notFirst K C_Answer (.type "int") = true)
    (qc3_Answer : PySem.W.notFirst K C_Answer (.type "str") = true)
    (qc4_Answer : PySem.W.notFirst K C_Answer (.type "tuple") = true)
    (ql_Answer : PySem.W.notFirst K C_Answer (.type "list") = true)
    (rq0_Answer : PySem.W.subIn K (.ref C_Answer) (.type "NoneType") = some false)
    (rq1_Answer : PySem.W.subIn K (.ref C_Answer) (.type "bool") = some false)
    (rq2_Answer : PySem.W.subIn K (.ref C_Answer) (.type "int") = some false)
    (rq3_Answer : PySem.W.subIn K (.ref C_Answer) (.type "str") = some false)
    (rq4_Answer : PySem.W.subIn K (.ref C_Answer) (.type "tuple") = some false)
    (rq5_Answer : PySem.W.subIn K (.ref C_Answer) (.type "list") = some false)
    {f0 : Addr} {od0 an0 : Option Addr} {sl0 : Array (Option Value)} {oc0 kV0 dc0 pm0 cd0 ct0 : Value}
    (a0 : PySem.W.findIn K (.ref C_Answer) "__eq__" = some (some (.ref f0))) (i0 : PySem.W.isFn K (.ref f0) = true) (l0 : K.lookup f0 = some ⟨oc0, od0, .func (PySem.W.fnOf "__eq__" "Answer.__eq__" (defArgs st_Answer_eq) (defBody st_Answer_eq) (defScope st_Answer_eq) .none kV0 dc0 pm0 an0 cd0 ct0), sl0⟩) (c0 : PySem.W.codeIn K cd0 "Answer.__eq__" = true) (k0 : PySem.W.keepIn K (.ref f0) = true)
    {f1 : Addr} {od1 an1 : Option Addr} {sl1 : Array (Option Value)} {oc1 kV1 dc1 pm1 cd1 ct1 : Value}
    (a1 : PySem.W.findIn K (.ref C_Answer) "__init__" = some (some (.ref f1))) (i1 : PySem.W.isFn K (.ref f1) = true) (l1 : K.lookup f1 = some ⟨oc1, od1, .func (PySem.W.fnOf "__init__" "Answer.__init__" (defArgs st_init_Answer) (defBody st_init_Answer) (defScope st_init_Answer) .none kV1 dc1 pm1 an1 cd1 ct1), sl1⟩) (c1 : PySem.W.codeIn K cd1 "Answer.__init__" = true) (k1 : PySem.W.keepIn K (.ref f1) = true)
    {f2 : Addr} {od2 an2 : Option Addr} {sl2 : Array (Option Value)} {oc2 kV2 dc2 pm2 cd2 ct2 : Value}
    (a2 : PySem.W.nsIn K mainGlobals "_law_apart" = some (some (.ref f2))) (l2 : K.lookup f2 = some ⟨oc2, od2, .func (PySem.W.fnOf "_law_apart" "_law_apart" (defArgs st_law_apart) (defBody st_law_apart) (defScope st_law_apart) .none kV2 dc2 pm2 an2 cd2 ct2), sl2⟩) (c2 : PySem.W.codeIn K cd2 "_law_apart" = true) (k2 : PySem.W.keepIn K (.ref f2) = true)
    {f3 : Addr} {od3 an3 : Option Addr} {sl3 : Array (Option Value)} {oc3 kV3 dc3 pm3 cd3 ct3 : Value}
    (a3 : PySem.W.nsIn K mainGlobals "_law_next" = some (some (.ref f3))) (l3 : K.lookup f3 = some ⟨oc3, od3, .func (PySem.W.fnOf "_law_next" "_law_next" (defArgs st_law_next) (defBody st_law_next) (defScope st_law_next) .none kV3 dc3 pm3 an3 cd3 ct3), sl3⟩) (c3 : PySem.W.codeIn K cd3 "_law_next" = true) (k3 : PySem.W.keepIn K (.ref f3) = true)
    {f4 : Addr} {od4 an4 : Option Addr} {sl4 : Array (Option Value)} {oc4 kV4 dc4 pm4 cd4 ct4 : Value}
    (a4 : PySem.W.nsIn K mainGlobals "_law_signs" = some (some (.ref f4))) (l4 : K.lookup f4 = some ⟨oc4, od4, .func (PySem.W.fnOf "_law_signs" "_law_signs" (defArgs st_law_signs) (defBody st_law_signs) (defScope st_law_signs) .none kV4 dc4 pm4 an4 cd4 ct4), sl4⟩) (c4 : PySem.W.codeIn K cd4 "_law_signs" = true) (k4 : PySem.W.keepIn K (.ref f4) = true)
    {f5 : Addr} {od5 an5 : Option Addr} {sl5 : Array (Option Value)} {oc5 kV5 dc5 pm5 cd5 ct5 : Value}
    (a5 : PySem.W.nsIn K mainGlobals "_law_changes" = some (some (.ref f5))) (l5 : K.lookup f5 = some ⟨oc5, od5, .func (PySem.W.fnOf "_law_changes" "_law_changes" (defArgs st_law_changes) (defBody st_law_changes) (defScope st_law_changes) .none kV5 dc5 pm5 an5 cd5 ct5), sl5⟩) (c5 : PySem.W.codeIn K cd5 "_law_changes" = true) (k5 : PySem.W.keepIn K (.ref f5) = true)
    {f6 : Addr} {od6 an6 : Option Addr} {sl6 : Array (Option Value)} {oc6 kV6 dc6 pm6 cd6 ct6 : Value}
    (a6 : PySem.W.nsIn K mainGlobals "_law_draw" = some (some (.ref f6))) (l6 : K.lookup f6 = some ⟨oc6, od6, .func (PySem.W.fnOf "_law_draw" "_law_draw" (defArgs st_law_draw) (defBody st_law_draw) (defScope st_law_draw) .none kV6 dc6 pm6 an6 cd6 ct6), sl6⟩) (c6 : PySem.W.codeIn K cd6 "_law_draw" = true) (k6 : PySem.W.keepIn K (.ref f6) = true)
    {f7 : Addr} {od7 an7 : Option Addr} {sl7 : Array (Option Value)} {oc7 kV7 dc7 pm7 cd7 ct7 : Value}
    (a7 : PySem.W.nsIn K mainGlobals "_law_near_name" = some (some (.ref f7))) (l7 : K.lookup f7 = some ⟨oc7, od7, .func (PySem.W.fnOf "_law_near_name" "_law_near_name" (defArgs st_law_near_name) (defBody st_law_near_name) (defScope st_law_near_name) .none kV7 dc7 pm7 an7 cd7 ct7), sl7⟩) (c7 : PySem.W.codeIn K cd7 "_law_near_name" = true) (k7 : PySem.W.keepIn K (.ref f7) = true)
    {f8 : Addr} {od8 an8 : Option Addr} {sl8 : Array (Option Value)} {oc8 kV8 dc8 pm8 cd8 ct8 : Value}
    (a8 : PySem.W.nsIn K mainGlobals "_law_new_name" = some (some (.ref f8))) (l8 : K.lookup f8 = some ⟨oc8, od8, .func (PySem.W.fnOf "_law_new_name" "_law_new_name" (defArgs st_law_new_name) (defBody st_law_new_name) (defScope st_law_new_name) .none kV8 dc8 pm8 an8 cd8 ct8), sl8⟩) (c8 : PySem.W.codeIn K cd8 "_law_new_name" = true) (k8 : PySem.W.keepIn K (.ref f8) = true)
    {f9 : Addr} {od9 an9 : Option Addr} {sl9 : Array (Option Value)} {oc9 kV9 dc9 pm9 cd9 ct9 : Value}
    (a9 : PySem.W.nsIn K mainGlobals "_law_names" = some (some (.ref f9))) (l9 : K.lookup f9 = some ⟨oc9, od9, .func (PySem.W.fnOf "_law_names" "_law_names" (defArgs st_law_names) (defBody st_law_names) (defScope st_law_names) .none kV9 dc9 pm9 an9 cd9 ct9), sl9⟩) (c9 : PySem.W.codeIn K cd9 "_law_names" = true) (k9 : PySem.W.keepIn K (.ref f9) = true)
    {f10 : Addr} {od10 an10 : Option Addr} {sl10 : Array (Option Value)} {oc10 kV10 dc10 pm10 cd10 ct10 : Value}
    (a10 : PySem.W.findIn K (.ref C_Answer) "__contains__" = some (some (.ref f10))) (i10 : PySem.W.isFn K (.ref f10) = true) (l10 : K.lookup f10 = some ⟨oc10, od10, .func (PySem.W.fnOf "__contains__" "Answer.__contains__" (defArgs st_Answer_contains) (defBody st_Answer_contains) (defScope st_Answer_contains) .none kV10 dc10 pm10 an10 cd10 ct10), sl10⟩) (c10 : PySem.W.codeIn K cd10 "Answer.__contains__" = true) (k10 : PySem.W.keepIn K (.ref f10) = true)
    {f11 : Addr} {od11 an11 : Option Addr} {sl11 : Array (Option Value)} {oc11 kV11 dc11 pm11 cd11 ct11 : Value}
    (a11 : PySem.W.findIn K (.ref C_Answer) "__iter__" = some (some (.ref f11))) (i11 : PySem.W.isFn K (.ref f11) = true) (l11 : K.lookup f11 = some ⟨oc11, od11, .func (PySem.W.fnOf "__iter__" "Answer.__iter__" (defArgs st_Answer_iter) (defBody st_Answer_iter) (defScope st_Answer_iter) .none kV11 dc11 pm11 an11 cd11 ct11), sl11⟩) (c11 : PySem.W.codeIn K cd11 "Answer.__iter__" = true) (k11 : PySem.W.keepIn K (.ref f11) = true)
    {f12 : Addr} {od12 an12 : Option Addr} {sl12 : Array (Option Value)} {oc12 kV12 dc12 pm12 cd12 ct12 : Value}
    (a12 : PySem.W.findIn K (.ref C_Answer) "__len__" = some (some (.ref f12))) (i12 : PySem.W.isFn K (.ref f12) = true) (l12 : K.lookup f12 = some ⟨oc12, od12, .func (PySem.W.fnOf "__len__" "Answer.__len__" (defArgs st_Answer_len) (defBody st_Answer_len) (defScope st_Answer_len) .none kV12 dc12 pm12 an12 cd12 ct12), sl12⟩) (c12 : PySem.W.codeIn K cd12 "Answer.__len__" = true) (k12 : PySem.W.keepIn K (.ref f12) = true)
    {f13 : Addr} {od13 an13 : Option Addr} {sl13 : Array (Option Value)} {oc13 kV13 dc13 pm13 cd13 ct13 : Value}
    (a13 : PySem.W.findIn K (.ref C_Answer) "span" = some (some (.ref f13))) (i13 : PySem.W.isFn K (.ref f13) = true) (l13 : K.lookup f13 = some ⟨oc13, od13, .func (PySem.W.fnOf "span" "Answer.span" (defArgs st_Answer_span) (defBody st_Answer_span) (defScope st_Answer_span) .none kV13 dc13 pm13 an13 cd13 ct13), sl13⟩) (c13 : PySem.W.codeIn K cd13 "Answer.span" = true) (k13 : PySem.W.keepIn K (.ref f13) = true)
    {f14 : Addr} {od14 an14 : Option Addr} {sl14 : Array (Option Value)} {oc14 kV14 dc14 pm14 cd14 ct14 : Value}
    {p14 : Addr} (pa14 : PySem.W.findIn K (.ref C_Answer) "whole" = some (some (.ref p14))) (pg14 : PySem.W.specialIn K (.ref p14) "__get__" = some (some (.builtin "property.__get__"))) (pt14 : PySem.W.takesIn K (.ref p14) = some true) (pc14 : ∃ rest, PySem.W.recIn K p14 "property" = some (.ref f14 :: rest)) (l14 : K.lookup f14 = some ⟨oc14, od14, .func (PySem.W.fnOf "whole" "Answer.whole" (defArgs st_Answer_whole) (defBody st_Answer_whole) (defScope st_Answer_whole) .none kV14 dc14 pm14 an14 cd14 ct14), sl14⟩) (c14 : PySem.W.codeIn K cd14 "Answer.whole" = true) (k14 : PySem.W.keepIn K (.ref f14) = true)
    {f15 : Addr} {od15 an15 : Option Addr} {sl15 : Array (Option Value)} {oc15 kV15 dc15 pm15 cd15 ct15 : Value}
    (a15 : PySem.W.nsIn K mainGlobals "_law_int" = some (some (.ref f15))) (l15 : K.lookup f15 = some ⟨oc15, od15, .func (PySem.W.fnOf "_law_int" "_law_int" (defArgs st_law_int) (defBody st_law_int) (defScope st_law_int) .none kV15 dc15 pm15 an15 cd15 ct15), sl15⟩) (c15 : PySem.W.codeIn K cd15 "_law_int" = true) (k15 : PySem.W.keepIn K (.ref f15) = true)
    {f16 : Addr} {od16 an16 : Option Addr} {sl16 : Array (Option Value)} {oc16 kV16 dc16 pm16 cd16 ct16 : Value}
    (a16 : PySem.W.nsIn K mainGlobals "_law_is_row" = some (some (.ref f16))) (l16 : K.lookup f16 = some ⟨oc16, od16, .func (PySem.W.fnOf "_law_is_row" "_law_is_row" (defArgs st_law_is_row) (defBody st_law_is_row) (defScope st_law_is_row) .none kV16 dc16 pm16 an16 cd16 ct16), sl16⟩) (c16 : PySem.W.codeIn K cd16 "_law_is_row" = true) (k16 : PySem.W.keepIn K (.ref f16) = true)
    {f17 : Addr} {od17 an17 : Option Addr} {sl17 : Array (Option Value)} {oc17 kV17 dc17 pm17 cd17 ct17 : Value}
    (a17 : PySem.W.findIn K (.ref C_Answer) "__getitem__" = some (some (.ref f17))) (i17 : PySem.W.isFn K (.ref f17) = true) (l17 : K.lookup f17 = some ⟨oc17, od17, .func (PySem.W.fnOf "__getitem__" "Answer.__getitem__" (defArgs st_Answer_getitem) (defBody st_Answer_getitem) (defScope st_Answer_getitem) .none kV17 dc17 pm17 an17 cd17 ct17), sl17⟩) (c17 : PySem.W.codeIn K cd17 "Answer.__getitem__" = true) (k17 : PySem.W.keepIn K (.ref f17) = true)
    {f18 : Addr} {od18 an18 : Option Addr} {sl18 : Array (Option Value)} {oc18 kV18 dc18 pm18 cd18 ct18 : Value}
    (a18 : PySem.W.nsIn K mainGlobals "_law_set_to" = some (some (.ref f18))) (l18 : K.lookup f18 = some ⟨oc18, od18, .func (PySem.W.fnOf "_law_set_to" "_law_set_to" (defArgs st_law_set_to) (defBody st_law_set_to) (defScope st_law_set_to) .none kV18 dc18 pm18 an18 cd18 ct18), sl18⟩) (c18 : PySem.W.codeIn K cd18 "_law_set_to" = true) (k18 : PySem.W.keepIn K (.ref f18) = true)
    {f19 : Addr} {od19 an19 : Option Addr} {sl19 : Array (Option Value)} {oc19 kV19 dc19 pm19 cd19 ct19 : Value}
    (a19 : PySem.W.nsIn K mainGlobals "_law_unknown" = some (some (.ref f19))) (l19 : K.lookup f19 = some ⟨oc19, od19, .func (PySem.W.fnOf "_law_unknown" "_law_unknown" (defArgs st_law_unknown) (defBody st_law_unknown) (defScope st_law_unknown) .none kV19 dc19 pm19 an19 cd19 ct19), sl19⟩) (c19 : PySem.W.codeIn K cd19 "_law_unknown" = true) (k19 : PySem.W.keepIn K (.ref f19) = true)
    {f20 : Addr} {od20 an20 : Option Addr} {sl20 : Array (Option Value)} {oc20 kV20 dc20 pm20 cd20 ct20 : Value}
    (a20 : PySem.W.nsIn K mainGlobals "_law_shows" = some (some (.ref f20))) (l20 : K.lookup f20 = some ⟨oc20, od20, .func (PySem.W.fnOf "_law_shows" "_law_shows" (defArgs st_law_shows) (defBody st_law_shows) (defScope st_law_shows) .none kV20 dc20 pm20 an20 cd20 ct20), sl20⟩) (c20 : PySem.W.codeIn K cd20 "_law_shows" = true) (k20 : PySem.W.keepIn K (.ref f20) = true)
    {f21 : Addr} {od21 an21 : Option Addr} {sl21 : Array (Option Value)} {oc21 kV21 dc21 pm21 cd21 ct21 : Value}
    (a21 : PySem.W.nsIn K mainGlobals "_law_letters" = some (some (.ref f21))) (l21 : K.lookup f21 = some ⟨oc21, od21, .func (PySem.W.fnOf "_law_letters" "_law_letters" (defArgs st_law_letters) (defBody st_law_letters) (defScope st_law_letters) .none kV21 dc21 pm21 an21 cd21 ct21), sl21⟩) (c21 : PySem.W.codeIn K cd21 "_law_letters" = true) (k21 : PySem.W.keepIn K (.ref f21) = true)
    {f22 : Addr} {od22 an22 : Option Addr} {sl22 : Array (Option Value)} {oc22 kV22 dc22 pm22 cd22 ct22 : Value}
    (a22 : PySem.W.nsIn K mainGlobals "_law_row" = some (some (.ref f22))) (l22 : K.lookup f22 = some ⟨oc22, od22, .func (PySem.W.fnOf "_law_row" "_law_row" (defArgs st_law_row) (defBody st_law_row) (defScope st_law_row) .none kV22 dc22 pm22 an22 cd22 ct22), sl22⟩) (c22 : PySem.W.codeIn K cd22 "_law_row" = true) (k22 : PySem.W.keepIn K (.ref f22) = true)
    {f23 : Addr} {od23 an23 : Option Addr} {sl23 : Array (Option Value)} {oc23 kV23 dc23 pm23 cd23 ct23 : Value}
    (a23 : PySem.W.nsIn K mainGlobals "_law_values" = some (some (.ref f23))) (l23 : K.lookup f23 = some ⟨oc23, od23, .func (PySem.W.fnOf "_law_values" "_law_values" (defArgs st_law_values) (defBody st_law_values) (defScope st_law_values) .none kV23 dc23 pm23 an23 cd23 ct23), sl23⟩) (c23 : PySem.W.codeIn K cd23 "_law_values" = true) (k23 : PySem.W.keepIn K (.ref f23) = true)
    {f24 : Addr} {od24 an24 : Option Addr} {sl24 : Array (Option Value)} {oc24 kV24 dc24 pm24 cd24 ct24 : Value}
    (a24 : PySem.W.nsIn K mainGlobals "law" = some (some (.ref f24))) (l24 : K.lookup f24 = some ⟨oc24, od24, .func (PySem.W.fnOf "law" "law" (defArgs st_law) (defBody st_law) (defScope st_law) .none kV24 dc24 pm24 an24 cd24 ct24), sl24⟩) (c24 : PySem.W.codeIn K cd24 "law" = true) (k24 : PySem.W.keepIn K (.ref f24) = true)
    (z_ValueError : PySem.W.nsIn K mainGlobals "ValueError" = some none)
    (z_bool : PySem.W.nsIn K mainGlobals "bool" = some none)
    (z_int : PySem.W.nsIn K mainGlobals "int" = some none)
    (z_isinstance : PySem.W.nsIn K mainGlobals "isinstance" = some none)
    (z_iter : PySem.W.nsIn K mainGlobals "iter" = some none)
    (z_len : PySem.W.nsIn K mainGlobals "len" = some none)
    (z_list : PySem.W.nsIn K mainGlobals "list" = some none)
    (z_max : PySem.W.nsIn K mainGlobals "max" = some none)
    (z_min : PySem.W.nsIn K mainGlobals "min" = some none)
    (z_range : PySem.W.nsIn K mainGlobals "range" = some none)
    (z_sorted : PySem.W.nsIn K mainGlobals "sorted" = some none)
    (z_str : PySem.W.nsIn K mainGlobals "str" = some none)
    (z_tuple : PySem.W.nsIn K mainGlobals "tuple" = some none)
    (x_hn : PySem.W.specialIn K (.builtin "object.__class__") "__get__" = some (some (.builtin "getset_descriptor.__get__")))
    (x_ht : PySem.W.takesIn K (.builtin "object.__class__") = some true)
    {X_BadTree : Addr}
    (x_a_BadTree : PySem.W.nsIn K mainGlobals "BadTree" = some (some (.ref X_BadTree)))
    (x_i_BadTree : PySem.W.isClsIn K X_BadTree = true)
    (x_t_BadTree : PySem.W.typeIn K (.ref X_BadTree) = some (.type "type"))
    {X_NoSuchText : Addr}
    (x_a_NoSuchText : PySem.W.nsIn K mainGlobals "NoSuchText" = some (some (.ref X_NoSuchText)))
    (x_i_NoSuchText : PySem.W.isClsIn K X_NoSuchText = true)
    (x_t_NoSuchText : PySem.W.typeIn K (.ref X_NoSuchText) = some (.type "type"))
    {X_NotPlain : Addr}
    (x_a_NotPlain : PySem.W.nsIn K mainGlobals "NotPlain" = some (some (.ref X_NotPlain)))
    (x_i_NotPlain : PySem.W.isClsIn K X_NotPlain = true)
    (x_t_NotPlain : PySem.W.typeIn K (.ref X_NotPlain) = some (.type "type"))
    {X_NotRegular : Addr}
    (x_a_NotRegular : PySem.W.nsIn K mainGlobals "NotRegular" = some (some (.ref X_NotRegular)))
    (x_i_NotRegular : PySem.W.isClsIn K X_NotRegular = true)
    (x_t_NotRegular : PySem.W.typeIn K (.ref X_NotRegular) = some (.type "type"))
    {X_OutOfSteps : Addr}
    (x_a_OutOfSteps : PySem.W.nsIn K mainGlobals "OutOfSteps" = some (some (.ref X_OutOfSteps)))
    (x_i_OutOfSteps : PySem.W.isClsIn K X_OutOfSteps = true)
    (x_t_OutOfSteps : PySem.W.typeIn K (.ref X_OutOfSteps) = some (.type "type"))
    {X_PatternFault : Addr}
    (x_a_PatternFault : PySem.W.nsIn K mainGlobals "PatternFault" = some (some (.ref X_PatternFault)))
    (x_i_PatternFault : PySem.W.isClsIn K X_PatternFault = true)
    (x_t_PatternFault : PySem.W.typeIn K (.ref X_PatternFault) = some (.type "type"))
    {X_SpanError : Addr}
    (x_a_SpanError : PySem.W.nsIn K mainGlobals "SpanError" = some (some (.ref X_SpanError)))
    (x_i_SpanError : PySem.W.isClsIn K X_SpanError = true)
    (x_t_SpanError : PySem.W.typeIn K (.ref X_SpanError) = some (.type "type"))
    {X_StreamClosed : Addr}
    (x_a_StreamClosed : PySem.W.nsIn K mainGlobals "StreamClosed" = some (some (.ref X_StreamClosed)))
    (x_i_StreamClosed : PySem.W.isClsIn K X_StreamClosed = true)
    (x_t_StreamClosed : PySem.W.typeIn K (.ref X_StreamClosed) = some (.type "type"))
    {X_TemplateFault : Addr}
    (x_a_TemplateFault : PySem.W.nsIn K mainGlobals "TemplateFault" = some (some (.ref X_TemplateFault)))
    (x_i_TemplateFault : PySem.W.isClsIn K X_TemplateFault = true)
    (x_t_TemplateFault : PySem.W.typeIn K (.ref X_TemplateFault) = some (.type "type"))
    {X_TooManyAnswers : Addr}
    (x_a_TooManyAnswers : PySem.W.nsIn K mainGlobals "TooManyAnswers" = some (some (.ref X_TooManyAnswers)))
    (x_i_TooManyAnswers : PySem.W.isClsIn K X_TooManyAnswers = true)
    (x_t_TooManyAnswers : PySem.W.typeIn K (.ref X_TooManyAnswers) = some (.type "type"))
    {X_TooManyStates : Addr}
    (x_a_TooManyStates : PySem.W.nsIn K mainGlobals "TooManyStates" = some (some (.ref X_TooManyStates)))
    (x_i_TooManyStates : PySem.W.isClsIn K X_TooManyStates = true)
    (x_t_TooManyStates : PySem.W.typeIn K (.ref X_TooManyStates) = some (.type "type"))
    {X_UnknownGroup : Addr}
    (x_a_UnknownGroup : PySem.W.nsIn K mainGlobals "UnknownGroup" = some (some (.ref X_UnknownGroup)))
    (x_i_UnknownGroup : PySem.W.isClsIn K X_UnknownGroup = true)
    (x_t_UnknownGroup : PySem.W.typeIn K (.ref X_UnknownGroup) = some (.type "type"))
    (x_e_SpanError : PySem.W.subIn K (.ref X_SpanError) (.type "BaseException") = some true)
    (x_d_SpanError : PySem.W.hasDictIn K X_SpanError = true)
    (x_e_UnknownGroup : PySem.W.subIn K (.ref X_UnknownGroup) (.type "BaseException") = some true)
    (x_d_UnknownGroup : PySem.W.hasDictIn K X_UnknownGroup = true)
    {fx_UnknownGroup : Addr} {odx_UnknownGroup anx_UnknownGroup : Option Addr} {slx_UnknownGroup : Array (Option Value)} {ocx_UnknownGroup kVx_UnknownGroup dcx_UnknownGroup pmx_UnknownGroup cdx_UnknownGroup ctx_UnknownGroup : Value}
    {nmx_UnknownGroup qx_UnknownGroup : Str} {Nx_UnknownGroup : Addr} {bsx_UnknownGroup bmx_UnknownGroup : List Value} {snx_UnknownGroup : List Str} {subx_UnknownGroup : List Value} {abx_UnknownGroup : Bool} {colx_UnknownGroup : Option Bool} {ddx_UnknownGroup : Option Addr} {m0x_UnknownGroup m1x_UnknownGroup m2x_UnknownGroup m3x_UnknownGroup m5x_UnknownGroup : Option Value}
    (x_c_UnknownGroup : K.lookup X_UnknownGroup = some (excClassObj nmx_UnknownGroup qx_UnknownGroup X_UnknownGroup Nx_UnknownGroup bsx_UnknownGroup bmx_UnknownGroup true snx_UnknownGroup subx_UnknownGroup abx_UnknownGroup colx_UnknownGroup ddx_UnknownGroup m0x_UnknownGroup m1x_UnknownGroup m2x_UnknownGroup m3x_UnknownGroup m5x_UnknownGroup "ValueError.__new__"))
    (x_r_UnknownGroup : PySem.HandSPX.refsVE bmx_UnknownGroup = true)
    (x_sa_UnknownGroup : PySem.W.findIn K (.ref X_UnknownGroup) "__setattr__" = some (some (.builtin "object.__setattr__")))
    (x_in_UnknownGroup : PySem.W.findIn K (.ref X_UnknownGroup) "__init__" = some (some (.ref fx_UnknownGroup)))
    (x_ty_UnknownGroup : PySem.W.typeIn K (.ref fx_UnknownGroup) = some (.type "function"))
    (x_l_UnknownGroup : K.lookup fx_UnknownGroup = some ⟨ocx_UnknownGroup, odx_UnknownGroup, .func (PySem.W.fnOf "__init__" "UnknownGroup.__init__" (defArgs stx_UnknownGroup) (defBody stx_UnknownGroup) (defScope stx_UnknownGroup) .none kVx_UnknownGroup dcx_UnknownGroup pmx_UnknownGroup anx_UnknownGroup cdx_UnknownGroup ctx_UnknownGroup), slx_UnknownGroup⟩)
    (x_cd_UnknownGroup : PySem.W.codeIn K cdx_UnknownGroup "UnknownGroup.__init__" = true)
    (x_kf_UnknownGroup : PySem.W.keepIn K (.ref fx_UnknownGroup) = true)
    (x_nf_UnknownGroup : PySem.W.findIn K (.ref X_UnknownGroup) "name" = some none)
    (x_k_UnknownGroup : PySem.W.keepIn K (.ref X_UnknownGroup) = true)
    (x_hg_UnknownGroup : PySem.W.findIn K (.ref X_UnknownGroup) "__getattribute__" = some (some (.builtin "BaseException.__getattribute__")))
    (x_hk_UnknownGroup : PySem.W.findIn K (.ref X_UnknownGroup) "__getattr__" = some none)
    (x_ha_UnknownGroup : PySem.W.findIn K (.ref X_UnknownGroup) "__class__" = some (some (.builtin "object.__class__")))
    (x_hm_UnknownGroup : PySem.W.mroIn K X_UnknownGroup (.type "object") = some true)
    (x_s_UnknownGroup_BadTree : PySem.W.subIn K (.ref X_UnknownGroup) (.ref X_BadTree) = some false)
    (x_s_UnknownGroup_NoSuchText : PySem.W.subIn K (.ref X_UnknownGroup) (.ref X_NoSuchText) = some false)
    (x_s_UnknownGroup_NotPlain : PySem.W.subIn K (.ref X_UnknownGroup) (.ref X_NotPlain) = some false)
    (x_s_UnknownGroup_NotRegular : PySem.W.subIn K (.ref X_UnknownGroup) (.ref X_NotRegular) = some false)
    (x_s_UnknownGroup_OutOfSteps : PySem.W.subIn K (.ref X_UnknownGroup) (.ref X_OutOfSteps) = some false)
    (x_s_UnknownGroup_PatternFault : PySem.W.subIn K (.ref X_UnknownGroup) (.ref X_PatternFault) = some false)
    (x_s_UnknownGroup_SpanError : PySem.W.subIn K (.ref X_UnknownGroup) (.ref X_SpanError) = some true)
    (x_s_UnknownGroup_StreamClosed : PySem.W.subIn K (.ref X_UnknownGroup) (.ref X_StreamClosed) = some false)
    (x_s_UnknownGroup_TemplateFault : PySem.W.subIn K (.ref X_UnknownGroup) (.ref X_TemplateFault) = some false)
    (x_s_UnknownGroup_TooManyAnswers : PySem.W.subIn K (.ref X_UnknownGroup) (.ref X_TooManyAnswers) = some false)
    (x_s_UnknownGroup_TooManyStates : PySem.W.subIn K (.ref X_UnknownGroup) (.ref X_TooManyStates) = some false)
    (x_s_UnknownGroup_UnknownGroup : PySem.W.subIn K (.ref X_UnknownGroup) (.ref X_UnknownGroup) = some true)
    (x_s_UnknownGroup_ValueError : PySem.W.subIn K (.ref X_UnknownGroup) (.type "ValueError") = some true)
    : ∃ fd : FuncData, (∀ (s : Shared) (v : Value), BindsTo s fd ⟨[v], []⟩ [("_law_script", v)]) ∧ ∀ base : Heap, K.In base → base.Ns mainGlobals mg → FnOk l.prog w K mg base CX0 7 fa fd ["_law_script"] (spF K 1 f_law) := by
  have e := hfa.symm.trans (PySem.W.mg_of X G a24)
  cases e
  have E0 := fun_mk (st := st_Answer_eq) l0 c0 k0
  have F0 := fun_g E0
  have b0 := E0.binds (ps := P_Answer_eq) fun _ _ _ _ _ _ us hl => match us, hl with | [_, _], _ => rfl
  have E1 := fun_mk (st := st_init_Answer) l1 c1 k1
  have F1 := fun_g E1
  have b1 := E1.binds (ps := P_init_Answer) fun _ _ _ _ _ _ us hl => match us, hl with | [_, _, _, _, _], _ => rfl
  have E2 := fun_mk (st := st_law_apart) l2 c2 k2
  have F2 := fun_g E2
  have b2 := E2.binds (ps := P_law_apart) fun _ _ _ _ _ _ us hl => match us, hl with | [_, _], _ => rfl
  have E3 := fun_mk (st := st_law_next) l3 c3 k3
  have F3 := fun_g E3
  have b3 := E3.binds (ps := P_law_next) fun _ _ _ _ _ _ us hl => match us, hl with | [_, _], _ => rfl
  have E4 := fun_mk (st := st_law_signs) l4 c4 k4
  have F4 := fun_g E4
  have b4 := E4.binds (ps := P_law_signs) fun _ _ _ _ _ _ us hl => match us, hl with | [], _ => rfl
  have E5 := fun_mk (st := st_law_changes) l5 c5 k5
  have F5 := fun_g E5
  have b5 := E5.binds (ps := P_law_changes) fun _ _ _ _ _ _ us hl => match us, hl with | [_, _, _], _ => rfl
  have E6 := fun_mk (st := st_law_draw) l6 c6 k6
  have F6 := fun_g E6
  have b6 := E6.binds (ps := P_law_draw) fun _ _ _ _ _ _ us hl => match us, hl with | [_], _ => rfl
  have E7 := fun_mk (st := st_law_near_name) l7 c7 k7
  have F7 := fun_g E7
  have b7 := E7.binds (ps := P_law_near_name) fun _ _ _ _ _ _ us hl => match us, hl with | [_, _], _ => rfl
  have E8 := fun_mk (st := st_law_new_name) l8 c8 k8
  have F8 := fun_g E8
  have b8 := E8.binds (ps := P_law_new_name) fun _ _ _ _ _ _ us hl => match us, hl with | [_], _ => rfl
  have E9 := fun_mk (st := st_law_names) l9 c9 k9
  have F9 := fun_g E9
  have b9 := E9.binds (ps := P_law_names) fun _ _ _ _ _ _ us hl => match us, hl with | [_], _ => rfl
  have E10 := fun_mk (st := st_Answer_contains) l10 c10 k10
  have F10 := fun_g E10
  have b10 := E10.binds (ps := P_Answer_contains) fun _ _ _ _ _ _ us hl => match us, hl with | [_, _], _ => rfl
  have E11 := fun_mk (st := st_Answer_iter) l11 c11 k11
  have F11 := fun_g E11
  have b11 := E11.binds (ps := P_Answer_iter) fun _ _ _ _ _ _ us hl => match us, hl with | [_], _ => rfl
  have E12 := fun_mk (st := st_Answer_len) l12 c12 k12
  have F12 := fun_g E12
  have b12 := E12.binds (ps := P_Answer_len) fun _ _ _ _ _ _ us hl => match us, hl with | [_], _ => rfl
  have E13 := fun_mk (st := st_Answer_span) l13 c13 k13
  have F13 := fun_g E13
  have b13 := E13.binds (ps := P_Answer_span) fun _ _ _ _ _ _ us hl => match us, hl with | [_, _], _ => rfl
  have E14 := fun_mk (st := st_Answer_whole) l14 c14 k14
  have F14 := fun_g E14
  have b14 := E14.binds (ps := P_Answer_whole) fun _ _ _ _ _ _ us hl => match us, hl with | [_], _ => rfl
  have E15 := fun_mk (st := st_law_int) l15 c15 k15
  have F15 := fun_g E15
  have b15 := E15.binds (ps := P_law_int) fun _ _ _ _ _ _ us hl => match us, hl with | [_], _ => rfl
  have E16 := fun_mk (st := st_law_is_row) l16 c16 k16
  have F16 := fun_g E16
  have b16 := E16.binds (ps := P_law_is_row) fun _ _ _ _ _ _ us hl => match us, hl with | [_], _ => rfl
  have E17 := fun_mk (st := st_Answer_getitem) l17 c17 k17
  have F17 := fun_g E17
  have b17 := E17.binds (ps := P_Answer_getitem) fun _ _ _ _ _ _ us hl => match us, hl with | [_, _], _ => rfl
  have E18 := fun_mk (st := st_law_set_to) l18 c18 k18
  have F18 := fun_g E18
  have b18 := E18.binds (ps := P_law_set_to) fun _ _ _ _ _ _ us hl => match us, hl with | [_, _, _], _ => rfl
  have E19 := fun_mk (st := st_law_unknown) l19 c19 k19
  have F19 := fun_g E19
  have b19 := E19.binds (ps := P_law_unknown) fun _ _ _ _ _ _ us hl => match us, hl with | [_, _], _ => rfl
  have E20 := fun_mk (st := st_law_shows) l20 c20 k20
  have F20 := fun_g E20
  have b20 := E20.binds (ps := P_law_shows) fun _ _ _ _ _ _ us hl => match us, hl with | [_, _, _], _ => rfl
  have E21 := fun_mk (st := st_law_letters) l21 c21 k21
  have F21 := fun_g E21
  have b21 := E21.binds (ps := P_law_letters) fun _ _ _ _ _ _ us hl => match us, hl with | [_], _ => rfl
  have E22 := fun_mk (st := st_law_row) l22 c22 k22
  have F22 := fun_g E22
  have b22 := E22.binds (ps := P_law_row) fun _ _ _ _ _ _ us hl => match us, hl with | [_, _, _, _], _ => rfl
  have E23 := fun_mk (st := st_law_values) l23 c23 k23
  have F23 := fun_g E23
  have b23 := E23.binds (ps := P_law_values) fun _ _ _ _ _ _ us hl => match us, hl with | [_, _], _ => rfl
  have E24 := fun_mk (st := st_law) l24 c24 k24
  have F24 := fun_g E24
  have b24 := E24.binds (ps := P_law) fun _ _ _ _ _ _ us hl => match us, hl with | [_], _ => rfl
  refine ⟨PySem.W.fnOf "law" "law" (defArgs st_law) (defBody st_law) (defScope st_law) .none kV24 dc24 pm24 an24 cd24 ct24, fun s v => .of_eq rfl, fun base _ _ => ?_⟩
  have ox_UnknownGroup : OexC K X_UnknownGroup := ⟨⟨_, _, _, _, _, _, _, _, _, _, _, _, _, _, _, x_c_UnknownGroup, x_r_UnknownGroup⟩, x_sa_UnknownGroup, x_e_UnknownGroup, x_t_UnknownGroup, x_k_UnknownGroup⟩
  have Fx_UnknownGroup := fun_mk (st := stx_UnknownGroup) x_l_UnknownGroup x_cd_UnknownGroup x_kf_UnknownGroup
  have bx_UnknownGroup := Fx_UnknownGroup.binds (ps := ["self", "name"]) fun _ _ _ _ _ _ us hl => match us, hl with | [_, _], _ => rfl
  have XX : XCls K mg X_BadTree X_NoSuchText X_NotPlain X_NotRegular X_OutOfSteps X_PatternFault X_SpanError X_StreamClosed X_TemplateFault X_TooManyAnswers X_TooManyStates X_UnknownGroup fx_UnknownGroup := { g_BadTree := PySem.W.mg_of X G x_a_BadTree, g_NoSuchText := PySem.W.mg_of X G x_a_NoSuchText, g_NotPlain := PySem.W.mg_of X G x_a_NotPlain, g_NotRegular := PySem.W.mg_of X G x_a_NotRegular, g_OutOfSteps := PySem.W.mg_of X G x_a_OutOfSteps, g_PatternFault := PySem.W.mg_of X G x_a_PatternFault, g_SpanError := PySem.W.mg_of X G x_a_SpanError, g_StreamClosed := PySem.W.mg_of X G x_a_StreamClosed, g_TemplateFault := PySem.W.mg_of X G x_a_TemplateFault, g_TooManyAnswers := PySem.W.mg_of X G x_a_TooManyAnswers, g_TooManyStates := PySem.W.mg_of X G x_a_TooManyStates, g_UnknownGroup := PySem.W.mg_of X G x_a_UnknownGroup, n_UnknownGroup_name := x_nf_UnknownGroup, rs_UnknownGroup := ⟨x_a_UnknownGroup, ox_UnknownGroup, x_in_UnknownGroup, x_ty_UnknownGroup⟩, xc_UnknownGroup := ⟨x_hg_UnknownGroup, x_hk_UnknownGroup, x_e_UnknownGroup, x_d_UnknownGroup, x_ha_UnknownGroup, x_hn, x_ht, x_hm_UnknownGroup⟩, q_UnknownGroup_BadTree := kit_own x_i_BadTree x_t_BadTree x_s_UnknownGroup_BadTree fun z => by (subst z; have y := x_s_UnknownGroup_UnknownGroup.symm.trans x_s_UnknownGroup_BadTree; cases y), q_UnknownGroup_NoSuchText := kit_own x_i_NoSuchText x_t_NoSuchText x_s_UnknownGroup_NoSuchText fun z => by (subst z; have y := x_s_UnknownGroup_UnknownGroup.symm.trans x_s_UnknownGroup_NoSuchText; cases y), q_UnknownGroup_NotPlain := kit_own x_i_NotPlain x_t_NotPlain x_s_UnknownGroup_NotPlain fun z => by (subst z; have y := x_s_UnknownGroup_UnknownGroup.symm.trans x_s_UnknownGroup_NotPlain; cases y), q_UnknownGroup_NotRegular := kit_own x_i_NotRegular x_t_NotRegular x_s_UnknownGroup_NotRegular fun z => by (subst z; have y := x_s_UnknownGroup_UnknownGroup.symm.trans x_s_UnknownGroup_NotRegular; cases y), q_UnknownGroup_OutOfSteps := kit_own x_i_OutOfSteps x_t_OutOfSteps x_s_UnknownGroup_OutOfSteps fun z => by (subst z; have y := x_s_UnknownGroup_UnknownGroup.symm.trans x_s_UnknownGroup_OutOfSteps; cases y), q_UnknownGroup_PatternFault := kit_own x_i_PatternFault x_t_PatternFault x_s_UnknownGroup_PatternFault fun z => by (subst z; have y := x_s_UnknownGroup_UnknownGroup.symm.trans x_s_UnknownGroup_PatternFault; cases y), q_UnknownGroup_SpanError := kit_own x_i_SpanError x_t_SpanError x_s_UnknownGroup_SpanError fun _ => rfl, q_UnknownGroup_StreamClosed := kit_own x_i_StreamClosed x_t_StreamClosed x_s_UnknownGroup_StreamClosed fun z => by (subst z; have y := x_s_UnknownGroup_UnknownGroup.symm.trans x_s_UnknownGroup_StreamClosed; cases y), q_UnknownGroup_TemplateFault := kit_own x_i_TemplateFault x_t_TemplateFault x_s_UnknownGroup_TemplateFault fun z => by (subst z; have y := x_s_UnknownGroup_UnknownGroup.symm.trans x_s_UnknownGroup_TemplateFault; cases y), q_UnknownGroup_TooManyAnswers := kit_own x_i_TooManyAnswers x_t_TooManyAnswers x_s_UnknownGroup_TooManyAnswers fun z => by (subst z; have y := x_s_UnknownGroup_UnknownGroup.symm.trans x_s_UnknownGroup_TooManyAnswers; cases y), q_UnknownGroup_TooManyStates := kit_own x_i_TooManyStates x_t_TooManyStates x_s_UnknownGroup_TooManyStates fun z => by (subst z; have y := x_s_UnknownGroup_UnknownGroup.symm.trans x_s_UnknownGroup_TooManyStates; cases y), q_UnknownGroup_UnknownGroup := kit_self, q_UnknownGroup_ValueError := kit_blt (by decide +kernel) x_s_UnknownGroup_ValueError, e_UnknownGroup_SpanError := PySem.W.exm_ref x_e_SpanError x_d_SpanError x_t_SpanError x_s_UnknownGroup_SpanError }
  have G0 := ok_Answer_eq (P := l.prog) (w := w) (mg := mg) (base := base) F0 (PySem.W.mg_none_of X G z_isinstance) aC_Answer ⟨pg_Answer, hd_Answer, po_Answer, sa_Answer⟩ na_Answer_text na_Answer_start na_Answer_end na_Answer_row ⟨ic0_Answer, ic1_Answer, ic2_Answer, ic3_Answer, ic4_Answer, ic5_Answer, ic6_Answer, ic7_Answer, ic8_Answer, ic9_Answer⟩ (PySem.W.mg_of X G aC_Answer)
  have G1 := ok_init_Answer (P := l.prog) (w := w) (mg := mg) (base := base) F1 ⟨pg_Answer, hd_Answer, po_Answer, sa_Answer⟩ na_Answer_text na_Answer_start na_Answer_end na_Answer_row na_Answer__names
  have G2 := ok_law_apart (P := l.prog) (w := w) (mg := mg) (base := base) F2 (PySem.W.mg_none_of X G z_len) (PySem.W.mg_none_of X G z_list) aC_Answer ⟨pg_Answer, hd_Answer, po_Answer, sa_Answer⟩ ⟨ic0_Answer, ic1_Answer, ic2_Answer, ic3_Answer, ic4_Answer, ic5_Answer, ic6_Answer, ic7_Answer, ic8_Answer, ic9_Answer⟩ ⟨qc0_Answer, qc1_Answer, qc2_Answer, qc3_Answer, qc4_Answer⟩ ⟨ql_Answer⟩ ⟨rq0_Answer, rq1_Answer, rq2_Answer, rq3_Answer, rq4_Answer, rq5_Answer⟩ G0 a0 i0 k0 b0
  have G3 := ok_law_next (P := l.prog) (w := w) (mg := mg) (base := base) F3 (PySem.W.mg_none_of X G z_int) (PySem.W.mg_none_of X G z_len)
  have G4 := ok_law_signs (P := l.prog) (w := w) (mg := mg) (base := base) F4 
  have G5 := ok_law_changes (P := l.prog) (w := w) (mg := mg) (base := base) F5 (PySem.W.mg_none_of X G z_int) (PySem.W.mg_none_of X G z_len) (PySem.W.mg_none_of X G z_list) (PySem.W.mg_none_of X G z_range) (PySem.W.mg_none_of X G z_sorted) (PySem.W.mg_none_of X G z_tuple) G3 (PySem.W.mg_of X G a3) k3 b3 G4 (PySem.W.mg_of X G a4) k4 b4
  have G6 := ok_law_draw (P := l.prog) (w := w) (mg := mg) (base := base) F6 (PySem.W.mg_none_of X G z_int) (PySem.W.mg_none_of X G z_range)
  have G7 := ok_law_near_name (P := l.prog) (w := w) (mg := mg) (base := base) F7 (PySem.W.mg_none_of X G z_len) G3 (PySem.W.mg_of X G a3) k3 b3
  have G8 := ok_law_new_name (P := l.prog) (w := w) (mg := mg) (base := base) F8 (PySem.W.mg_none_of X G z_range) G3 (PySem.W.mg_of X G a3) k3 b3
  have G9 := ok_law_names (P := l.prog) (w := w) (mg := mg) (base := base) F9 (PySem.W.mg_none_of X G z_len) (PySem.W.mg_none_of X G z_range) (PySem.W.mg_none_of X G z_sorted) G7 (PySem.W.mg_of X G a7) k7 b7 G8 (PySem.W.mg_of X G a8) k8 b8 G3 (PySem.W.mg_of X G a3) k3 b3
  have G10 := ok_Answer_contains (P := l.prog) (w := w) (mg := mg) (base := base) F10 aC_Answer ⟨pg_Answer, hd_Answer, po_Answer, sa_Answer⟩ na_Answer__names
  have G11 := ok_Answer_iter (P := l.prog) (w := w) (mg := mg) (base := base) F11 (PySem.W.mg_none_of X G z_iter) aC_Answer ⟨pg_Answer, hd_Answer, po_Answer, sa_Answer⟩ na_Answer__names
  have G12 := ok_Answer_len (P := l.prog) (w := w) (mg := mg) (base := base) F12 (PySem.W.mg_none_of X G z_len) aC_Answer ⟨pg_Answer, hd_Answer, po_Answer, sa_Answer⟩ na_Answer__names
  have G13 := ok_Answer_span (P := l.prog) (w := w) (mg := mg) (base := base) F13 aC_Answer ⟨pg_Answer, hd_Answer, po_Answer, sa_Answer⟩ na_Answer_row
  have G14 := ok_Answer_whole (P := l.prog) (w := w) (mg := mg) (base := base) F14 aC_Answer ⟨pg_Answer, hd_Answer, po_Answer, sa_Answer⟩ na_Answer_text na_Answer_start na_Answer_end
  have G15 := ok_law_int (P := l.prog) (w := w) (mg := mg) (base := base) F15 (PySem.W.mg_none_of X G z_bool) (PySem.W.mg_none_of X G z_int) (PySem.W.mg_none_of X G z_isinstance)
  have G16 := ok_law_is_row (P := l.prog) (w := w) (mg := mg) (base := base) F16 (PySem.W.mg_none_of X G z_isinstance) (PySem.W.mg_none_of X G z_len) (PySem.W.mg_none_of X G z_str) (PySem.W.mg_none_of X G z_tuple) G15 (PySem.W.mg_of X G a15) k15 b15
  have G17 := ok_Answer_getitem (P := l.prog) (w := w) (mg := mg) (base := base) F17 aC_Answer ⟨pg_Answer, hd_Answer, po_Answer, sa_Answer⟩ na_Answer_text XX (okxi_UnknownGroup (fun_g Fx_UnknownGroup) ox_UnknownGroup x_nf_UnknownGroup) bx_UnknownGroup G13 a13 i13 k13 b13
  have G18 := ok_law_set_to (P := l.prog) (w := w) (mg := mg) (base := base) F18 (PySem.W.mg_none_of X G z_isinstance) (PySem.W.mg_none_of X G z_len) (PySem.W.mg_none_of X G z_str) (PySem.W.mg_none_of X G z_tuple) aC_Answer ⟨pg_Answer, hd_Answer, po_Answer, sa_Answer⟩ G10 a10 i10 k10 b10 G17 a17 i17 (fnIn_g F17) k17 b17 G13 a13 i13 k13 b13 G15 (PySem.W.mg_of X G a15) k15 b15
  have G19 := ok_law_unknown (P := l.prog) (w := w) (mg := mg) (base := base) F19 (PySem.W.mg_none_of X G z_ValueError) (PySem.W.mg_none_of X G z_isinstance) (PySem.W.mg_none_of X G z_str) aC_Answer XX G17 a17 i17 (fnIn_g F17) k17 b17
  have G20 := ok_law_shows (P := l.prog) (w := w) (mg := mg) (base := base) F20 (PySem.W.mg_none_of X G z_isinstance) (PySem.W.mg_none_of X G z_len) (PySem.W.mg_none_of X G z_list) (PySem.W.mg_none_of X G z_str) aC_Answer ⟨pg_Answer, hd_Answer, po_Answer, sa_Answer⟩ na_Answer_text na_Answer_start na_Answer_end na_Answer_row G10 a10 i10 k10 b10 G11 a11 i11 k11 b11 G12 a12 i12 k12 b12 G13 a13 i13 k13 b13 G14 ⟨pa14, pg14, pt14, pc14⟩ b14 G15 (PySem.W.mg_of X G a15) k15 b15 G16 (PySem.W.mg_of X G a16) k16 b16 G18 (PySem.W.mg_of X G a18) k18 b18 G19 (PySem.W.mg_of X G a19) k19 b19
  have G21 := ok_law_letters (P := l.prog) (w := w) (mg := mg) (base := base) F21 (PySem.W.mg_none_of X G z_int) (PySem.W.mg_none_of X G z_range) G3 (PySem.W.mg_of X G a3) k3 b3 G4 (PySem.W.mg_of X G a4) k4 b4
  have G22 := ok_law_row (P := l.prog) (w := w) (mg := mg) (base := base) F22 (PySem.W.mg_none_of X G z_len) (PySem.W.mg_none_of X G z_max) (PySem.W.mg_none_of X G z_min) (PySem.W.mg_none_of X G z_sorted) (PySem.W.mg_none_of X G z_tuple) G3 (PySem.W.mg_of X G a3) k3 b3
  have G23 := ok_law_values (P := l.prog) (w := w) (mg := mg) (base := base) F23 (PySem.W.mg_none_of X G z_len) (PySem.W.mg_none_of X G z_max) (PySem.W.mg_none_of X G z_min) (PySem.W.mg_none_of X G z_range) G21 (PySem.W.mg_of X G a21) k21 b21 G3 (PySem.W.mg_of X G a3) k3 b3 G22 (PySem.W.mg_of X G a22) k22 b22 G4 (PySem.W.mg_of X G a4) k4 b4
  have G24 := ok_law (P := l.prog) (w := w) (mg := mg) (base := base) F24 (PySem.W.mg_none_of X G z_len) (PySem.W.mg_none_of X G z_list) (PySem.W.mg_none_of X G z_range) (PySem.W.mg_none_of X G z_tuple) aC_Answer ⟨pg_Answer, hd_Answer, po_Answer, sa_Answer⟩ ⟨ic0_Answer, ic1_Answer, ic2_Answer, ic3_Answer, ic4_Answer, ic5_Answer, ic6_Answer, ic7_Answer, ic8_Answer, ic9_Answer⟩ ⟨qc0_Answer, qc1_Answer, qc2_Answer, qc3_Answer, qc4_Answer⟩ ⟨mk_Answer, a1, i1, kc_Answer⟩ G1 (PySem.W.mg_of X G aC_Answer) b1 G0 a0 i0 k0 b0 G2 (PySem.W.mg_of X G a2) k2 b2 G5 (PySem.W.mg_of X G a5) k5 b5 G6 (PySem.W.mg_of X G a6) k6 b6 G9 (PySem.W.mg_of X G a9) k9 b9 G7 (PySem.W.mg_of X G a7) k7 b7 G3 (PySem.W.mg_of X G a3) k3 b3 G20 (PySem.W.mg_of X G a20) k20 b20 G23 (PySem.W.mg_of X G a23) k23 b23
  exact G24
end K84
open PySem PySem.W PyProof.Rows
set_option maxHeartbeats 0 in
theorem PySem.Challenge.cw_surespan_k84_answer_object_holds : PySem.Challenge.rw_surespan_k84_answer_object.Holds := by
  w_on; o_law; k_head; (case hw => w_witness2)
  k_fill
  refine L2.walk_ofK (l := PySem.Challenge.rw_surespan_k84_answer_object) (n := 63) (k := 7) (x := "_law_script") (CX := L2.CX0) (sp := fun K => Sw.spF K 1 K84.f_law) rfl (by decide) rfl ⟨rfl, by decide, by decide⟩ (fun w h Y => PySem.W.kIn_of Y) ?F (fun K H a ns hl _ hS => Sw.law_sp hS (K84.law_true ns hl)) (fun _ _ _ _ h => h)
  case F =>
    intro w mg fa h KX G hmg
    refine' K84.all_mk KX G hmg ?aC_Answer ?pg_Answer ?hd_Answer ?po_Answer ?sa_Answer ?mk_Answer ?kc_Answer ?na_Answer_text ?na_Answer_start ?na_Answer_end ?na_Answer_row ?na_Answer__names ?ic0_Answer ?ic1_Answer ?ic2_Answer ?ic3_Answer ?ic4_Answer ?ic5_Answer ?ic6_Answer ?ic7_Answer ?ic8_Answer ?ic9_Answer ?qc0_Answer ?qc1_Answer ?qc2_Answer ?qc3_Answer ?qc4_Answer ?ql_Answer ?rq0_Answer ?rq1_Answer ?rq2_Answer ?rq3_Answer ?rq4_Answer ?rq5_Answer ?a0 ?i0 ?l0 ?c0 ?k0 ?a1 ?i1 ?l1 ?c1 ?k1 ?a2 ?l2 ?c2 ?k2 ?a3 ?l3 ?c3 ?k3 ?a4 ?l4 ?c4 ?k4 ?a5 ?l5 ?c5 ?k5 ?a6 ?l6 ?c6 ?k6 ?a7 ?l7 ?c7 ?k7 ?a8 ?l8 ?c8 ?k8 ?a9 ?l9 ?c9 ?k9 ?a10 ?i10 ?l10 ?c10 ?k10 ?a11 ?i11 ?l11 ?c11 ?k11 ?a12 ?i12 ?l12 ?c12 ?k12 ?a13 ?i13 ?l13 ?c13 ?k13 ?pa14 ?pg14 ?pt14 ?pc14 ?l14 ?c14 ?k14 ?a15 ?l15 ?c15 ?k15 ?a16 ?l16 ?c16 ?k16 ?a17 ?i17 ?l17 ?c17 ?k17 ?a18 ?l18 ?c18 ?k18 ?a19 ?l19 ?c19 ?k19 ?a20 ?l20 ?c20 ?k20 ?a21 ?l21 ?c21 ?k21 ?a22 ?l22 ?c22 ?k22 ?a23 ?l23 ?c23 ?k23 ?a24 ?l24 ?c24 ?k24 ?z_ValueError ?z_bool ?z_int ?z_isinstance ?z_iter ?z_len ?z_list ?z_max ?z_min ?z_range ?z_sorted ?z_str ?z_tuple ?x_hn ?x_ht ?x_a_BadTree ?x_i_BadTree ?x_t_BadTree ?x_a_NoSuchText ?x_i_NoSuchText ?x_t_NoSuchText ?x_a_NotPlain ?x_i_NotPlain ?x_t_NotPlain ?x_a_NotRegular ?x_i_NotRegular ?x_t_NotRegular ?x_a_OutOfSteps ?x_i_OutOfSteps ?x_t_OutOfSteps ?x_a_PatternFault ?x_i_PatternFault ?x_t_PatternFault ?x_a_SpanError ?x_i_SpanError ?x_t_SpanError ?x_a_StreamClosed ?x_i_StreamClosed ?x_t_StreamClosed ?x_a_TemplateFault ?x_i_TemplateFault ?x_t_TemplateFault ?x_a_TooManyAnswers ?x_i_TooManyAnswers ?x_t_TooManyAnswers ?x_a_TooManyStates ?x_i_TooManyStates ?x_t_TooManyStates ?x_a_UnknownGroup ?x_i_UnknownGroup ?x_t_UnknownGroup ?x_e_SpanError ?x_d_SpanError ?x_e_UnknownGroup ?x_d_UnknownGroup ?x_c_UnknownGroup ?x_r_UnknownGroup ?x_sa_UnknownGroup ?x_in_UnknownGroup ?x_ty_UnknownGroup ?x_l_UnknownGroup ?x_cd_UnknownGroup ?x_kf_UnknownGroup ?x_nf_UnknownGroup ?x_k_UnknownGroup ?x_hg_UnknownGroup ?x_hk_UnknownGroup ?x_ha_UnknownGroup ?x_hm_UnknownGroup ?x_s_UnknownGroup_BadTree ?x_s_UnknownGroup_NoSuchText ?x_s_UnknownGroup_NotPlain ?x_s_UnknownGroup_NotRegular ?x_s_UnknownGroup_OutOfSteps ?x_s_UnknownGroup_PatternFault ?x_s_UnknownGroup_SpanError ?x_s_UnknownGroup_StreamClosed ?x_s_UnknownGroup_TemplateFault ?x_s_UnknownGroup_TooManyAnswers ?x_s_UnknownGroup_TooManyStates ?x_s_UnknownGroup_UnknownGroup ?x_s_UnknownGroup_ValueError
    (case aC_Answer => k_is)
    (case pg_Answer => k_is)
    (case hd_Answer => k_is)
    (case po_Answer => k_is)
    (case sa_Answer => k_is)
    (case mk_Answer => k_is)
    (case kc_Answer => k_is)
    (case na_Answer_text => k_is)
    (case na_Answer_start => k_is)
    (case na_Answer_end => k_is)
    (case na_Answer_row => k_is)
    (case na_Answer__names => k_is)
    (case ic0_Answer => k_is)
    (case ic1_Answer => k_is)
    (case ic2_Answer => k_is)
    (case ic3_Answer => k_is)
    (case ic4_Answer => first | k_is | kit_is | decide +kernel)
    (case ic5_Answer => first | k_is | kit_is | decide +kernel)
    (case ic6_Answer => first | k_is | kit_is | decide +kernel)
    (case ic7_Answer => first | k_is | kit_is | decide +kernel)
    (case ic8_Answer => first | k_is | kit_is | decide +kernel)
    (case ic9_Answer => first | k_is | kit_is | decide +kernel)
    (case qc0_Answer => first | k_is | kit_is | decide +kernel)
    (case qc1_Answer => first | k_is | kit_is | decide +kernel)
    (case qc2_Answer => first | k_is | kit_is | decide +kernel)
    (case qc3_Answer => first | k_is | kit_is | decide +kernel)
    (case qc4_Answer => first | k_is | kit_is | decide +kernel)
    (case ql_Answer => first | k_is | kit_is | decide +kernel)
    (case rq0_Answer => first | k_is | kit_is | decide +kernel)
    (case rq1_Answer => first | k_is | kit_is | decide +kernel)
    (case rq2_Answer => first | k_is | kit_is | decide +kernel)
    (case rq3_Answer => first | k_is | kit_is | decide +kernel)
    (case rq4_Answer => first | k_is | kit_is | decide +kernel)
    (case rq5_Answer => first | k_is | kit_is | decide +kernel)
    (case a0 => k_is)
    (case i0 => k_is)
    (case l0 => k_is)
    (case c0 => k_is)
    (case k0 => k_is)
    (case a1 => k_is)
    (case i1 => k_is)
    (case l1 => k_is)
    (case c1 => k_is)
    (case k1 => k_is)
    (case a2 => k_is)
    (case l2 => k_is)
    (case c2 => k_is)
    (case k2 => k_is)
    (case a3 => k_is)
    (case l3 => k_is)
    (case c3 => k_is)
    (case k3 => k_is)
    (case a4 => k_is)
    (case l4 => k_is)
    (case c4 => k_is)
    (case k4 => k_is)
    (case a5 => k_is)
    (case l5 => k_is)
    (case c5 => k_is)
    (case k5 => k_is)
    (case a6 => k_is)
    (case l6 => k_is)
    (case c6 => k_is)
    (case k6 => k_is)
    (case a7 => k_is)
    (case l7 => k_is)
    (case c7 => k_is)
    (case k7 => k_is)
    (case a8 => k_is)
    (case l8 => k_is)
    (case c8 => k_is)
    (case k8 => k_is)
    (case a9 => k_is)
    (case l9 => k_is)
    (case c9 => k_is)
    (case k9 => k_is)
    (case a10 => k_is)
    (case i10 => k_is)
    (case l10 => k_is)
    (case c10 => k_is)
    (case k10 => k_is)
    (case a11 => k_is)
    (case i11 => k_is)
    (case l11 => k_is)
    (case c11 => k_is)
    (case k11 => k_is)
    (case a12 => k_is)
    (case i12 => k_is)
    (case l12 => k_is)
    (case c12 => k_is)
    (case k12 => k_is)
    (case a13 => k_is)
    (case i13 => k_is)
    (case l13 => k_is)
    (case c13 => k_is)
    (case k13 => k_is)
    (case pa14 => k_is)
    (case pg14 => k_is)
    (case pt14 => k_is)
    (case pc14 => exact ⟨_, by k_is⟩)
    (case l14 => k_is)
    (case c14 => k_is)
    (case k14 => k_is)
    (case a15 => k_is)
    (case l15 => k_is)
    (case c15 => k_is)
    (case k15 => k_is)
    (case a16 => k_is)
    (case l16 => k_is)
    (case c16 => k_is)
    (case k16 => k_is)
    (case a17 => k_is)
    (case i17 => k_is)
    (case l17 => k_is)
    (case c17 => k_is)
    (case k17 => k_is)
    (case a18 => k_is)
    (case l18 => k_is)
    (case c18 => k_is)
    (case k18 => k_is)
    (case a19 => k_is)
    (case l19 => k_is)
    (case c19 => k_is)
    (case k19 => k_is)
    (case a20 => k_is)
    (case l20 => k_is)
    (case c20 => k_is)
    (case k20 => k_is)
    (case a21 => k_is)
    (case l21 => k_is)
    (case c21 => k_is)
    (case k21 => k_is)
    (case a22 => k_is)
    (case l22 => k_is)
    (case c22 => k_is)
    (case k22 => k_is)
    (case a23 => k_is)
    (case l23 => k_is)
    (case c23 => k_is)
    (case k23 => k_is)
    (case a24 => k_is)
    (case l24 => k_is)
    (case c24 => k_is)
    (case k24 => k_is)
    (case z_ValueError => k_is)
    (case z_bool => k_is)
    (case z_int => k_is)
    (case z_isinstance => k_is)
    (case z_iter => k_is)
    (case z_len => k_is)
    (case z_list => k_is)
    (case z_max => k_is)
    (case z_min => k_is)
    (case z_range => k_is)
    (case z_sorted => k_is)
    (case z_str => k_is)
    (case z_tuple => k_is)
    (case x_hn => k_is)
    (case x_ht => k_is)
    (case x_a_BadTree => k_is)
    (case x_i_BadTree => k_is)
    (case x_t_BadTree => k_is)
    (case x_a_NoSuchText => k_is)
    (case x_i_NoSuchText => k_is)
    (case x_t_NoSuchText => k_is)
    (case x_a_NotPlain => k_is)
    (case x_i_NotPlain => k_is)
    (case x_t_NotPlain => k_is)
    (case x_a_NotRegular => k_is)
    (case x_i_NotRegular => k_is)
    (case x_t_NotRegular => k_is)
    (case x_a_OutOfSteps => k_is)
    (case x_i_OutOfSteps => k_is)
    (case x_t_OutOfSteps => k_is)
    (case x_a_PatternFault => k_is)
    (case x_i_PatternFault => k_is)
    (case x_t_PatternFault => k_is)
    (case x_a_SpanError => k_is)
    (case x_i_SpanError => k_is)
    (case x_t_SpanError => k_is)
    (case x_a_StreamClosed => k_is)
    (case x_i_StreamClosed => k_is)
    (case x_t_StreamClosed => k_is)
    (case x_a_TemplateFault => k_is)
    (case x_i_TemplateFault => k_is)
    (case x_t_TemplateFault => k_is)
    (case x_a_TooManyAnswers => k_is)
    (case x_i_TooManyAnswers => k_is)
    (case x_t_TooManyAnswers => k_is)
    (case x_a_TooManyStates => k_is)
    (case x_i_TooManyStates => k_is)
    (case x_t_TooManyStates => k_is)
    (case x_a_UnknownGroup => k_is)
    (case x_i_UnknownGroup => k_is)
    (case x_t_UnknownGroup => k_is)
    (case x_e_SpanError => k_is)
    (case x_d_SpanError => k_is)
    (case x_e_UnknownGroup => k_is)
    (case x_d_UnknownGroup => k_is)
    (case x_c_UnknownGroup => k_is)
    (case x_r_UnknownGroup => decide +kernel)
    (case x_sa_UnknownGroup => k_is)
    (case x_in_UnknownGroup => k_is)
    (case x_ty_UnknownGroup => k_is)
    (case x_l_UnknownGroup => k_is)
    (case x_cd_UnknownGroup => k_is)
    (case x_kf_UnknownGroup => k_is)
    (case x_nf_UnknownGroup => k_is)
    (case x_k_UnknownGroup => k_is)
    (case x_hg_UnknownGroup => k_is)
    (case x_hk_UnknownGroup => k_is)
    (case x_ha_UnknownGroup => k_is)
    (case x_hm_UnknownGroup => k_is)
    (case x_s_UnknownGroup_BadTree => first | rfl | k_is)
    (case x_s_UnknownGroup_NoSuchText => first | rfl | k_is)
    (case x_s_UnknownGroup_NotPlain => first | rfl | k_is)
    (case x_s_UnknownGroup_NotRegular => first | rfl | k_is)
    (case x_s_UnknownGroup_OutOfSteps => first | rfl | k_is)
    (case x_s_UnknownGroup_PatternFault => first | rfl | k_is)
    (case x_s_UnknownGroup_SpanError => first | rfl | k_is)
    (case x_s_UnknownGroup_StreamClosed => first | rfl | k_is)
    (case x_s_UnknownGroup_TemplateFault => first | rfl | k_is)
    (case x_s_UnknownGroup_TooManyAnswers => first | rfl | k_is)
    (case x_s_UnknownGroup_TooManyStates => first | rfl | k_is)
    (case x_s_UnknownGroup_UnknownGroup => first | rfl | k_is)
    (case x_s_UnknownGroup_ValueError => k_is)
