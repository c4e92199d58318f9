import PyProof.Rows.All
import Wide.All
import OpenK.AllK
import Wide.FinOn
import HandS.ForMost
import HandS.Flow
import HandS.Style
import HandS.StrMore
import KE.KDictKeyed
import HandS.TupAny
import HandS.TupLe
import HandS.IsInst
import HandS.Flt
import HandS.RaiseMore
import HandS.SortInts
import HandS.More
import KE.GoesMore
import PyProof.Draws
import PyProof.EnumMake
import HandS.Zip
import HandS.ExcIs
import HandS.ExcInit
import HandS.ExcField
import HandS.WordsExc
import HandS.HotCalls
import HandS.ExcInitHot
import KE.KExcIs
import PyProof.StrLawsFrom
import KE.SortData
import OpenK.KMeth
import KE.KOpsOwn
import HandS.Property
import HandS.OwnEq
import HandS.Defaults
import PyProof.Rows.StrCountLaw
import PyProof.Rows.StrFoldSign
import KE.KOwnIter
import HandS.IterVal
import HandS.Lambda
import HandS.OwnIter
import HandS.ClsMeth
import KE.KDictCopyH
import HandS.Spec
import HandS.Deep
import HandS.CallLocal
import HandS.Head0
import HandS.Head1
import HandS.Head2
import HandS.HeadEnd
import HandS.HeadHook1
import HandS.HeadHook2
import HandS.HeadHook3
import HandS.HeadNt
import HandS.SetBool
import HandS.SetFor
import HandS.Strs
import PySem.Challenge.RW_surespan_k69_whole_length_cycle
set_option Elab.async false
set_option linter.all false
set_option maxRecDepth 100000
set_option maxHeartbeats 4000000
namespace Sw
open PySem PySem.Spec PyProof.Rows L2
/-- the names of the module, and the world -/
structure Kx where
  fr : PySem.W.Frag
  w : World
instance : Coe Kx PySem.W.Frag := ⟨Kx.fr⟩
noncomputable abbrev _root_.L2.Cx.kx (X : Cx) : Kx := ⟨X.K, X.w⟩
/-- a def as it stands behind the top, whatever its defaults are -/
structure FunG (K : PySem.W.Frag) (x qual : PySem.Str) (st : Stmt) (f : Addr) (fd : FuncData) : Prop where
  ex : ∃ (oc : Value) (od : Option Addr) (dV kV doc pm : Value) (an : Option Addr) (cdv ct : Value) (osl : Array (Option Value)),
    fd = PySem.W.fnOf x qual (defArgs st) (defBody st) (defScope st) dV kV doc pm an cdv ct ∧ K.lookup f = some ⟨oc, od, .func fd, osl⟩ ∧ PySem.W.codeIn K cdv qual = true
theorem fun_g {K : PySem.W.Frag} {x qual : PySem.Str} {st : Stmt} {f : Addr} {fd : FuncData} (F : Fun K x qual st f fd) : FunG K x qual st f fd := by
  obtain ⟨oc, od, kV, doc, pm, an, cdv, ct, osl, e, lk, hcd⟩ := F.ex
  exact ⟨oc, od, .none, kV, doc, pm, an, cdv, ct, osl, e, lk, hcd⟩
theorem FunG.ok {P : Program} {w : World} {K : PySem.W.Frag} {mg : Str → Option Value} {base : Heap} {x qual : Str} {st : Stmt} {f : Addr} {fd : FuncData} {N ps : List Str} {k : Nat} {sp : Sp} (F : FunG K x qual st f fd) (S : FnScope N ps (defScope st)) (len : ∀ vs H Q E, sp vs H Q E → vs.length = ps.length)
    (hbody : ∀ (cdv : Value) (A : Around) (outer : List Env) (s : Shared) (H : Hp) (vs : List V) (Q : VK) (E : XK), Room k (A.deeper (envOfC qual (defScope st) s.heap.objs.size f cdv)) → sp vs H Q E →
      ∃ t, PSs (cxOf CX0 P w K mg base N qual (defScope st) f cdv A outer s H E).nox (defBody st) t ∧ t { nx := fun _ H' => Q .non H', rt := Q } (start N vs) H) : FnOk P w K mg base CX0 (k + 1) f fd ps sp := by
  obtain ⟨oc, od, dV, kV, doc, pm, an, cdv, ct, osl, rfl, lk, hcd⟩ := F.ex
  refine fn_of lk hcd S len fun A outer s H vs Q E hr hsp => ?_
  obtain ⟨t, h, q⟩ := hbody cdv A outer s H vs Q E hr hsp
  exact ⟨t, h.nox, q⟩
inductive D where
  | non | bl (b : Bool) | int (i : Int) | str (s : List Nat) | lst (xs : List D) | tup (xs : List D) | scr (xs : List Int)
  /-- an instance that is not changed any more: its class, its attributes by name -/
  | obj (c : PySem.Str) (ks : List PySem.Str) (xs : List D)
/-- the class of that name stands at C -/
noncomputable def ClsN (K : PySem.W.Frag) (c : PySem.Str) (C : Addr) : Prop := PySem.W.nsIn K mainGlobals c = some (some (.ref C))
theorem ClsN.uniq {K : PySem.W.Frag} {c : PySem.Str} {C C' : Addr} (h : ClsN K c C) (h' : ClsN K c C') : C = C' := by
  unfold ClsN at h h'
  rw [h] at h'
  cases h'
  rfl
mutual
inductive Rep (K : Kx) (F : Hp) : V → D → Prop where
  | non : Rep K F .non .non
  | bl (b : Bool) : Rep K F (.bl b) (.bl b)
  | int (i : Int) : Rep K F (.int i) (.int i)
  | str (s : List Nat) : Rep K F (.str ⟨s.toArray⟩) (.str s)
  | lst {a : Addr} {vs : List V} {ds : List D} : F a = some (.lst vs) → Reps K F vs ds → Rep K F (.ref a) (.lst ds)
  | scr {a : Addr} {xs : List Int} : SqL K F a (xs.map V.int) → Rep K F (.ref a) (.scr xs)
  | tup {a : Addr} {vs : List V} {ds : List D} : SqT K F a vs → Reps K F vs ds → Rep K F (.ref a) (.tup ds)
  | obj {a C dx : Addr} {c : PySem.Str} {ks : List PySem.Str} {vs : List V} {ds : List D} : ClsN K c C → F a = some (.ins C dx (ks.zip vs)) → vs.length = ks.length → Reps K F vs ds → Rep K F (.ref a) (.obj c ks ds)
inductive Reps (K : Kx) (F : Hp) : List V → List D → Prop where
  | nil : Reps K F [] []
  | cons {v : V} {d : D} {vs : List V} {ds : List D} : Rep K F v d → Reps K F vs ds → Reps K F (v :: vs) (d :: ds)
end
theorem same_t {K : Kx} {H H' : Hp} {a : Addr} {xs : List V} (e : Same H H') (h : SqT K H a xs) : SqT K H' a xs := by
  rcases h with (h | ⟨o, h⟩) | h
  · exact .inl (.inl (e _ _ h))
  · exact .inl (.inr ⟨o, e _ _ h⟩)
  · exact .inr h
mutual
theorem Rep.mono {K : Kx} {F F' : Hp} (e : Same F F') : ∀ {v : V} {d : D}, Rep K F v d → Rep K F' v d
  | _, _, .non => .non
  | _, _, .bl b => .bl b
  | _, _, .int i => .int i
  | _, _, .str s => .str s
  | _, _, .lst h r => .lst (e _ _ h) (Reps.mono e r)
  | _, _, .scr h => .scr (e.seq h)
  | _, _, .tup h r => .tup (same_t e h) (Reps.mono e r)
  | _, _, .obj h1 h2 h3 r => .obj h1 (e _ _ h2) h3 (Reps.mono e r)
theorem Reps.mono {K : Kx} {F F' : Hp} (e : Same F F') : ∀ {vs : List V} {ds : List D}, Reps K F vs ds → Reps K F' vs ds
  | _, _, .nil => .nil
  | _, _, .cons h r => .cons (Rep.mono e h) (Reps.mono e r)
end
theorem Reps.len {K : Kx} {F : Hp} : ∀ {vs : List V} {ds : List D}, Reps K F vs ds → vs.length = ds.length
  | _, _, .nil => rfl
  | _, _, .cons _ r => by rw [List.length_cons, List.length_cons, Reps.len r]
theorem Reps.get {K : Kx} {F : Hp} : ∀ {vs : List V} {ds : List D} {i : Nat} {v : V}, Reps K F vs ds → vs[i]? = some v → ∃ d, ds[i]? = some d ∧ Rep K F v d
  | _, _, _, _, .nil, h => by simp at h
  | _, _, 0, _, .cons r _, h => by simp at h; subst h; exact ⟨_, rfl, r⟩
  | _, _, i + 1, v, .cons _ t, h => by
    obtain ⟨d, h1, h2⟩ := Reps.get (i := i) (v := v) t (by simpa using h)
    exact ⟨d, by simpa using h1, h2⟩
theorem Reps.get' {K : Kx} {F : Hp} : ∀ {vs : List V} {ds : List D} {i : Nat} {d : D}, Reps K F vs ds → ds[i]? = some d → ∃ v, vs[i]? = some v ∧ Rep K F v d
  | _, _, _, _, .nil, h => by simp at h
  | _, _, 0, _, .cons r _, h => by simp at h; subst h; exact ⟨_, rfl, r⟩
  | _, _, i + 1, v, .cons _ t, h => by
    obtain ⟨d, h1, h2⟩ := Reps.get' (i := i) (d := v) t (by simpa using h)
    exact ⟨d, by simpa using h1, h2⟩
theorem Reps.append {K : Kx} {F : Hp} : ∀ {vs us : List V} {ds es : List D}, Reps K F vs ds → Reps K F us es → Reps K F (vs ++ us) (ds ++ es)
  | _, _, _, _, .nil, s => s
  | _, _, _, _, .cons r t, s => .cons r (Reps.append t s)
theorem Reps.take {K : Kx} {F : Hp} : ∀ {vs : List V} {ds : List D} (n : Nat), Reps K F vs ds → Reps K F (vs.take n) (ds.take n)
  | _, _, 0, _ => .nil
  | _, _, _ + 1, .nil => .nil
  | _, _, n + 1, .cons r t => .cons r (Reps.take n t)
theorem Reps.drop {K : Kx} {F : Hp} : ∀ {vs : List V} {ds : List D} (n : Nat), Reps K F vs ds → Reps K F (vs.drop n) (ds.drop n)
  | _, _, 0, r => r
  | _, _, _ + 1, .nil => .nil
  | _, _, n + 1, .cons _ t => Reps.drop n t
theorem Reps.set {K : Kx} {F : Hp} {v : V} {d : D} (r : Rep K F v d) : ∀ {vs : List V} {ds : List D} (i : Nat), Reps K F vs ds → Reps K F (vs.set i v) (ds.set i d)
  | _, _, _, .nil => .nil
  | _, _, 0, .cons _ t => .cons r t
  | _, _, i + 1, .cons q t => .cons q (Reps.set r i t)
theorem Reps.reverse {K : Kx} {F : Hp} : ∀ {vs : List V} {ds : List D}, Reps K F vs ds → Reps K F vs.reverse ds.reverse
  | _, _, .nil => .nil
  | _, _, .cons r t => by
    rw [List.reverse_cons, List.reverse_cons]
    exact (Reps.reverse t).append (.cons r .nil)
/-- data; lists and instances that nothing else holds -/
inductive Ot where
  | da (x : D) | li (ts : List Ot) | ins (c : PySem.Str) (ks : List PySem.Str) (ts : List Ot)
mutual
/-- v is the thing t; L: the addresses of its own objects -/
inductive OtR (K : Kx) (H F : Hp) : V → Ot → List Addr → Prop where
  | da {v : V} {x : D} : Rep K F v x → OtR K H F v (.da x) []
  | li {a : Addr} {vs : List V} {ts : List Ot} {L : List Addr} : H a = some (.lst vs) → OtRs K H F vs ts L → OtR K H F (.ref a) (.li ts) (a :: L)
  | ins {a C dx : Addr} {c : PySem.Str} {ks : List PySem.Str} {vs : List V} {ts : List Ot} {L : List Addr} : ClsN K c C → H a = some (.ins C dx (ks.zip vs)) → vs.length = ks.length → OtRs K H F vs ts L → OtR K H F (.ref a) (.ins c ks ts) (a :: L)
inductive OtRs (K : Kx) (H F : Hp) : List V → List Ot → List Addr → Prop where
  | nil : OtRs K H F [] [] []
  | cons {v : V} {t : Ot} {vs : List V} {ts : List Ot} {L M : List Addr} : OtR K H F v t L → OtRs K H F vs ts M → OtRs K H F (v :: vs) (t :: ts) (L ++ M)
end
mutual
theorem OtR.frame {K : Kx} {H H' F F' : Hp} (e : Same F F') : ∀ {v : V} {t : Ot} {L : List Addr}, OtR K H F v t L → (∀ b ∈ L, ∀ o, H b = some o → H' b = some o) → OtR K H' F' v t L
  | _, _, _, .da r, _ => .da (r.mono e)
  | _, _, _, .li h r, q => .li (q _ List.mem_cons_self _ h) (OtRs.frame e r fun b hb => q b (List.mem_cons_of_mem _ hb))
  | _, _, _, .ins h1 h2 h3 r, q => .ins h1 (q _ List.mem_cons_self _ h2) h3 (OtRs.frame e r fun b hb => q b (List.mem_cons_of_mem _ hb))
theorem OtRs.frame {K : Kx} {H H' F F' : Hp} (e : Same F F') : ∀ {vs : List V} {ts : List Ot} {L : List Addr}, OtRs K H F vs ts L → (∀ b ∈ L, ∀ o, H b = some o → H' b = some o) → OtRs K H' F' vs ts L
  | _, _, _, .nil, _ => .nil
  | _, _, _, .cons r r2, q => .cons (OtR.frame e r fun b hb => q b (List.mem_append_left _ hb)) (OtRs.frame e r2 fun b hb => q b (List.mem_append_right _ hb))
end
theorem zip_inj {α β : Type} : ∀ {ks : List α} {vs us : List β}, ks.zip vs = ks.zip us → vs.length = ks.length → us.length = ks.length → vs = us
  | [], [], [], _, _, _ => rfl
  | [], _ :: _, _, _, h, _ => by simp at h
  | [], [], _ :: _, _, _, h => by simp at h
  | _ :: _, [], _, _, h, _ => by simp at h
  | _ :: _, _ :: _, [], _, _, h => by simp at h
  | k :: ks, v :: vs, u :: us, e, h, h' => by
    simp only [List.zip_cons_cons, List.cons.injEq, Prod.mk.injEq, true_and] at e
    rw [e.1, zip_inj e.2 (by simpa using h) (by simpa using h')]
mutual
theorem OtR.uniq {K : Kx} {H F F' : Hp} : ∀ {v : V} {t : Ot} {L L' : List Addr}, OtR K H F v t L → OtR K H F' v t L' → L = L'
  | _, _, _, _, .da _, .da _ => rfl
  | _, _, _, _, .li h r, .li h' r' => by
    rw [h] at h'; cases h'
    rw [OtRs.uniq r r']
  | _, _, _, _, .ins _ h2 h3 r, .ins _ h2' h3' r' => by
    rw [h2] at h2'
    have e := HO.ins.inj (Option.some.inj h2')
    have := zip_inj e.2.2 h3 h3'
    subst this
    rw [OtRs.uniq r r']
theorem OtRs.uniq {K : Kx} {H F F' : Hp} : ∀ {vs : List V} {ts : List Ot} {L L' : List Addr}, OtRs K H F vs ts L → OtRs K H F' vs ts L' → L = L'
  | _, _, _, _, .nil, .nil => rfl
  | _, _, _, _, .cons r s, .cons r' s' => by rw [OtR.uniq r r', OtRs.uniq s s']
end
/-- an object of one's own, as it stands in the heap -/
noncomputable def OwK : HO → Prop
  | .lst _ => True
  | .ins _ _ _ => True
  | _ => False
mutual
theorem OtR.there {K : Kx} {H F : Hp} : ∀ {v : V} {t : Ot} {L : List Addr}, OtR K H F v t L → ∀ b ∈ L, ∃ o, H b = some o ∧ OwK o
  | _, _, _, .da _, b, hb => absurd hb List.not_mem_nil
  | _, _, _, .li h r, b, hb => by
    rcases List.mem_cons.mp hb with rfl | hb
    · exact ⟨_, h, trivial⟩
    · exact OtRs.there r b hb
  | _, _, _, .ins _ h _ r, b, hb => by
    rcases List.mem_cons.mp hb with rfl | hb
    · exact ⟨_, h, trivial⟩
    · exact OtRs.there r b hb
theorem OtRs.there {K : Kx} {H F : Hp} : ∀ {vs : List V} {ts : List Ot} {L : List Addr}, OtRs K H F vs ts L → ∀ b ∈ L, ∃ o, H b = some o ∧ OwK o
  | _, _, _, .nil, b, hb => absurd hb List.not_mem_nil
  | _, _, _, .cons r s, b, hb => by
    rcases List.mem_append.mp hb with hb | hb
    · exact OtR.there r b hb
    · exact OtRs.there s b hb
end
/-- a slot: unset, a datum, a list of one's own, a list handed in to be changed -/
inductive Sl where
  | no | d (x : D) | ow (xs : List D) | io (xs : List D)
  /-- the exception that the suite holds -/
  | xa (a dx : Addr) (f : Option (PySem.Str × D))
  /-- a dict of one's own whose keys are tuples -/
  | dc (kvs : List (D × D))
  /-- a thing of one's own that may be changed; one that was handed in to be changed -/
  | ob (t : Ot) | iob (t : Ot)
noncomputable abbrev Rho := List Sl
/-- what an expression gives: a datum, a new list, the list that stands in a slot -/
inductive Vl where
  | fz (x : D) | fr (xs : List D) | bw (i : Nat)
structure Gd where
  H0 : Hp
  F0 : Hp
  ia : List (Nat × Addr)
  nl : Nat
  /-- the objects of the things that were handed in to be changed, and where these stand -/
  oa : List Addr := []
  oi : List (Nat × Addr) := []
/-- the slot's own list or dict -/
noncomputable def OwS (ρ : Rho) (σ : L2.St) (i : Nat) (a : Addr) : Prop := (∃ xs, ρ[i]? = some (.ow xs) ∨ ρ[i]? = some (.io xs) ∨ ∃ ys, ρ[i]? = some (.dc ys)) ∧ σ[i]? = some (some (.ref a))
/-- the slot holds the thing t -/
noncomputable def obS (ρ : Rho) (i : Nat) (t : Ot) : Prop := ρ[i]? = some (.ob t) ∨ ρ[i]? = some (.iob t)
noncomputable def OwO (K : Kx) (H F : Hp) (ρ : Rho) (σ : L2.St) (i : Nat) (a : Addr) : Prop := ∃ t v L, obS ρ i t ∧ σ[i]? = some (some v) ∧ OtR K H F v t L ∧ a ∈ L
noncomputable def Ow (K : Kx) (H F : Hp) (ρ : Rho) (σ : L2.St) (i : Nat) (a : Addr) : Prop := OwS ρ σ i a ∨ OwO K H F ρ σ i a
/-- a list of one's own -/
noncomputable def OwL (ρ : Rho) (σ : L2.St) (i : Nat) (a : Addr) : Prop := (∃ xs, ρ[i]? = some (.ow xs) ∨ ρ[i]? = some (.io xs)) ∧ σ[i]? = some (some (.ref a))
theorem OwL.to {K : Kx} {H F : Hp} {ρ : Rho} {σ : L2.St} {i : Nat} {a : Addr} (h : OwL ρ σ i a) : Ow K H F ρ σ i a := by
  obtain ⟨⟨xs, h1 | h1⟩, h2⟩ := h
  · exact .inl ⟨⟨xs, .inl h1⟩, h2⟩
  · exact .inl ⟨⟨xs, .inr (.inl h1)⟩, h2⟩
/-- the one field of the exception whose dict stands at dx -/
noncomputable def XaR (K : Kx) (F : Hp) (dx : Addr) : Option (PySem.Str × D) → Prop
  | none => True
  | some (k, y) => ∃ v, F dx = some (.xd [(k, v)]) ∧ Rep K F v y
theorem XaR.mono {K : Kx} {F F' : Hp} {dx : Addr} {f : Option (PySem.Str × D)} (e : Same F F') (h : XaR K F dx f) : XaR K F' dx f := by
  cases f with
  | none => trivial
  | some p =>
    obtain ⟨k, y⟩ := p
    obtain ⟨v, h1, h2⟩ := h
    exact ⟨v, e _ _ h1, h2.mono e⟩
mutual
/-- what may be a key, or within one -/
noncomputable def nkD : D → Option NestedKey
  | .non => some .none
  | .int i => some (.num i)
  | .str s => some (.text ⟨s.toArray⟩)
  | .tup xs => (nkDs xs).map .tup
  | _ => none
noncomputable def nkDs : List D → Option (List NestedKey)
  | [] => some []
  | x :: xs => match nkD x, nkDs xs with
    | some k, some ks => some (k :: ks)
    | _, _ => none
end
/-- the object of a dict with the entries xs -/
noncomputable def dcO (w : World) (a : Addr) (xs : List (NestedKey × Addr × Value)) : HO := .ext fun h => ∃ o es ep, h.get? a = some o ∧ o.ExactDict ∧ o.data = .dict es ep ∧ es.toList = xs.map (fun x => ⟨x.1.hash w, .ref x.2.1, x.2.2⟩) ∧ (xs.map (·.1)).Nodup
/-- the entries of a dict as data -/
noncomputable def DcR (K : Kx) (F : Hp) : List (NestedKey × Addr × Value) → List (D × D) → Prop
  | [], [] => True
  | x :: xs, p :: ps => (nkD p.1 = some x.1 ∧ x.1.depth ≤ 8 ∧ Rep K F (.ref x.2.1) p.1 ∧ ∃ v, RelV v x.2.2 ∧ Rep K F v p.2) ∧ DcR K F xs ps
  | _, _ => False
theorem DcR.mono {K : Kx} {F F' : Hp} (e : Same F F') : ∀ {xs : List (NestedKey × Addr × Value)} {ps : List (D × D)}, DcR K F xs ps → DcR K F' xs ps
  | [], [], _ => trivial
  | x :: xs, p :: ps, h => ⟨⟨h.1.1, h.1.2.1, h.1.2.2.1.mono e, h.1.2.2.2.elim fun v q => ⟨v, q.1, q.2.mono e⟩⟩, DcR.mono e h.2⟩
  | [], _ :: _, h => h.elim
  | _ :: _, [], h => h.elim
noncomputable def SlR (K : Kx) (G : Gd) (σ : L2.St) (H F : Hp) (i : Nat) : Sl → Prop
  | .no => True
  | .d x => ∃ v, σ[i]? = some (some v) ∧ Rep K F v x
  | .ow xs => ∃ a vs, σ[i]? = some (some (.ref a)) ∧ H a = some (.lst vs) ∧ Reps K F vs xs ∧ F a = none ∧ G.H0 a = none
  | .io xs => ∃ a vs, σ[i]? = some (some (.ref a)) ∧ H a = some (.lst vs) ∧ Reps K F vs xs ∧ F a = none ∧ (i, a) ∈ G.ia
  | .xa b dx f => σ[i]? = some (some (.ref b)) ∧ XaR K F dx f
  | .dc ps => ∃ a xs, σ[i]? = some (some (.ref a)) ∧ H a = some (dcO K.w a xs) ∧ DcR K F xs ps ∧ F a = none ∧ G.H0 a = none ∧ (a == sysModules) = false ∧ ps.length ≤ sizeLine
  | .ob t => ∃ v L, σ[i]? = some (some v) ∧ OtR K H F v t L ∧ L.Nodup ∧ ∀ b ∈ L, F b = none ∧ G.H0 b = none
  | .iob t => ∃ v L, σ[i]? = some (some v) ∧ OtR K H F v t L ∧ (L.Nodup ∧ ∃ a, (i, a) ∈ G.oi) ∧ ∀ b ∈ L, F b = none ∧ (G.H0 b = none ∨ b ∈ G.oa)
structure Wd (K : Kx) (G : Gd) (ρ : Rho) (σ : L2.St) (H F : Hp) : Prop where
  len : ρ.length = σ.length
  gl : σ.length = G.nl
  sub : Same F H
  f0 : Same G.F0 F
  kp : ∀ b o, G.H0 b = some o → b ∉ G.ia.map (·.2) → b ∉ G.oa → H b = some o
  nw : ∀ b, F b ≠ none → G.F0 b ≠ none ∨ G.H0 b = none
  it : ∀ b, b ∈ G.ia.map (·.2) ∨ b ∈ G.oa → H b ≠ none
  sl : ∀ i s, ρ[i]? = some s → SlR K G σ H F i s
  ap : ∀ i j a, Ow K H F ρ σ i a → Ow K H F ρ σ j a → i = j
  ai : ∀ i a, (i, a) ∈ G.ia → (∃ xs, ρ[i]? = some (.io xs)) ∧ σ[i]? = some (some (.ref a))
  ao : ∀ i a, (i, a) ∈ G.oi → (∃ t, ρ[i]? = some (.iob t)) ∧ σ[i]? = some (some (.ref a))
noncomputable def VlR (K : Kx) (G : Gd) (P : Hp) (ρ : Rho) (σ : L2.St) (H F : Hp) (v : V) : Vl → Prop
  | .fz x => Rep K F v x
  | .fr xs => ∃ a vs, v = .ref a ∧ H a = some (.lst vs) ∧ Reps K F vs xs ∧ F a = none ∧ P a = none ∧ ∀ i, ¬ Ow K H F ρ σ i a
  | .bw i => σ[i]? = some (some v)
/-- settled values: a datum or a slot's list -/
noncomputable def VlS (K : Kx) (σ : L2.St) (F : Hp) (v : V) : Vl → Prop
  | .fz x => Rep K F v x
  | .fr _ => False
  | .bw i => σ[i]? = some (some v)
noncomputable def stl : Vl → Vl
  | .fr xs => .fz (.lst xs)
  | r => r
structure Ste (K : Kx) (G : Gd) (ρ : Rho) (σ : L2.St) (H F : Hp) (ρ' : Rho) (H' F' : Hp) : Prop where
  wd : Wd K G ρ' σ H' F'
  ff : Same F F'
  kk : ∀ b o, H b = some o → (∀ i, ¬ Ow K H F ρ σ i b) → H' b = some o
  nf : ∀ b, F' b ≠ none → F b ≠ none ∨ H b = none ∨ ∃ i, Ow K H F ρ σ i b
  oo : ∀ i a, Ow K H' F' ρ' σ i a → Ow K H F ρ σ i a ∨ H a = none
  tr : ∀ b, H b ≠ none → H' b ≠ none
section
variable {K : Kx} {G : Gd} {ρ ρ1 ρ2 ρ' : Rho} {σ : L2.St} {H H1 H2 H' F F1 F2 F' : Hp} {v : V} {r : Vl}
theorem Ste.refl (W : Wd K G ρ σ H F) : Ste K G ρ σ H F ρ H F :=
  ⟨W, Same.refl _, fun _ _ h _ => h, fun _ h => .inl h, fun _ _ h => .inl h, fun _ h => h⟩
theorem Ste.trans (a : Ste K G ρ σ H F ρ1 H1 F1) (b : Ste K G ρ1 σ H1 F1 ρ2 H2 F2) : Ste K G ρ σ H F ρ2 H2 F2 := by
  have fresh : ∀ c, H1 c = none → H c = none := fun c h => by
    cases e : H c with
    | none => rfl
    | some o => exact absurd h (a.tr c (by rw [e]; simp))
  refine ⟨b.wd, a.ff.trans b.ff, fun c o h n => b.kk c o (a.kk c o h n) fun i q => (a.oo i c q).elim (n i) fun z => (by rw [h] at z; cases z), fun c h => ?_, fun i c q => (b.oo i c q).elim (a.oo i c) fun z => .inr (fresh c z), fun c h => b.tr c (a.tr c h)⟩
  rcases b.nf c h with h1 | h1 | ⟨i, h1⟩
  · exact a.nf c h1
  · exact .inr (.inl (fresh c h1))
  · rcases a.oo i c h1 with z | z
    · exact .inr (.inr ⟨i, z⟩)
    · exact .inr (.inl z)
theorem Wd.ob_at (W : Wd K G ρ σ H F) {i : Nat} {t : Ot} (h : obS ρ i t) : ∃ v L, σ[i]? = some (some v) ∧ OtR K H F v t L ∧ L.Nodup ∧ ∀ b ∈ L, F b = none ∧ (G.H0 b = none ∨ b ∈ G.oa) := by
  rcases h with h | h
  · obtain ⟨v, L, e, r, nd, q⟩ := W.sl i _ h
    exact ⟨v, L, e, r, nd, fun b hb => ⟨(q b hb).1, .inl (q b hb).2⟩⟩
  · obtain ⟨v, L, e, r, nd, q⟩ := W.sl i _ h
    exact ⟨v, L, e, r, nd.1, q⟩
/-- a thing that is as it was has its old objects -/
theorem Wd.ob_same (W : Wd K G ρ σ H F) {i : Nat} {t : Ot} {v : V} {L : List Addr} (h : obS ρ i t) (hv : σ[i]? = some (some v)) (r : OtR K H' F' v t L) (e : ∀ b o, Ow K H F ρ σ i b → H b = some o → H' b = some o) : OtR K H F v t L ∧ ∀ b ∈ L, Ow K H F ρ σ i b := by
  obtain ⟨v0, L0, e0, r0, _⟩ := W.ob_at h
  rw [hv] at e0
  cases e0
  have own : ∀ b ∈ L0, Ow K H F ρ σ i b := fun b hb => .inr ⟨t, v, L0, h, hv, r0, hb⟩
  have r1 : OtR K H' F v t L0 := r0.frame (Same.refl _) fun b hb o ho => e b o (own b hb) ho
  have := OtR.uniq r r1
  subst this
  exact ⟨r0, own⟩
theorem Wd.ow_there (W : Wd K G ρ σ H F) {i : Nat} {a : Addr} (h : Ow K H F ρ σ i a) : ∃ o, H a = some o ∧ F a = none := by
  rcases h with ⟨⟨xs, h1 | h1 | ⟨ys, h1⟩⟩, h2⟩ | ⟨t, v, L, h1, h2, h3, h4⟩
  · obtain ⟨b, vs, e, h3, _, h5, _⟩ := W.sl i _ h1
    rw [h2] at e; cases e
    exact ⟨_, h3, h5⟩
  · obtain ⟨b, vs, e, h3, _, h5, _⟩ := W.sl i _ h1
    rw [h2] at e; cases e
    exact ⟨_, h3, h5⟩
  · obtain ⟨b, vs, e, h3, _, h5, _⟩ := W.sl i _ h1
    rw [h2] at e; cases e
    exact ⟨_, h3, h5⟩
  · obtain ⟨v0, L0, e0, r0, _, q⟩ := W.ob_at h1
    rw [h2] at e0; cases e0
    have := OtR.uniq h3 r0
    subst this
    obtain ⟨o, ho, _⟩ := OtR.there h3 a h4
    exact ⟨o, ho, (q a h4).1⟩
theorem VlS.ste (h : VlS K σ F1 v r) (s : Ste K G ρ1 σ H1 F1 ρ2 H2 F2) : VlS K σ F2 v r := by
  cases r with
  | fz x => exact Rep.mono s.ff h
  | bw i => exact h
  | fr xs => exact h.elim
/-- what is read of a value now -/
noncomputable def look (ρ : Rho) : Vl → Option D
  | .fz x => some x
  | .fr xs => some (.lst xs)
  | .bw i => match ρ[i]? with
    | some (.ow xs) => some (.lst xs)
    | some (.io xs) => some (.lst xs)
    | _ => none
noncomputable def Vw (K : Kx) (H F : Hp) (v : V) : D → Prop
  | .lst xs => ∃ a vs, v = .ref a ∧ H a = some (.lst vs) ∧ Reps K F vs xs
  | x => Rep K F v x
theorem vw_rep {x : D} (s : Same F H) (h : Rep K F v x) : Vw K H F v x := by
  cases h with
  | lst h r => exact ⟨_, _, rfl, s _ _ h, r⟩
  | scr h => exact .scr h
  | non => exact .non
  | bl b => exact .bl b
  | int i => exact .int i
  | str s => exact .str s
  | tup h r => exact .tup h r
  | obj h1 h2 h3 r => exact .obj h1 h2 h3 r
theorem vw_of {x : D} (W : Wd K G ρ σ H F) (h : VlS K σ F v r) (e : look ρ r = some x) : Vw K H F v x := by
  cases r with
  | fz y => cases e; exact vw_rep W.sub h
  | fr xs => exact h.elim
  | bw i =>
    unfold look at e
    have h : σ[i]? = some (some v) := h
    cases q : ρ[i]? with
    | none => simp [q] at e
    | some s =>
      cases s with
      | no => simp [q] at e
      | xa b dx f => simp [q] at e
      | dc ys => simp [q] at e
      | ob t => simp [q] at e
      | iob t => simp [q] at e
      | d y => simp [q] at e
      | ow xs =>
        simp [q] at e; subst e
        obtain ⟨a, vs, e, h1, h2, _⟩ := W.sl i _ q
        rw [h] at e; cases e
        exact ⟨a, vs, rfl, h1, h2⟩
      | io xs =>
        simp [q] at e; subst e
        obtain ⟨a, vs, e, h1, h2, _⟩ := W.sl i _ q
        rw [h] at e; cases e
        exact ⟨a, vs, rfl, h1, h2⟩
/-- a value becomes a datum -/
noncomputable def frz (ρ : Rho) : Vl → Option (D × Rho)
  | .fz x => some (x, ρ)
  | .fr xs => some (.lst xs, ρ)
  | .bw i => match ρ[i]? with
    | some (.ow xs) => some (.lst xs, ρ.set i (.d (.lst xs)))
    | _ => none
theorem Wd.h0 (W : Wd K G ρ σ H F) {b : Addr} (h : H b = none) : G.H0 b = none := by
  cases e : G.H0 b with
  | none => rfl
  | some o =>
    by_cases q : b ∈ G.ia.map (·.2)
    · exact absurd h (W.it b (.inl q))
    · by_cases q2 : b ∈ G.oa
      · exact absurd h (W.it b (.inr q2))
      · rw [W.kp b o e q q2] at h; cases h
structure Alc (F H F' H' : Hp) : Prop where
  ff : Same F F'
  sub : Same F' H'
  hh : Same H H'
  nf : ∀ b, F' b ≠ none → F b ≠ none ∨ H b = none
theorem Alc.refl (s : Same F H) : Alc F H F H := ⟨Same.refl _, s, Same.refl _, fun _ h => .inl h⟩
theorem Alc.trans {F1 H1 F2 H2 : Hp} (a : Alc F H F1 H1) (b : Alc F1 H1 F2 H2) : Alc F H F2 H2 := by
  refine ⟨a.ff.trans b.ff, b.sub, a.hh.trans b.hh, fun c h => ?_⟩
  rcases b.nf c h with q | q
  · exact a.nf c q
  · exact .inr (a.hh.free q)
theorem same_upd {p : Addr} {o : HO} (h : H p = none) : Same H (upd H p o) := fun b x e => by
  rw [upd_ne (ne_of_none e h)]
  exact e
theorem Alc.new {p : Addr} {o : HO} (s : Same F H) (h : H p = none) : Alc F H (upd F p o) (upd H p o) := by
  refine ⟨same_upd (s.free h), fun b x e => ?_, same_upd h, fun b q => ?_⟩
  · by_cases hb : b = p
    · subst hb; rw [upd_same] at e ⊢; exact e
    · rw [upd_ne hb] at e ⊢; exact s _ _ e
  · by_cases hb : b = p
    · subst hb; exact .inr h
    · rw [upd_ne hb] at q; exact .inl q
theorem SlR.alc {i : Nat} {s : Sl} (A : Alc F H F' H') (h : SlR K G σ H F i s) : SlR K G σ H' F' i s := by
  have fn : ∀ {a : Addr} {ob : HO}, H a = some ob → F a = none → F' a = none := fun {a vs} h1 h2 => by
    cases e : F' a with
    | none => rfl
    | some o =>
      rcases A.nf a (by rw [e]; simp) with q | q
      · exact absurd h2 q
      · rw [h1] at q; cases q
  cases s with
  | no => trivial
  | xa b dx f => exact ⟨h.1, h.2.mono A.ff⟩
  | dc ys => obtain ⟨a, xs, e, h1, h2, h3, h4, h5⟩ := h; exact ⟨a, xs, e, A.hh _ _ h1, h2.mono A.ff, fn h1 h3, h4, h5⟩
  | d x => obtain ⟨v, e, r⟩ := h; exact ⟨v, e, r.mono A.ff⟩
  | ow xs => obtain ⟨a, vs, e, h1, h2, h3, h4⟩ := h; exact ⟨a, vs, e, A.hh _ _ h1, h2.mono A.ff, fn h1 h3, h4⟩
  | io xs => obtain ⟨a, vs, e, h1, h2, h3, h4⟩ := h; exact ⟨a, vs, e, A.hh _ _ h1, h2.mono A.ff, fn h1 h3, h4⟩
  | ob t => obtain ⟨v, L, e, r, nd, q⟩ := h; exact ⟨v, L, e, r.frame A.ff fun b _ o ho => A.hh _ _ ho, nd, fun b hb => ⟨fn (OtR.there r b hb).choose_spec.1 (q b hb).1, (q b hb).2⟩⟩
  | iob t => obtain ⟨v, L, e, r, nd, q⟩ := h; exact ⟨v, L, e, r.frame A.ff fun b _ o ho => A.hh _ _ ho, nd, fun b hb => ⟨fn (OtR.there r b hb).choose_spec.1 (q b hb).1, (q b hb).2⟩⟩
/-- what a slot owns, in a heap that keeps it -/
theorem Wd.ow_back (W : Wd K G ρ σ H F) {i : Nat} {a : Addr} (e : ∀ b o, Ow K H F ρ σ i b → H b = some o → H' b = some o) (h : Ow K H' F' ρ σ i a) : Ow K H F ρ σ i a := by
  rcases h with h | ⟨t, v, L, h1, h2, h3, h4⟩
  · exact .inl h
  · exact (W.ob_same h1 h2 h3 e).2 a h4
theorem Wd.not_ow (W : Wd K G ρ σ H F) {p : Addr} (hp : H p = none) (e : Same H H') (i : Nat) : ¬ Ow K H' F' ρ σ i p := fun o => by
  obtain ⟨_, z, _⟩ := W.ow_there (W.ow_back (fun b o _ ho => e _ _ ho) o)
  rw [hp] at z; cases z
theorem Wd.alc (W : Wd K G ρ σ H F) (A : Alc F H F' H') : Ste K G ρ σ H F ρ H' F' := by
  have bk : ∀ {i a}, Ow K H' F' ρ σ i a → Ow K H F ρ σ i a := fun h => W.ow_back (fun b o _ ho => A.hh _ _ ho) h
  refine ⟨⟨W.len, W.gl, A.sub, W.f0.trans A.ff, fun b o h q q2 => A.hh _ _ (W.kp b o h q q2), fun b h => ?_, fun b h e => W.it b h (A.hh.free e), fun i s h => (W.sl i s h).alc A, fun i j a o1 o2 => W.ap i j a (bk o1) (bk o2), W.ai, W.ao⟩, A.ff, fun b o h _ => A.hh _ _ h, fun b h => (A.nf b h).elim .inl fun q => .inr (.inl q), fun _ _ h => .inl (bk h), fun b h e => h (A.hh.free e)⟩
  rcases A.nf b h with q | q
  · exact W.nw b q
  · exact .inr (W.h0 q)
/-- an untracked-by-F list that no slot owns is frozen -/
theorem Wd.freeze_new {a : Addr} {vs : List V} (W : Wd K G ρ σ H F) (h1 : H a = some (.lst vs)) (h2 : F a = none) (h3 : G.H0 a = none) (h4 : ∀ i, ¬ Ow K H F ρ σ i a) : Wd K G ρ σ H (upd F a (.lst vs)) ∧ Same F (upd F a (.lst vs)) := by
  have ss := same_upd (o := HO.lst vs) h2
  have bk : ∀ {i b}, Ow K H (upd F a (.lst vs)) ρ σ i b → Ow K H F ρ σ i b := fun h => W.ow_back (fun b o _ ho => ho) h
  refine ⟨⟨W.len, W.gl, fun b x e => ?_, W.f0.trans ss, W.kp, fun b h => ?_, W.it, fun i s h => ?_, fun i j b o1 o2 => W.ap i j b (bk o1) (bk o2), W.ai, W.ao⟩, ss⟩
  · by_cases hb : b = a
    · subst hb; rw [upd_same] at e; cases e; exact h1
    · rw [upd_ne hb] at e; exact W.sub _ _ e
  · by_cases hb : b = a
    · subst hb; exact .inr h3
    · rw [upd_ne hb] at h; exact W.nw b h
  · have q := W.sl i s h
    cases s with
    | no => trivial
    | xa b dx f => exact ⟨q.1, q.2.mono ss⟩
    | dc ys =>
      obtain ⟨c, us, e, p1, p2, p3, p4⟩ := q
      have nc : c ≠ a := fun z => h4 i (.inl ⟨⟨[], .inr (.inr ⟨ys, h⟩)⟩, by rw [← z]; exact e⟩)
      exact ⟨c, us, e, p1, p2.mono ss, by rw [upd_ne nc]; exact p3, p4⟩
    | ob t =>
      obtain ⟨v, L, e, r, nd, q⟩ := q
      exact ⟨v, L, e, r.frame ss fun _ _ _ ho => ho, nd, fun b hb => ⟨by rw [upd_ne (show b ≠ a from fun z => h4 i (.inr ⟨t, v, L, .inl h, e, r, by rw [← z]; exact hb⟩))]; exact (q b hb).1, (q b hb).2⟩⟩
    | iob t =>
      obtain ⟨v, L, e, r, nd, q⟩ := q
      exact ⟨v, L, e, r.frame ss fun _ _ _ ho => ho, nd, fun b hb => ⟨by rw [upd_ne (show b ≠ a from fun z => h4 i (.inr ⟨t, v, L, .inr h, e, r, by rw [← z]; exact hb⟩))]; exact (q b hb).1, (q b hb).2⟩⟩
    | d x => obtain ⟨v, e, r⟩ := q; exact ⟨v, e, r.mono ss⟩
    | ow xs =>
      obtain ⟨c, us, e, p1, p2, p3, p4⟩ := q
      have nc : c ≠ a := fun z => h4 i (.inl ⟨⟨xs, .inl h⟩, by rw [← z]; exact e⟩)
      exact ⟨c, us, e, p1, p2.mono ss, by rw [upd_ne nc]; exact p3, p4⟩
    | io xs =>
      obtain ⟨c, us, e, p1, p2, p3, p4⟩ := q
      have nc : c ≠ a := fun z => h4 i (.inl ⟨⟨xs, .inr (.inl h)⟩, by rw [← z]; exact e⟩)
      exact ⟨c, us, e, p1, p2.mono ss, by rw [upd_ne nc]; exact p3, p4⟩
/-- a new list is settled -/
theorem settle (W : Wd K G ρ σ H F) (s : Ste K G ρ σ H F ρ1 H1 F1) (h : VlR K G H ρ1 σ H1 F1 v r) : ∃ F2, Ste K G ρ σ H F ρ1 H1 F2 ∧ VlS K σ F2 v (stl r) ∧ Same F1 F2 := by
  cases r with
  | fz y => exact ⟨F1, s, h, Same.refl _⟩
  | bw i => exact ⟨F1, s, h, Same.refl _⟩
  | fr xs =>
    obtain ⟨a, vs, rfl, h1, h2, h3, h4, h5⟩ := h
    have h0 : G.H0 a = none := W.h0 h4
    obtain ⟨W', ss⟩ := s.wd.freeze_new h1 h3 h0 h5
    refine ⟨upd F1 a (.lst vs), ⟨W', s.ff.trans ss, s.kk, fun b q => ?_, fun i b o => s.oo i b (s.wd.ow_back (fun _ _ _ ho => ho) o), s.tr⟩, .lst upd_same (h2.mono ss), ss⟩
    by_cases hb : b = a
    · subst hb; exact .inr (.inl h4)
    · rw [upd_ne hb] at q; exact s.nf b q
/-- a settled value becomes a datum -/
theorem frz_ok {x : D} (W : Wd K G ρ σ H F) (h : VlS K σ F v r) (e : frz ρ r = some (x, ρ')) : ∃ F', Ste K G ρ σ H F ρ' H F' ∧ Rep K F' v x := by
  cases r with
  | fz y =>
    cases e
    exact ⟨F, Ste.refl W, h⟩
  | fr xs => exact h.elim
  | bw i =>
    have h : σ[i]? = some (some v) := h
    unfold frz at e
    cases q : ρ[i]? with
    | none => simp [q] at e
    | some s =>
      cases s with
      | no => simp [q] at e
      | xa b dx f => simp [q] at e
      | dc ys => simp [q] at e
      | ob t => simp [q] at e
      | iob t => simp [q] at e
      | d y => simp [q] at e
      | io xs => simp [q] at e
      | ow xs =>
        simp [q] at e
        obtain ⟨rfl, rfl⟩ := e
        obtain ⟨a, vs, e, h1, h2, h3, h4⟩ := W.sl i _ q
        rw [h] at e; cases e
        have ss := same_upd (o := HO.lst vs) h3
        have hi : i < ρ.length := (List.getElem?_eq_some_iff.mp q).1
        have old : ∀ j b, Ow K H (upd F a (.lst vs)) (ρ.set i (.d (.lst xs))) σ j b → j ≠ i ∧ Ow K H F ρ σ j b := fun j b o => by
          rcases o with ⟨⟨ys, o1⟩, o2⟩ | ⟨t, v, L, o1, o2, o3, o4⟩
          · have ne : j ≠ i := fun z => by
              subst z
              rw [List.getElem?_set_self hi] at o1
              rcases o1 with o1 | o1 | ⟨zs, o1⟩ <;> cases o1
            rw [List.getElem?_set_ne (Ne.symm ne)] at o1
            exact ⟨ne, .inl ⟨⟨ys, o1⟩, o2⟩⟩
          · have ne : j ≠ i := fun z => by
              subst z
              unfold obS at o1
              rw [List.getElem?_set_self hi] at o1
              rcases o1 with o1 | o1 <;> cases o1
            unfold obS at o1
            rw [List.getElem?_set_ne (Ne.symm ne)] at o1
            exact ⟨ne, (W.ob_same o1 o2 o3 fun _ _ _ ho => ho).2 b o4⟩
        have own : Ow K H F ρ σ i a := .inl ⟨⟨xs, .inl q⟩, h⟩
        refine ⟨upd F a (.lst vs), ⟨⟨by rw [List.length_set]; exact W.len, W.gl, fun b x e => ?_, W.f0.trans ss, W.kp, fun b z => ?_, W.it, fun j s z => ?_, fun j k b o1 o2 => W.ap j k b (old j b o1).2 (old k b o2).2, fun j b z => ?_, fun j b z => ?_⟩, ss, fun _ _ z _ => z, fun b z => ?_, fun j b o => .inl (old j b o).2, fun _ z => z⟩, .lst upd_same (h2.mono ss)⟩
        · by_cases hb : b = a
          · subst hb; rw [upd_same] at e; cases e; exact h1
          · rw [upd_ne hb] at e; exact W.sub _ _ e
        · by_cases hb : b = a
          · subst hb; exact .inr h4
          · rw [upd_ne hb] at z; exact W.nw b z
        · by_cases ne : j = i
          · subst ne
            rw [List.getElem?_set_self hi] at z
            cases z
            exact ⟨.ref a, h, .lst upd_same (h2.mono ss)⟩
          · rw [List.getElem?_set_ne (Ne.symm ne)] at z
            have q2 := W.sl j s z
            cases s with
            | no => trivial
            | xa b dx f => exact ⟨q2.1, q2.2.mono ss⟩
            | dc ys =>
              obtain ⟨c, us, e, p1, p2, p3, p4⟩ := q2
              have nc : c ≠ a := fun zz => ne (W.ap j i a (.inl ⟨⟨[], .inr (.inr ⟨ys, z⟩)⟩, by rw [← zz]; exact e⟩) own)
              exact ⟨c, us, e, p1, p2.mono ss, by rw [upd_ne nc]; exact p3, p4⟩
            | ob t =>
              obtain ⟨v, L, e, r, nd, q⟩ := q2
              exact ⟨v, L, e, r.frame ss fun _ _ _ ho => ho, nd, fun b hb => ⟨by rw [upd_ne (show b ≠ a from fun zz => ne (W.ap j i a (.inr ⟨t, v, L, .inl z, e, r, by rw [← zz]; exact hb⟩) own))]; exact (q b hb).1, (q b hb).2⟩⟩
            | iob t =>
              obtain ⟨v, L, e, r, nd, q⟩ := q2
              exact ⟨v, L, e, r.frame ss fun _ _ _ ho => ho, nd, fun b hb => ⟨by rw [upd_ne (show b ≠ a from fun zz => ne (W.ap j i a (.inr ⟨t, v, L, .inr z, e, r, by rw [← zz]; exact hb⟩) own))]; exact (q b hb).1, (q b hb).2⟩⟩
            | d x => obtain ⟨v, e, r⟩ := q2; exact ⟨v, e, r.mono ss⟩
            | ow ys =>
              obtain ⟨c, us, e, p1, p2, p3, p4⟩ := q2
              have nc : c ≠ a := fun zz => ne (W.ap j i a (.inl ⟨⟨ys, .inl z⟩, by rw [← zz]; exact e⟩) own)
              exact ⟨c, us, e, p1, p2.mono ss, by rw [upd_ne nc]; exact p3, p4⟩
            | io ys =>
              obtain ⟨c, us, e, p1, p2, p3, p4⟩ := q2
              have nc : c ≠ a := fun zz => ne (W.ap j i a (.inl ⟨⟨ys, .inr (.inl z)⟩, by rw [← zz]; exact e⟩) own)
              exact ⟨c, us, e, p1, p2.mono ss, by rw [upd_ne nc]; exact p3, p4⟩
        · obtain ⟨⟨ys, z1⟩, z2⟩ := W.ai j b z
          have ne : j ≠ i := fun e => by rw [e, q] at z1; cases z1
          exact ⟨⟨ys, by rw [List.getElem?_set_ne (Ne.symm ne)]; exact z1⟩, z2⟩
        · obtain ⟨⟨ys, z1⟩, z2⟩ := W.ao j b z
          have ne : j ≠ i := fun e => by rw [e, q] at z1; cases z1
          exact ⟨⟨ys, by rw [List.getElem?_set_ne (Ne.symm ne)]; exact z1⟩, z2⟩
        · by_cases hb : b = a
          · subst hb; exact .inr (.inr ⟨i, own⟩)
          · rw [upd_ne hb] at z; exact .inl z
end
end Sw
namespace Sw
open PySem PySem.Spec PyProof.Rows L2
noncomputable abbrev M (α : Type) := Rho → Option (α × Rho)
noncomputable def tM (K : Kx) (m : M Vl) : TE := fun σ H Q => ∃ G ρ F r ρ', Wd K G ρ σ H F ∧ m ρ = some (r, ρ') ∧ ∀ v H' F', Ste K G ρ σ H F ρ' H' F' → VlR K G H ρ' σ H' F' v r → Q v H'
noncomputable def tMT (K : Kx) (m : M Bool) : TT := fun σ H Q => ∃ G ρ F r ρ', Wd K G ρ σ H F ∧ m ρ = some (r, ρ') ∧ ∀ H' F', Ste K G ρ σ H F ρ' H' F' → Q r H'
noncomputable def VlSs (K : Kx) (σ : L2.St) (F : Hp) : List V → List Vl → Prop
  | [], [] => True
  | v :: vs, r :: rs => VlS K σ F v r ∧ VlSs K σ F vs rs
  | _, _ => False
noncomputable def tMA (K : Kx) (m : M (List Vl)) : TA := fun σ H Q => ∃ G ρ F r ρ', Wd K G ρ σ H F ∧ m ρ = some (r, ρ') ∧ ∀ vs H' F', Ste K G ρ σ H F ρ' H' F' → VlSs K σ F' vs r → Q vs H'
noncomputable abbrev SE (X : Cx) (e : Expr) (m : M Vl) : Prop := PE X e (tM X.kx m)
noncomputable abbrev ST (X : Cx) (e : Expr) (m : M Bool) : Prop := PT X e (tMT X.kx m)
noncomputable abbrev SA (X : Cx) (es : List Expr) (m : M (List Vl)) : Prop := PA X es (tMA X.kx m)
theorem VlSs.ste {K : Kx} {G : Gd} {ρ1 ρ2 : Rho} {σ : L2.St} {H1 H2 F1 F2 : Hp} (s : Ste K G ρ1 σ H1 F1 ρ2 H2 F2) : ∀ {vs : List V} {rs : List Vl}, VlSs K σ F1 vs rs → VlSs K σ F2 vs rs
  | [], [], _ => trivial
  | _ :: _, _ :: _, h => ⟨h.1.ste s, VlSs.ste s h.2⟩
  | [], _ :: _, h => h.elim
  | _ :: _, [], h => h.elim
theorem pe_weak {X : Cx} {e : Expr} {t t' : TE} (h : PE X e t) (w : ∀ σ H Q, t' σ H Q → t σ H Q) : PE X e t' := ⟨fun pins s σ H Q I q => h.run pins s σ H Q I (w _ _ _ q)⟩
theorem pt_weak {X : Cx} {e : Expr} {t t' : TT} (h : PT X e t) (w : ∀ σ H Q, t' σ H Q → t σ H Q) : PT X e t' := ⟨fun pins s σ H Q I q => h.run pins s σ H Q I (w _ _ _ q)⟩
theorem pw_weak {X : Cx} {e : Expr} {t t' : TT} (h : PW X e t) (w : ∀ σ H Q, t' σ H Q → t σ H Q) : PW X e t' := ⟨fun wh pins s σ H Q I q => h.run wh pins s σ H Q I (w _ _ _ q)⟩
theorem pa_weak {X : Cx} {es : List Expr} {t t' : TA} (h : PA X es t) (w : ∀ σ H Q, t' σ H Q → t σ H Q) : PA X es t' := ⟨fun pos pins s σ H Q I q => h.run pos pins s σ H Q I (w _ _ _ q)⟩
section
variable {K : Kx} {G : Gd} {ρ ρ1 : Rho} {σ : L2.St} {H F : Hp} {r : Vl}
theorem tm_use {m : M Vl} {Q : VK} (W : Wd K G ρ σ H F) (h : m ρ = some (r, ρ1)) (q : ∀ v H1 F1, Ste K G ρ σ H F ρ1 H1 F1 → VlS K σ F1 v (stl r) → Q v H1) : tM K m σ H Q :=
  ⟨G, ρ, F, r, ρ1, W, h, fun v H1 F1 s R => let ⟨F2, s2, R2, _⟩ := settle W s R; q v H1 F2 s2 R2⟩
theorem tmt_use {m : M Bool} {b : Bool} {Q : Bool → Hp → Prop} (W : Wd K G ρ σ H F) (h : m ρ = some (b, ρ1)) (q : ∀ H1 F1, Ste K G ρ σ H F ρ1 H1 F1 → Q b H1) : tMT K m σ H Q :=
  ⟨G, ρ, F, b, ρ1, W, h, q⟩
end
noncomputable def eVar (i : Nat) : M Vl := fun ρ => match ρ[i]? with
  | some (.d x) => some (.fz x, ρ)
  | some (.ow _) => some (.bw i, ρ)
  | some (.io _) => some (.bw i, ρ)
  | _ => none
noncomputable def eC (x : D) : M Vl := fun ρ => some (.fz x, ρ)
section
variable {X : Cx}
theorem se_var {i : Nat} {e : Expr} (h : PE X e (tVar i)) : SE X e (eVar i) := by
  refine pe_weak h fun σ H Q ⟨G, ρ, F, r, ρ', W, hm, q⟩ => ?_
  unfold eVar at hm
  cases e : ρ[i]? with
  | none => simp [e] at hm
  | some s =>
    have sl := W.sl i s e
    cases s with
    | no => simp [e] at hm
    | xa b dx f => simp [e] at hm
    | dc ys => simp [e] at hm
    | ob t => simp [e] at hm
    | iob t => simp [e] at hm
    | d x =>
      simp [e] at hm
      obtain ⟨rfl, rfl⟩ := hm
      obtain ⟨v, h1, h2⟩ := sl
      exact ⟨v, h1, q v H F (Ste.refl W) h2⟩
    | ow xs =>
      simp [e] at hm
      obtain ⟨rfl, rfl⟩ := hm
      obtain ⟨a, vs, h1, _⟩ := sl
      exact ⟨.ref a, h1, q _ H F (Ste.refl W) h1⟩
    | io xs =>
      simp [e] at hm
      obtain ⟨rfl, rfl⟩ := hm
      obtain ⟨a, vs, h1, _⟩ := sl
      exact ⟨.ref a, h1, q _ H F (Ste.refl W) h1⟩
theorem se_con {e : Expr} {v : V} {x : D} (h : PE X e (tC v)) (r : ∀ F, Rep X.kx F v x) : SE X e (eC x) := by
  refine pe_weak h fun σ H Q ⟨G, ρ, F, r', ρ', W, hm, q⟩ => ?_
  cases hm
  exact q v H F (Ste.refl W) (r F)
theorem se_int {i : Int} {j pos} : SE X (.Constant (.int i) j pos) (eC (.int i)) := se_con pe_int fun _ => .int i
theorem se_bl {b : Bool} {j pos} : SE X (.Constant (.bool b) j pos) (eC (.bl b)) := se_con pe_bl fun _ => .bl b
theorem str_cps (x : Str) : (⟨x.cps.toList.toArray⟩ : Str) = x := by cases x; simp
theorem rep_str {K : Kx} {F : Hp} (x : Str) : Rep K F (.str x) (.str x.cps.toList) := by
  have h := Rep.str (K := K) (F := F) x.cps.toList
  rw [str_cps] at h
  exact h
/-- a written text: cs its codes -/
theorem se_str {x : Str} {cs : List Nat} {j pos} (h : x.cps.toList = cs) : SE X (.Constant (.str x) j pos) (eC (.str cs)) := se_con pe_str fun _ => h ▸ rep_str x
end
noncomputable def eBin (f : D → D → Option D) (a b : M Vl) : M Vl := fun ρ => (a ρ).bind fun p => (b p.2).bind fun q => (look q.2 (stl p.1)).bind fun x => (look q.2 (stl q.1)).bind fun y => (f x y).bind fun z => some (.fz z, q.2)
noncomputable def OpS (K : Kx) (r : R2) (f : D → D → Option D) : Prop :=
  ∀ (H F : Hp) (v u : V) (x y z : D), Same F H → Vw K H F v x → Vw K H F u y → f x y = some z → ∀ Q : VK, (∀ w H' F', Alc F H F' H' → Rep K F' w z → Q w H') → r v u H Q
noncomputable def orF (f g : D → D → Option D) : D → D → Option D := fun x y => match f x y with
  | some z => some z
  | none => g x y
theorem OpS.or {K : Kx} {r r' : R2} {f g : D → D → Option D} (h : OpS K r f) (h' : OpS K r' g) : OpS K (fun x y H Q => r x y H Q ∨ r' x y H Q) (orF f g) := by
  intro H F v u x y z s hx hy e Q q
  unfold orF at e
  cases e1 : f x y with
  | some w =>
    simp [e1] at e; subst e
    exact .inl (h H F v u x y w s hx hy e1 Q q)
  | none =>
    simp [e1] at e
    exact .inr (h' H F v u x y z s hx hy e Q q)
theorem top_of {K : Kx} {r : R2} {f : D → D → Option D} {a b : M Vl} (hf : OpS K r f) {σ : L2.St} {H : Hp} {Q : VK} (h : tM K (eBin f a b) σ H Q) : tOp r (tM K a) (tM K b) σ H Q := by
  obtain ⟨G, ρ, F, r0, ρ', W, hm, q⟩ := h
  unfold eBin at hm
  obtain ⟨⟨x, ρ1⟩, e1, hm⟩ := Option.bind_eq_some_iff.mp hm
  obtain ⟨⟨y, ρ2⟩, e2, hm⟩ := Option.bind_eq_some_iff.mp hm
  obtain ⟨dx, e3, hm⟩ := Option.bind_eq_some_iff.mp hm
  obtain ⟨dy, e4, hm⟩ := Option.bind_eq_some_iff.mp hm
  obtain ⟨dz, e5, hm⟩ := Option.bind_eq_some_iff.mp hm
  cases hm
  refine tm_use W e1 fun v H1 F1 s1 R1 => ?_
  refine tm_use s1.wd e2 fun u H2 F2 s2 R2 => ?_
  have V1 := vw_of s2.wd (R1.ste s2) e3
  have V2 := vw_of s2.wd R2 e4
  refine hf H2 F2 v u dx dy dz s2.wd.sub V1 V2 e5 Q fun w H' F' A R => ?_
  exact q w H' F' ((s1.trans s2).trans (s2.wd.alc A)) R
section
variable {X : Cx} {a b : Expr} {ma mb : M Vl} {pos : Pos}
theorem se_bin {op : Operator} {r : R2} {f : D → D → Option D} (ho : OpR X (binaryOp op) r) (hf : OpS X.kx r f) (ha : SE X a ma) (hb : SE X b mb) : SE X (.BinOp a op b pos) (eBin f ma mb) :=
  pe_weak (pe_op ho ha hb) fun _ _ _ h => top_of hf h
theorem se_cmp {op : CmpOp} {r : R2} {f : D → D → Option D} (ho : OpR X (compareOp op) r) (hf : OpS X.kx r f) (ha : SE X a ma) (hb : SE X b mb) (hm : behindInMarks op b = false) : SE X (.Compare a [op] [b] pos) (eBin f ma mb) :=
  pe_weak (pe_cmpR ho ha hb hm) fun _ _ _ h => top_of hf h
theorem se_ixr {r : R2} {f : D → D → Option D} (ho : IxR X r) (hf : OpS X.kx r f) (ha : SE X a ma) (hb : SE X b mb) (hs : PlainIx b) : SE X (.Subscript a b pos) (eBin f ma mb) :=
  pe_weak (pe_ix ho ha hb hs) fun _ _ _ h => top_of hf h
end
noncomputable def eUn (f : D → Option D) (a : M Vl) : M Vl := fun ρ => (a ρ).bind fun p => (look p.2 (stl p.1)).bind fun x => (f x).bind fun z => some (.fz z, p.2)
noncomputable def UnS (K : Kx) (r : V → Hp → VK → Prop) (f : D → Option D) : Prop :=
  ∀ (H F : Hp) (v : V) (x z : D), Same F H → Vw K H F v x → f x = some z → ∀ Q : VK, (∀ w H' F', Alc F H F' H' → Rep K F' w z → Q w H') → r v H Q
theorem tun_of {K : Kx} {r : V → Hp → VK → Prop} {f : D → Option D} {a : M Vl} (hf : UnS K r f) {σ : L2.St} {H : Hp} {Q : VK} (h : tM K (eUn f a) σ H Q) : tUn r (tM K a) σ H Q := by
  obtain ⟨G, ρ, F, r0, ρ', W, hm, q⟩ := h
  unfold eUn at hm
  obtain ⟨⟨x, ρ1⟩, e1, hm⟩ := Option.bind_eq_some_iff.mp hm
  obtain ⟨dx, e3, hm⟩ := Option.bind_eq_some_iff.mp hm
  obtain ⟨dz, e5, hm⟩ := Option.bind_eq_some_iff.mp hm
  cases hm
  refine tm_use W e1 fun v H1 F1 s1 R1 => ?_
  refine hf H1 F1 v dx dz s1.wd.sub (vw_of s1.wd R1 e3) e5 Q fun w H' F' A R => ?_
  exact q w H' F' (s1.trans (s1.wd.alc A)) R
theorem se_un {X : Cx} {a : Expr} {ma : M Vl} {pos : Pos} {op : UnaryOp} {r : V → Hp → VK → Prop} {f : D → Option D} (ho : UnR X (unaryOp op) r) (hf : UnS X.kx r f) (ha : SE X a ma) : SE X (.UnaryOp op a pos) (eUn f ma) :=
  pe_weak (pe_un ho ha) fun _ _ _ h => tun_of hf h
/-- an expression that gives a bool -/
noncomputable def tE (a : M Vl) : M Bool := fun ρ => (a ρ).bind fun p => match p.1 with
  | .fz (.bl b) => some (b, p.2)
  | _ => none
theorem tb_of {K : Kx} {a : M Vl} {σ : L2.St} {H : Hp} {Q : Bool → Hp → Prop} (h : tMT K (tE a) σ H Q) : tM K a σ H (fun x H1 => ∃ c, x = .bl c ∧ Q c H1) := by
  obtain ⟨G, ρ, F, b, ρ', W, hm, q⟩ := h
  unfold tE at hm
  obtain ⟨⟨x, ρ1⟩, e1, hm⟩ := Option.bind_eq_some_iff.mp hm
  refine tm_use W e1 fun v H1 F1 s1 R1 => ?_
  split at hm
  · rename_i c hc
    cases hm
    dsimp only at hc
    subst hc
    cases (show Rep K F1 v (.bl b) from R1)
    exact ⟨b, rfl, q H1 F1 s1⟩
  · cases hm
section
variable {X : Cx} {a b c : Expr} {ma mb : M Vl} {m1 m2 : M Bool} {pos : Pos} {rest : List Expr}
theorem st_val (ha : SE X a ma) (he : ∀ whole, isTrue a X.env whole = (do let v ← whole; standAt a.pos; holding [v] (truthy v))) : ST X a (tE ma) :=
  pt_weak (pt_val ha he) fun _ _ _ h => tb_of h
theorem st_cmp {op : CmpOp} {r : R2} {f : D → D → Option D} (ho : OpR X (compareOp op) r) (hf : OpS X.kx r f) (ha : SE X a ma) (hb : SE X b mb) (hm : behindInMarks op b = false) : ST X (.Compare a [op] [b] pos) (tE (eBin f ma mb)) :=
  pt_weak (pt_cmpR ho ha hb hm) fun _ _ _ h => top_of hf (tb_of h)
noncomputable def tAnd (a b : M Bool) : M Bool := fun ρ => (a ρ).bind fun p => if p.1 = true then b p.2 else some (false, p.2)
noncomputable def tOr (a b : M Bool) : M Bool := fun ρ => (a ρ).bind fun p => if p.1 = true then some (true, p.2) else b p.2
noncomputable def tNot (a : M Bool) : M Bool := fun ρ => (a ρ).bind fun p => some (!p.1, p.2)
noncomputable abbrev SW (X : Cx) (e : Expr) (m : M Bool) : Prop := PW X e (tMT X.kx m)
theorem sw_and1 (h : ST X a m1) : SW X (.BoolOp .And [a] pos) m1 := pw_and1 h
theorem sw_or1 (h : ST X a m1) : SW X (.BoolOp .Or [a] pos) m1 := pw_or1 h
theorem tand_of {K : Kx} {σ : L2.St} {H : Hp} {Q : Bool → Hp → Prop} (h : tMT K (tAnd m1 m2) σ H Q) : L2.tAnd (tMT K m1) (tMT K m2) σ H Q := by
  obtain ⟨G, ρ, F, b, ρ', W, hm, q⟩ := h
  unfold tAnd at hm
  obtain ⟨⟨x, ρ1⟩, e1, hm⟩ := Option.bind_eq_some_iff.mp hm
  refine tmt_use W e1 fun H1 F1 s1 => ?_
  cases x with
  | true =>
    simp only [if_true] at hm ⊢
    exact ⟨G, ρ1, F1, b, ρ', s1.wd, hm, fun H2 F2 s2 => q H2 F2 (s1.trans s2)⟩
  | false =>
    simp at hm ⊢
    obtain ⟨rfl, rfl⟩ := hm
    exact q H1 F1 s1
theorem tor_of {K : Kx} {σ : L2.St} {H : Hp} {Q : Bool → Hp → Prop} (h : tMT K (tOr m1 m2) σ H Q) : L2.tOr (tMT K m1) (tMT K m2) σ H Q := by
  obtain ⟨G, ρ, F, b, ρ', W, hm, q⟩ := h
  unfold tOr at hm
  obtain ⟨⟨x, ρ1⟩, e1, hm⟩ := Option.bind_eq_some_iff.mp hm
  refine tmt_use W e1 fun H1 F1 s1 => ?_
  cases x with
  | true =>
    simp at hm ⊢
    obtain ⟨rfl, rfl⟩ := hm
    exact q H1 F1 s1
  | false =>
    simp at hm ⊢
    exact ⟨G, ρ1, F1, b, ρ', s1.wd, hm, fun H2 F2 s2 => q H2 F2 (s1.trans s2)⟩
theorem sw_and (ha : ST X a m1) (hb : SW X (.BoolOp .And (b :: rest) pos) m2) : SW X (.BoolOp .And (a :: b :: rest) pos) (tAnd m1 m2) := pw_weak (pw_and ha hb) fun _ _ _ h => tand_of h
theorem sw_or (ha : ST X a m1) (hb : SW X (.BoolOp .Or (b :: rest) pos) m2) : SW X (.BoolOp .Or (a :: b :: rest) pos) (tOr m1 m2) := pw_weak (pw_or ha hb) fun _ _ _ h => tor_of h
theorem st_bool {e : Expr} (h : SW X e m1) : ST X e m1 := h.pt
theorem st_not (ha : ST X a m1) : ST X (.UnaryOp .Not a pos) (tNot m1) := pt_weak (pt_not ha) fun σ H Q ⟨G, ρ, F, b, ρ', W, hm, q⟩ => by
  unfold tNot at hm
  obtain ⟨⟨x, ρ1⟩, e1, hm⟩ := Option.bind_eq_some_iff.mp hm
  cases hm
  exact tmt_use W e1 fun H1 F1 s1 => q H1 F1 s1
/-- and, or, not of bools as values -/
noncomputable def eAnd (a b : M Vl) : M Vl := fun ρ => (a ρ).bind fun p => match p.1 with
  | .fz (.bl true) => b p.2
  | .fz (.bl false) => some (.fz (.bl false), p.2)
  | _ => none
noncomputable def eOr (a b : M Vl) : M Vl := fun ρ => (a ρ).bind fun p => match p.1 with
  | .fz (.bl false) => b p.2
  | .fz (.bl true) => some (.fz (.bl true), p.2)
  | _ => none
noncomputable def eNot (a : M Vl) : M Vl := fun ρ => (a ρ).bind fun p => match p.1 with
  | .fz (.bl b) => some (.fz (.bl (!b)), p.2)
  | _ => none
noncomputable def eIf (t : M Bool) (a b : M Vl) : M Vl := fun ρ => (t ρ).bind fun p => if p.1 = true then a p.2 else b p.2
theorem VlR.pre {K : Kx} {G : Gd} {P P' : Hp} {ρ : Rho} {σ : L2.St} {H F : Hp} {v : V} {r : Vl} (h : VlR K G P ρ σ H F v r) (e : ∀ a, P a = none → P' a = none) : VlR K G P' ρ σ H F v r := by
  cases r with
  | fz x => exact h
  | bw i => exact h
  | fr xs =>
    obtain ⟨a, vs, e1, h1, h2, h3, h4, h5⟩ := h
    exact ⟨a, vs, e1, h1, h2, h3, e a h4, h5⟩
theorem Ste.back {K : Kx} {G : Gd} {ρ ρ1 : Rho} {σ : L2.St} {H H1 F F1 : Hp} (s : Ste K G ρ σ H F ρ1 H1 F1) : ∀ a, H1 a = none → H a = none := fun a h => by
  cases e : H a with
  | none => rfl
  | some o => exact absurd h (s.tr a (by rw [e]; simp))
/-- the last part's own result -/
theorem tm_last {K : Kx} {G : Gd} {ρ ρ1 ρ2 : Rho} {σ : L2.St} {H H1 F F1 : Hp} {r : Vl} {m : M Vl} {Q : VK} (s : Ste K G ρ σ H F ρ1 H1 F1) (h : m ρ1 = some (r, ρ2)) (q : ∀ v H' F', Ste K G ρ σ H F ρ2 H' F' → VlR K G H ρ2 σ H' F' v r → Q v H') : tM K m σ H1 Q :=
  ⟨G, ρ1, F1, r, ρ2, s.wd, h, fun v H2 F2 s2 R => q v H2 F2 (s.trans s2) (R.pre s.back)⟩
theorem se_one {op} (h : SE X a ma) : SE X (.BoolOp op [a] pos) ma := pe_one h
theorem se_and (ha : SE X a ma) (hb : SE X (.BoolOp .And (b :: rest) pos) mb) : SE X (.BoolOp .And (a :: b :: rest) pos) (eAnd ma mb) := by
  refine pe_weak (pe_and ha hb) fun σ H Q ⟨G, ρ, F, r, ρ', W, hm, q⟩ => ?_
  unfold eAnd at hm
  obtain ⟨⟨x, ρ1⟩, e1, hm⟩ := Option.bind_eq_some_iff.mp hm
  refine tm_use W e1 fun v H1 F1 s1 R1 => ?_
  split at hm
  · rename_i hc; dsimp only at hc; subst hc
    cases (show Rep X.kx F1 v (.bl true) from R1)
    exact ⟨true, rfl, tm_last s1 hm q⟩
  · rename_i hc; dsimp only at hc; subst hc
    cases (show Rep X.kx F1 v (.bl false) from R1)
    cases hm
    exact ⟨false, rfl, q _ _ F1 s1 (.bl false)⟩
  · cases hm
/-- a < b < c -/
noncomputable def eChain (f g : D → D → Option D) (a b c : M Vl) : M Vl := fun ρ => (a ρ).bind fun p => (b p.2).bind fun q => (look q.2 (stl p.1)).bind fun x => (look q.2 (stl q.1)).bind fun y => (f x y).bind fun z => match z with
  | .bl true => (c q.2).bind fun p3 => (look p3.2 (stl q.1)).bind fun y2 => (look p3.2 (stl p3.1)).bind fun w => (g y2 w).bind fun z2 => some (.fz z2, p3.2)
  | .bl false => some (.fz (.bl false), q.2)
  | _ => none
end
noncomputable def aNil : M (List Vl) := fun ρ => some ([], ρ)
noncomputable def aCons (a : M Vl) (r : M (List Vl)) : M (List Vl) := fun ρ => (a ρ).bind fun p => (r p.2).bind fun q => some (stl p.1 :: q.1, q.2)
theorem sa_nil {X : Cx} : SA X [] aNil := pa_weak pa_nil fun σ H Q ⟨G, ρ, F, r, ρ', W, hm, q⟩ => by
  cases hm
  exact q [] H F (Ste.refl W) trivial
theorem sa_cons {X : Cx} {e : Expr} {es : List Expr} {me : M Vl} {mr : M (List Vl)} (he : SE X e me) (hr : SA X es mr) (hs : starEach (e :: es) X.env = (false, eval e X.env) :: starEach es X.env := by rfl) : SA X (e :: es) (aCons me mr) := by
  refine pa_weak (pa_cons he hr hs) fun σ H Q ⟨G, ρ, F, r, ρ', W, hm, q⟩ => ?_
  unfold aCons at hm
  obtain ⟨⟨x, ρ1⟩, e1, hm⟩ := Option.bind_eq_some_iff.mp hm
  obtain ⟨⟨y, ρ2⟩, e2, hm⟩ := Option.bind_eq_some_iff.mp hm
  cases hm
  refine tm_use W e1 fun v H1 F1 s1 R1 => ?_
  exact ⟨G, ρ1, F1, y, ρ2, s1.wd, e2, fun vs H2 F2 s2 R2 => q (v :: vs) H2 F2 (s1.trans s2) ⟨R1.ste s2, R2⟩⟩
/-- all become data -/
noncomputable def frzs (ρ : Rho) : List Vl → Option (List D × Rho)
  | [] => some ([], ρ)
  | r :: rs => (frz ρ r).bind fun p => (frzs p.2 rs).bind fun q => some (p.1 :: q.1, q.2)
theorem frzs_ok {K : Kx} {G : Gd} {σ : L2.St} {H : Hp} : ∀ {rs : List Vl} {vs : List V} {xs : List D} {ρ ρ' : Rho} {F : Hp}, Wd K G ρ σ H F → VlSs K σ F vs rs → frzs ρ rs = some (xs, ρ') → ∃ F', Ste K G ρ σ H F ρ' H F' ∧ Reps K F' vs xs
  | [], [], xs, ρ, ρ', F, W, _, e => by
    cases e
    exact ⟨F, Ste.refl W, .nil⟩
  | [], _ :: _, _, _, _, _, _, h, _ => h.elim
  | _ :: _, [], _, _, _, _, _, h, _ => h.elim
  | r :: rs, v :: vs, xs, ρ, ρ', F, W, h, e => by
    unfold frzs at e
    obtain ⟨⟨x, ρ1⟩, e1, e⟩ := Option.bind_eq_some_iff.mp e
    obtain ⟨⟨ys, ρ2⟩, e2, e⟩ := Option.bind_eq_some_iff.mp e
    cases e
    obtain ⟨F1, s1, R1⟩ := frz_ok W h.1 e1
    obtain ⟨F2, s2, R2⟩ := frzs_ok s1.wd (h.2.ste s1) e2
    exact ⟨F2, s1.trans s2, .cons (R1.mono s2.ff) R2⟩
noncomputable abbrev lim : Nat := 16777216
theorem lim_of {n : Nat} (h : n ≤ lim) : n ≤ sizeLine := by rw [sizeLine_eq]; exact h
theorem lim_lt {n : Nat} (h : n < lim) : n < sizeLine := by rw [sizeLine_eq]; exact h
/-- (a, b, ..) -/
noncomputable def eTup (a : M (List Vl)) : M Vl := fun ρ => (a ρ).bind fun p => (frzs p.2 p.1).bind fun q => if q.1.length ≤ lim then some (.fz (.tup q.1), q.2) else none
noncomputable def eLst (a : M (List Vl)) : M Vl := fun ρ => (a ρ).bind fun p => (frzs p.2 p.1).bind fun q => if q.1.length ≤ lim then some (.fr q.1, q.2) else none
section
variable {X : Cx} {es : List Expr} {ma : M (List Vl)} {pos : Pos}
theorem se_tup {x1} (h : SA X es ma) : SE X (.Tuple es x1 pos) (eTup ma) := by
  refine pe_weak (pe_tup h) fun σ H Q ⟨G, ρ, F, r, ρ', W, hm, q⟩ => ?_
  unfold eTup at hm
  obtain ⟨⟨x, ρ1⟩, e1, hm⟩ := Option.bind_eq_some_iff.mp hm
  obtain ⟨⟨ys, ρ2⟩, e2, hm⟩ := Option.bind_eq_some_iff.mp hm
  split at hm
  · rename_i hl
    cases hm
    refine ⟨G, ρ, F, x, ρ1, W, e1, fun vs H1 F1 s1 R1 => ?_⟩
    obtain ⟨F2, s2, R2⟩ := frzs_ok s1.wd R1 e2
    refine ⟨lim_of (by rw [R2.len]; exact hl), fun p hp => ?_⟩
    have A := Alc.new (o := HO.tup vs) s2.wd.sub hp
    exact q _ _ _ ((s1.trans s2).trans (s2.wd.alc A)) (Rep.tup (SqT.of upd_same) (R2.mono A.ff))
  · cases hm
theorem se_lst (h : SA X es ma) : SE X (.List es pos) (eLst ma) := by
  refine pe_weak (pe_lst h) fun σ H Q ⟨G, ρ, F, r, ρ', W, hm, q⟩ => ?_
  unfold eLst at hm
  obtain ⟨⟨x, ρ1⟩, e1, hm⟩ := Option.bind_eq_some_iff.mp hm
  obtain ⟨⟨ys, ρ2⟩, e2, hm⟩ := Option.bind_eq_some_iff.mp hm
  split at hm
  · rename_i hl
    cases hm
    refine ⟨G, ρ, F, x, ρ1, W, e1, fun vs H1 F1 s1 R1 => ?_⟩
    obtain ⟨F2, s2, R2⟩ := frzs_ok s1.wd R1 e2
    refine ⟨lim_of (by rw [R2.len]; exact hl), fun p hp => ?_⟩
    have s3 := s1.trans s2
    have A : Alc F2 H1 F2 (upd H1 p (.lst vs)) := ⟨Same.refl _, s2.wd.sub.trans (same_upd hp), same_upd hp, fun _ h => .inl h⟩
    refine q _ _ _ (s3.trans (s2.wd.alc A)) ⟨p, vs, rfl, upd_same, R2, s2.wd.sub.free hp, s3.back p hp, s3.wd.not_ow hp (same_upd hp)⟩
  · cases hm
end
noncomputable def looks (ρ : Rho) : List Vl → Option (List D)
  | [] => some []
  | r :: rs => (look ρ r).bind fun x => (looks ρ rs).bind fun xs => some (x :: xs)
noncomputable def Vws (K : Kx) (H F : Hp) : List V → List D → Prop
  | [], [] => True
  | v :: vs, x :: xs => Vw K H F v x ∧ Vws K H F vs xs
  | _, _ => False
theorem vws_of {K : Kx} {G : Gd} {ρ : Rho} {σ : L2.St} {H F : Hp} (W : Wd K G ρ σ H F) : ∀ {vs : List V} {rs : List Vl} {xs : List D}, VlSs K σ F vs rs → looks ρ rs = some xs → Vws K H F vs xs
  | [], [], xs, _, e => by cases e; trivial
  | [], _ :: _, _, h, _ => h.elim
  | _ :: _, [], _, h, _ => h.elim
  | v :: vs, r :: rs, xs, h, e => by
    unfold looks at e
    obtain ⟨x, e1, e⟩ := Option.bind_eq_some_iff.mp e
    obtain ⟨ys, e2, e⟩ := Option.bind_eq_some_iff.mp e
    cases e
    exact ⟨vw_of W h.1 e1, vws_of W h.2 e2⟩
/-- f(a, ..) of a built-in f -/
noncomputable def eBlt (f : List D → Option D) (a : M (List Vl)) : M Vl := fun ρ => (a ρ).bind fun p => (looks p.2 p.1).bind fun xs => (f xs).bind fun z => some (.fz z, p.2)
noncomputable def CallS (K : Kx) (r : List V → Hp → VK → Prop) (f : List D → Option D) : Prop :=
  ∀ (H F : Hp) (vs : List V) (xs : List D) (z : D), Same F H → Vws K H F vs xs → f xs = some z → ∀ Q : VK, (∀ w H' F', Alc F H F' H' → Rep K F' w z → Q w H') → r vs H Q
theorem tcb_of {K : Kx} {r : List V → Hp → VK → Prop} {f : List D → Option D} {a : M (List Vl)} (hf : CallS K r f) {σ : L2.St} {H : Hp} {Q : VK} (h : tM K (eBlt f a) σ H Q) : tMA K a σ H fun vs H1 => r vs H1 Q := by
  obtain ⟨G, ρ, F, r0, ρ', W, hm, q⟩ := h
  unfold eBlt at hm
  obtain ⟨⟨x, ρ1⟩, e1, hm⟩ := Option.bind_eq_some_iff.mp hm
  obtain ⟨xs, e2, hm⟩ := Option.bind_eq_some_iff.mp hm
  obtain ⟨z, e3, hm⟩ := Option.bind_eq_some_iff.mp hm
  cases hm
  refine ⟨G, ρ, F, x, ρ1, W, e1, fun vs H1 F1 s1 R1 => ?_⟩
  refine hf H1 F1 vs xs z s1.wd.sub (vws_of s1.wd R1 e2) e3 Q fun w H' F' A R => ?_
  exact q w H' F' (s1.trans (s1.wd.alc A)) R
end Sw
namespace Sw
open PySem PySem.Spec PyProof.Rows L2
section
variable {X : Cx} {a b c e : Expr} {ma mb mc me : M Vl} {pos : Pos}
noncomputable def tMO (K : Kx) (m : M (Option Int)) : TO := fun σ H Q => ∃ G ρ F r ρ', Wd K G ρ σ H F ∧ m ρ = some (r, ρ') ∧ ∀ H' F', Ste K G ρ σ H F ρ' H' F' → Q r H'
noncomputable abbrev SO (X : Cx) (e : Option Expr) (m : M (Option Int)) : Prop := PO X e (tMO X.kx m)
theorem po_weak {o : Option Expr} {t t' : TO} (h : PO X o t) (w : ∀ σ H Q, t' σ H Q → t σ H Q) : PO X o t' := ⟨fun pins s σ H Q I q => h.run pins s σ H Q I (w _ _ _ q)⟩
noncomputable def oNo : M (Option Int) := fun ρ => some (none, ρ)
noncomputable def oSome (a : M Vl) : M (Option Int) := fun ρ => (a ρ).bind fun p => match p.1 with
  | .fz (.int i) => some (some i, p.2)
  | _ => none
theorem so_none : SO X none oNo := po_weak po_none fun σ H Q ⟨G, ρ, F, r, ρ', W, hm, q⟩ => by
  cases hm
  exact q H F (Ste.refl W)
theorem so_some (h : SE X e me) : SO X (some e) (oSome me) := po_weak (po_some h) fun σ H Q ⟨G, ρ, F, r, ρ', W, hm, q⟩ => by
  unfold oSome at hm
  obtain ⟨⟨x, ρ1⟩, e1, hm⟩ := Option.bind_eq_some_iff.mp hm
  refine tm_use W e1 fun v H1 F1 s1 R1 => ?_
  split at hm
  · rename_i i hc; dsimp only at hc; subst hc
    cases (show Rep X.kx F1 v (.int i) from R1)
    cases hm
    exact ⟨i, rfl, q H1 F1 s1⟩
  · cases hm
noncomputable def eSl (f : D → Option Int → Option Int → Option D) (a : M Vl) (l u : M (Option Int)) : M Vl := fun ρ => (a ρ).bind fun p => (l p.2).bind fun p1 => (u p1.2).bind fun p2 => (look p2.2 (stl p.1)).bind fun x => (f x p1.1 p2.1).bind fun z => some (.fz z, p2.2)
noncomputable def SlS (K : Kx) (r : V → Option Int → Option Int → Hp → VK → Prop) (f : D → Option Int → Option Int → Option D) : Prop :=
  ∀ (H F : Hp) (v : V) (x z : D) (lo hi : Option Int), Same F H → Vw K H F v x → f x lo hi = some z → ∀ Q : VK, (∀ w H' F', Alc F H F' H' → Rep K F' w z → Q w H') → r v lo hi H Q
theorem se_sl {r : V → Option Int → Option Int → Hp → VK → Prop} {f : D → Option Int → Option Int → Option D} {lo hi : Option Expr} {ml mu : M (Option Int)} {p2 : Pos} (hr : L2.SlR X r) (hf : SlS X.kx r f) (he : SE X e me) (hl : SO X lo ml) (hu : SO X hi mu) : SE X (.Subscript e (.Slice lo hi none p2) pos) (eSl f me ml mu) := by
  refine pe_weak (pe_slice hr he hl hu) fun σ H Q ⟨G, ρ, F, r0, ρ', W, hm, q⟩ => ?_
  unfold eSl at hm
  obtain ⟨⟨x, ρ1⟩, e1, hm⟩ := Option.bind_eq_some_iff.mp hm
  obtain ⟨⟨l, ρ2⟩, e2, hm⟩ := Option.bind_eq_some_iff.mp hm
  obtain ⟨⟨u, ρ3⟩, e3, hm⟩ := Option.bind_eq_some_iff.mp hm
  obtain ⟨dx, e4, hm⟩ := Option.bind_eq_some_iff.mp hm
  obtain ⟨dz, e5, hm⟩ := Option.bind_eq_some_iff.mp hm
  cases hm
  refine tm_use W e1 fun v H1 F1 s1 R1 => ?_
  refine ⟨G, ρ1, F1, l, ρ2, s1.wd, e2, fun H2 F2 s2 => ⟨G, ρ2, F2, u, ρ3, s2.wd, e3, fun H3 F3 s3 => ?_⟩⟩
  refine hf H3 F3 v dx dz l u s3.wd.sub (vw_of s3.wd ((R1.ste s2).ste s3) e4) e5 _ fun w H' F' A R => ?_
  exact q w H' F' (((s1.trans s2).trans s3).trans (s3.wd.alc A)) R
variable {x : Str} {id T : String} {es : List Expr} {ms : M (List Vl)} {p : Pos} {r : List V → Hp → VK → Prop} {f : List D → Option D}
theorem se_blt (hc : CallR X (.builtin id) r) (hf : CallS X.kx r f) (hg : Gl X x) (hm : X.mg x = none) (hv : bootBuiltins x = some (.builtin id)) (ha : SA X (e :: es) ms) (hn : x ≠ "__name__" := by decide) (hdb : (x == ("__debug__" : Str)) = false := by decide)
    (he : starEach (e :: es) X.env = (false, eval e X.env) :: starEach es X.env := by rfl) (hpl : (backTo pos (starEach es X.env)).any (·.1) = false := by rfl) : SE X (.Call (.Name x p) (e :: es) [] pos) (eBlt f ms) :=
  pe_weak (pe_callB hc hg hm hv ha hn hdb he hpl) fun _ _ _ h => tcb_of hf h
theorem se_ty (hc : CallR X (.type T) r) (hf : CallS X.kx r f) (hg : Gl X x) (hm : X.mg x = none) (hv : bootBuiltins x = some (.type T)) (ha : SA X (e :: es) ms) (hn : x ≠ "__name__" := by decide) (hdb : (x == ("__debug__" : Str)) = false := by decide)
    (he : starEach (e :: es) X.env = (false, eval e X.env) :: starEach es X.env := by rfl) (hpl : (backTo pos (starEach es X.env)).any (·.1) = false := by rfl) : SE X (.Call (.Name x p) (e :: es) [] pos) (eBlt f ms) :=
  pe_weak (pe_callTy hc hg hm hv ha hn hdb he hpl) fun _ _ _ h => tcb_of hf h
/-- o.m(a, ..), m a method of a built-in type; the object a text -/
noncomputable def eMet (f : D → List D → Option D) (o : M Vl) (a : M (List Vl)) : M Vl := fun ρ => (o ρ).bind fun p => (a p.2).bind fun q => (look q.2 (stl p.1)).bind fun x => (looks q.2 q.1).bind fun xs => (f x xs).bind fun z => some (.fz z, q.2)
noncomputable def MetS (K : Kx) (r : V → List V → Hp → VK → Prop) (f : D → List D → Option D) : Prop :=
  ∀ (H F : Hp) (v : V) (vs : List V) (x : D) (xs : List D) (z : D), Same F H → Vw K H F v x → Vws K H F vs xs → f x xs = some z → ∀ Q : VK, (∀ w H' F', Alc F H F' H' → Rep K F' w z → Q w H') → r v vs H Q
theorem look_str {ρ : Rho} {r : Vl} {s : List Nat} (h : look ρ (stl r) = some (.str s)) : stl r = .fz (.str s) := by
  cases r with
  | fz x => cases h; rfl
  | fr xs => cases h
  | bw i =>
    simp only [stl, look] at h
    split at h <;> cases h
theorem tmet_of {K : Kx} {mo : M Vl} {r : V → List V → Hp → VK → Prop} {f : D → List D → Option D} (hT : ∀ x xs z, f x xs = some z → ∃ s, x = .str s) (hf : MetS K r f) {σ : L2.St} {H : Hp} {Q : VK} (h : tM K (eMet f mo ms) σ H Q) :
    tM K mo σ H fun x H1 => tyV K "str" x H1 ∧ tMA K ms σ H1 fun xs H2 => r x xs H2 Q := by
  obtain ⟨G, ρ, F, r0, ρ', W, hm, q⟩ := h
  unfold eMet at hm
  obtain ⟨⟨x, ρ1⟩, e1, hm⟩ := Option.bind_eq_some_iff.mp hm
  obtain ⟨⟨y, ρ2⟩, e2, hm⟩ := Option.bind_eq_some_iff.mp hm
  obtain ⟨dx, e3, hm⟩ := Option.bind_eq_some_iff.mp hm
  obtain ⟨dxs, e4, hm⟩ := Option.bind_eq_some_iff.mp hm
  obtain ⟨dz, e5, hm⟩ := Option.bind_eq_some_iff.mp hm
  cases hm
  refine tm_use W e1 fun v H1 F1 s1 R1 => ?_
  obtain ⟨s, rfl⟩ := hT _ _ _ e5
  have ex := look_str e3
  have Rv : Rep K F1 v (.str s) := by rw [ex] at R1; exact R1
  have ty : tyV K "str" v H1 := by
    cases Rv
    rfl
  refine ⟨ty, ⟨G, ρ1, F1, y, ρ2, s1.wd, e2, fun vs H2 F2 s2 R2 => ?_⟩⟩
  refine hf H2 F2 v vs (.str s) dxs dz s2.wd.sub (vw_rep s2.wd.sub (Rv.mono s2.ff)) (vws_of s2.wd R2 e4) e5 Q fun w H' F' A R => ?_
  exact q w H' F' ((s1.trans s2).trans (s2.wd.alc A)) R
theorem se_met {o : Expr} {mo : M Vl} {name : Str} {apos cpos : Pos} {r : V → List V → Hp → VK → Prop} {f : D → List D → Option D} (slot : Slot "str" name id) (hty : typeOf (.builtin id) = pure (.type "method_descriptor")) (hm : MtR X id r) (hT : ∀ x xs z, f x xs = some z → ∃ s, x = .str s) (hf : MetS X.kx r f) (ho : SE X o mo) (ha : SA X (e :: es) ms)
    (hbase : attributeBase o name X.env (eval o X.env) = eval o X.env := by rfl)
    (hfew : ((backTo cpos (starEach (e :: es) X.env)).all (fun x => !x.1) && (backToKw cpos (keywordEach [] X.env)).all (fun x => x.1.isSome)
      && decide ((e :: es).length + ([] : List Keyword).length + (if ([] : List Keyword).isEmpty then 0 else 1) < 30)) = true := by rfl)
    (hline : (apos.endLine == cpos.line) = true := by rfl) (hs : starEach (e :: es) X.env = (false, eval e X.env) :: starEach es X.env := by rfl) (hplain : (backTo cpos (starEach es X.env)).any (·.1) = false := by rfl) :
    SE X (.Call (.Attribute o name apos) (e :: es) [] cpos) (eMet f mo ms) :=
  pe_weak (pe_bm PySem.F.plainAttrs_str slot hty hm ho ha hbase hfew hline hs hplain) fun _ _ _ h => tmet_of hT hf h
end
/-- an argument: a datum, or a list that the def may change -/
inductive Ag where
  | da (x : D) | li (xs : List D)
noncomputable abbrev Fn := List Ag → Option (Vl × List (List D))
noncomputable def liA : List V → List Ag → List Addr
  | .ref a :: vs, .li _ :: gs => a :: liA vs gs
  | _ :: vs, _ :: gs => liA vs gs
  | _, _ => []
noncomputable def AgsR (K : Kx) (F H : Hp) : List V → List Ag → Prop
  | [], [] => True
  | v :: vs, .da x :: gs => Rep K F v x ∧ AgsR K F H vs gs
  | v :: vs, .li xs :: gs => (∃ a us, v = .ref a ∧ H a = some (.lst us) ∧ Reps K F us xs ∧ F a = none) ∧ AgsR K F H vs gs
  | _, _ => False
noncomputable def OutsR (K : Kx) (F H : Hp) : List Addr → List (List D) → Prop
  | [], [] => True
  | a :: as, xs :: os => (∃ us, H a = some (.lst us) ∧ Reps K F us xs ∧ F a = none) ∧ OutsR K F H as os
  | _, _ => False
noncomputable def ResR (K : Kx) (P F H : Hp) (v : V) : Vl → Prop
  | .fz x => Rep K F v x
  | .fr xs => ∃ a us, v = .ref a ∧ H a = some (.lst us) ∧ Reps K F us xs ∧ F a = none ∧ P a = none
  | .bw _ => True
noncomputable def spF (K : Kx) (n : Nat) (f : Fn) : Sp := fun vs H Q _ => vs.length = n ∧ ∃ (F : Hp) (gs : List Ag) (r : Vl) (os : List (List D)), Same F H ∧ AgsR K F H vs gs ∧ (liA vs gs).Nodup ∧ f gs = some (r, os) ∧ ∀ v H' F',
  Same F F' → Same F' H' → (∀ b o, H b = some o → b ∉ liA vs gs → H' b = some o) → (∀ b, F' b ≠ none → F b ≠ none ∨ H b = none) → OutsR K F' H' (liA vs gs) os → ResR K H F' H' v r → Q v H'
/-- the arguments of a call: data, or the number of the slot whose list is handed in -/
noncomputable def ag1 : List Bool → List Vl → Rho → Option (List (D ⊕ Nat) × Rho)
  | _, [], ρ => some ([], ρ)
  | fs, r :: rs, ρ => if fs.headD false = true then (match r with
    | .bw i => (ag1 fs.tail rs ρ).bind fun p => some (.inr i :: p.1, p.2)
    | _ => none) else (frz ρ r).bind fun p => (ag1 fs.tail rs p.2).bind fun q => some (.inl p.1 :: q.1, q.2)
noncomputable def own? (ρ : Rho) (i : Nat) : Option (List D) := match ρ[i]? with
  | some (.ow xs) => some xs
  | some (.io xs) => some xs
  | _ => none
noncomputable def ag2 (ρ : Rho) : List (D ⊕ Nat) → Option (List Ag)
  | [] => some []
  | .inl x :: r => (ag2 ρ r).bind fun gs => some (.da x :: gs)
  | .inr i :: r => (own? ρ i).bind fun xs => (ag2 ρ r).bind fun gs => some (.li xs :: gs)
noncomputable def agI : List (D ⊕ Nat) → List Nat
  | [] => []
  | .inl _ :: r => agI r
  | .inr i :: r => i :: agI r
noncomputable def put (ρ : Rho) (i : Nat) (xs : List D) : Rho := match ρ[i]? with
  | some (.ow _) => ρ.set i (.ow xs)
  | some (.io _) => ρ.set i (.io xs)
  | _ => ρ
noncomputable def puts : Rho → List Nat → List (List D) → Rho
  | ρ, i :: is, xs :: os => puts (put ρ i xs) is os
  | ρ, _, _ => ρ
noncomputable def eCall (f : Fn) (fs : List Bool) (a : M (List Vl)) : M Vl := fun ρ => (a ρ).bind fun p => (ag1 fs p.1 p.2).bind fun q => (ag2 q.2 q.1).bind fun gs => if (agI q.1).Nodup then (f gs).bind fun z => match z.1 with
  | .bw _ => none
  | w => some (w, puts q.2 (agI q.1) z.2) else none
noncomputable def TsR (K : Kx) (σ : L2.St) (F : Hp) : List V → List (D ⊕ Nat) → Prop
  | [], [] => True
  | v :: vs, .inl x :: r => Rep K F v x ∧ TsR K σ F vs r
  | v :: vs, .inr i :: r => σ[i]? = some (some v) ∧ TsR K σ F vs r
  | _, _ => False
section
variable {K : Kx} {G : Gd} {σ : L2.St} {H : Hp}
theorem ag1_frz {fs : List Bool} {r : Vl} {rs : List Vl} {v : V} {vs : List V} {ts : List (D ⊕ Nat)} {ρ ρ' : Rho} {F : Hp}
    (ih : ∀ {vs : List V} {ts : List (D ⊕ Nat)} {ρ ρ' : Rho} {F : Hp}, Wd K G ρ σ H F → VlSs K σ F vs rs → ag1 fs rs ρ = some (ts, ρ') → ∃ F', Ste K G ρ σ H F ρ' H F' ∧ TsR K σ F' vs ts)
    (W : Wd K G ρ σ H F) (h : VlSs K σ F (v :: vs) (r :: rs)) (e : ((frz ρ r).bind fun p => (ag1 fs rs p.2).bind fun q => some (.inl p.1 :: q.1, q.2)) = some (ts, ρ')) : ∃ F', Ste K G ρ σ H F ρ' H F' ∧ TsR K σ F' (v :: vs) ts := by
  obtain ⟨⟨x, ρ1⟩, e1, e⟩ := Option.bind_eq_some_iff.mp e
  obtain ⟨⟨ys, ρ2⟩, e2, e⟩ := Option.bind_eq_some_iff.mp e
  cases e
  obtain ⟨F1, s1, R1⟩ := frz_ok W h.1 e1
  obtain ⟨F2, s2, R2⟩ := ih s1.wd (h.2.ste s1) e2
  exact ⟨F2, s1.trans s2, R1.mono s2.ff, R2⟩
theorem ag1_ok : ∀ {rs : List Vl} {fs : List Bool} {vs : List V} {ts : List (D ⊕ Nat)} {ρ ρ' : Rho} {F : Hp}, Wd K G ρ σ H F → VlSs K σ F vs rs → ag1 fs rs ρ = some (ts, ρ') → ∃ F', Ste K G ρ σ H F ρ' H F' ∧ TsR K σ F' vs ts
  | [], fs, [], ts, ρ, ρ', F, W, _, e => by
    unfold ag1 at e
    cases e
    exact ⟨F, Ste.refl W, trivial⟩
  | [], _, _ :: _, _, _, _, _, _, h, _ => h.elim
  | _ :: _, _, [], _, _, _, _, _, h, _ => h.elim
  | r :: rs, fs, v :: vs, ts, ρ, ρ', F, W, h, e => by
    unfold ag1 at e
    split at e
    · cases r with
      | bw i =>
        obtain ⟨⟨ys, ρ2⟩, e2, e⟩ := Option.bind_eq_some_iff.mp e
        cases e
        obtain ⟨F2, s2, R2⟩ := ag1_ok W h.2 e2
        exact ⟨F2, s2, h.1, R2⟩
      | fz x => cases e
      | fr x => exact h.1.elim
    · exact ag1_frz (fs := fs.tail) ag1_ok W h e
theorem own_sl {ρ : Rho} {i : Nat} {xs : List D} (h : own? ρ i = some xs) : ρ[i]? = some (.ow xs) ∨ ρ[i]? = some (.io xs) := by
  unfold own? at h
  split at h
  · cases h; rename_i e; exact .inl e
  · cases h; rename_i e; exact .inr e
  · cases h
theorem ag2_ok {ρ : Rho} {F : Hp} (W : Wd K G ρ σ H F) : ∀ {ts : List (D ⊕ Nat)} {vs : List V} {gs : List Ag}, TsR K σ F vs ts → ag2 ρ ts = some gs →
    AgsR K F H vs gs ∧ (liA vs gs).length = (agI ts).length ∧ ∀ (k i : Nat) (a : Addr), (agI ts)[k]? = some i → (liA vs gs)[k]? = some a → OwL ρ σ i a
  | [], [], gs, _, e => by
    cases e
    exact ⟨trivial, rfl, fun k i a h _ => by simp [agI] at h⟩
  | [], _ :: _, _, h, _ => h.elim
  | .inl _ :: _, [], _, h, _ => h.elim
  | .inr _ :: _, [], _, h, _ => h.elim
  | .inl x :: ts, v :: vs, gs, h, e => by
    unfold ag2 at e
    obtain ⟨g2, e2, e⟩ := Option.bind_eq_some_iff.mp e
    cases e
    obtain ⟨h1, h2, h3⟩ := ag2_ok W h.2 e2
    have q : liA (v :: vs) (.da x :: g2) = liA vs g2 := by cases v <;> rfl
    exact ⟨⟨h.1, h1⟩, by rw [q]; exact h2, by rw [q]; exact h3⟩
  | .inr i :: ts, v :: vs, gs, h, e => by
    unfold ag2 at e
    obtain ⟨xs, e1, e⟩ := Option.bind_eq_some_iff.mp e
    obtain ⟨g2, e2, e⟩ := Option.bind_eq_some_iff.mp e
    cases e
    obtain ⟨h1, h2, h3⟩ := ag2_ok W h.2 e2
    have hv := h.1
    have sl := own_sl e1
    have key : ∃ a us, v = .ref a ∧ H a = some (.lst us) ∧ Reps K F us xs ∧ F a = none := by
      rcases sl with q | q
      · obtain ⟨a, us, z, p1, p2, p3, _⟩ := W.sl i _ q
        rw [hv] at z; cases z
        exact ⟨a, us, rfl, p1, p2, p3⟩
      · obtain ⟨a, us, z, p1, p2, p3, _⟩ := W.sl i _ q
        rw [hv] at z; cases z
        exact ⟨a, us, rfl, p1, p2, p3⟩
    obtain ⟨a, us, rfl, p1, p2, p3⟩ := key
    refine ⟨⟨⟨a, us, rfl, p1, p2, p3⟩, h1⟩, ?_, fun k j b q1 q2 => ?_⟩
    · show (a :: liA vs g2).length = (i :: agI ts).length
      rw [List.length_cons, List.length_cons, h2]
    · cases k with
      | zero =>
        have q1 : some i = some j := q1
        have q2 : some a = some b := q2
        cases q1; cases q2
        exact ⟨⟨xs, sl⟩, hv⟩
      | succ k => exact h3 k j b q1 q2
theorem put_len (ρ : Rho) (i : Nat) (xs : List D) : (put ρ i xs).length = ρ.length := by
  unfold put
  split <;> simp
theorem puts_len : ∀ (is : List Nat) (os : List (List D)) (ρ : Rho), (puts ρ is os).length = ρ.length
  | [], _, ρ => by unfold puts; rfl
  | _ :: _, [], ρ => by unfold puts; rfl
  | i :: is, xs :: os, ρ => by
    show (puts (put ρ i xs) is os).length = ρ.length
    rw [puts_len is os, put_len]
theorem put_ne {ρ : Rho} {i j : Nat} {xs : List D} (h : j ≠ i) : (put ρ i xs)[j]? = ρ[j]? := by
  unfold put
  split
  · rw [List.getElem?_set_ne (Ne.symm h)]
  · rw [List.getElem?_set_ne (Ne.symm h)]
  · rfl
theorem put_self {ρ : Rho} {i : Nat} {xs ys : List D} : (ρ[i]? = some (.ow ys) → (put ρ i xs)[i]? = some (.ow xs)) ∧ (ρ[i]? = some (.io ys) → (put ρ i xs)[i]? = some (.io xs)) := by
  constructor
  · intro h
    have hi := (List.getElem?_eq_some_iff.mp h).1
    unfold put
    rw [h]
    exact List.getElem?_set_self hi
  · intro h
    have hi := (List.getElem?_eq_some_iff.mp h).1
    unfold put
    rw [h]
    exact List.getElem?_set_self hi
theorem puts_ne : ∀ {is : List Nat} {os : List (List D)} {ρ : Rho} {j : Nat}, j ∉ is → (puts ρ is os)[j]? = ρ[j]?
  | [], _, ρ, j, _ => by unfold puts; rfl
  | _ :: _, [], ρ, j, _ => by unfold puts; rfl
  | i :: is, xs :: os, ρ, j, h => by
    show (puts (put ρ i xs) is os)[j]? = ρ[j]?
    rw [puts_ne fun z => h (List.mem_cons_of_mem _ z), put_ne fun z => h (by rw [z]; exact List.mem_cons_self)]
theorem puts_at : ∀ {is : List Nat} {os : List (List D)} {ρ : Rho} {k j : Nat} {xs : List D}, is.Nodup → is[k]? = some j → os[k]? = some xs → ∀ ys, (ρ[j]? = some (.ow ys) → (puts ρ is os)[j]? = some (.ow xs)) ∧ (ρ[j]? = some (.io ys) → (puts ρ is os)[j]? = some (.io xs))
  | [], _, _, _, _, _, _, h, _, _ => by simp at h
  | _ :: _, [], _, _, _, _, _, _, h, _ => by simp at h
  | i :: is, zs :: os, ρ, 0, j, xs, nd, h1, h2, ys => by
    simp at h1 h2
    subst h1; subst h2
    have nj := (List.nodup_cons.mp nd).1
    show (_ → (puts (put ρ i zs) is os)[i]? = _) ∧ (_ → (puts (put ρ i zs) is os)[i]? = _)
    rw [puts_ne nj]
    exact put_self
  | i :: is, zs :: os, ρ, k + 1, j, xs, nd, h1, h2, ys => by
    have ni := (List.nodup_cons.mp nd).1
    have h1 : is[k]? = some j := by simpa using h1
    have h2 : os[k]? = some xs := by simpa using h2
    have ne : j ≠ i := fun z => ni (by rw [← z]; exact List.mem_of_getElem? h1)
    have q := puts_at (ρ := put ρ i zs) (List.nodup_cons.mp nd).2 h1 h2 ys
    rw [put_ne ne] at q
    exact q
theorem OutsR.get {F : Hp} : ∀ {as : List Addr} {os : List (List D)} {k : Nat} {a : Addr}, OutsR K F H as os → as[k]? = some a → ∃ xs, os[k]? = some xs ∧ ∃ us, H a = some (.lst us) ∧ Reps K F us xs ∧ F a = none
  | [], _, _, _, _, h => by simp at h
  | _ :: _, [], _, _, h, _ => h.elim
  | b :: as, xs :: os, 0, a, h, e => by
    simp at e; subst e
    exact ⟨xs, rfl, h.1⟩
  | b :: as, xs :: os, k + 1, a, h, e => by
    obtain ⟨ys, e1, e2⟩ := OutsR.get (k := k) h.2 (by simpa using e)
    exact ⟨ys, by simpa using e1, e2⟩
/-- behind a call -/
theorem after_call2 {ρ : Rho} {F F' H' : Hp} {is : List Nat} {as : List Addr} {os : List (List D)} (W : Wd K G ρ σ H F) (nd : is.Nodup) (hl : as.length = is.length) (ow : ∀ (k i : Nat) (a : Addr), is[k]? = some i → as[k]? = some a → OwL ρ σ i a)
    (ff : Same F F') (sub : Same F' H') (kp : ∀ b o, H b = some o → b ∉ as → H' b = some o) (nf : ∀ b, F' b ≠ none → F b ≠ none ∨ H b = none) (outs : OutsR K F' H' as os) : Ste K G ρ σ H F (puts ρ is os) H' F' ∧ ∀ i a, Ow K H' F' (puts ρ is os) σ i a → Ow K H F ρ σ i a := by
  have memO : ∀ b, b ∈ as → ∃ i, OwL ρ σ i b := fun b hb => by
    obtain ⟨k, hk, e⟩ := List.mem_iff_getElem.mp hb
    have hk2 : k < is.length := by omega
    exact ⟨is[k], ow k is[k] b (List.getElem?_eq_getElem hk2) (by rw [List.getElem?_eq_getElem hk, e])⟩
  have tr : ∀ b, H b ≠ none → H' b ≠ none := fun b h => by
    by_cases hb : b ∈ as
    · obtain ⟨k, hk, e⟩ := List.mem_iff_getElem.mp hb
      obtain ⟨xs, _, us, z, _⟩ := outs.get (k := k) (a := b) (by rw [List.getElem?_eq_getElem hk, e])
      rw [z]; simp
    · cases e : H b with
      | none => exact absurd e h
      | some o => rw [kp b o e hb]; simp
  have fn : ∀ {a : Addr} {ob : HO}, H a = some ob → F a = none → F' a = none := fun {a vs} h1 h2 => by
    cases e : F' a with
    | none => rfl
    | some o =>
      rcases nf a (by rw [e]; simp) with q | q
      · exact absurd h2 q
      · rw [h1] at q; cases q
  -- a slot behind the call
  have slot : ∀ j s, (puts ρ is os)[j]? = some s → SlR K G σ H' F' j s ∧ ∀ a, Ow K H' F' (puts ρ is os) σ j a → Ow K H F ρ σ j a := fun j s hs => by
    by_cases hj : j ∈ is
    · obtain ⟨k, hk, e⟩ := List.mem_iff_getElem.mp hj
      have hk2 : k < as.length := by omega
      have ik : is[k]? = some j := by rw [List.getElem?_eq_getElem hk, e]
      have o := ow k j as[k] ik (List.getElem?_eq_getElem hk2)
      obtain ⟨xs, ox, us, u1, u2, u3⟩ := outs.get (List.getElem?_eq_getElem hk2)
      obtain ⟨⟨ys, q⟩, q2⟩ := id o
      have pa := puts_at (ρ := ρ) nd ik ox ys
      rcases q with q | q
      · have z := pa.1 q
        rw [hs] at z; cases z
        obtain ⟨a, vs, e1, e2, _, e4, e5⟩ := W.sl j _ q
        rw [q2] at e1
        cases e1
        exact ⟨⟨_, us, q2, u1, u2, u3, e5⟩, fun b ob => by
          rcases ob with ob | ⟨t, v, L, o1, _⟩
          · exact .inl ⟨⟨ys, .inl q⟩, ob.2⟩
          · unfold obS at o1
            rw [hs] at o1
            rcases o1 with o1 | o1 <;> cases o1⟩
      · have z := pa.2 q
        rw [hs] at z; cases z
        obtain ⟨a, vs, e1, e2, _, e4, e5⟩ := W.sl j _ q
        rw [q2] at e1
        cases e1
        exact ⟨⟨_, us, q2, u1, u2, u3, e5⟩, fun b ob => by
          rcases ob with ob | ⟨t, v, L, o1, _⟩
          · exact .inl ⟨⟨ys, .inr (.inl q)⟩, ob.2⟩
          · unfold obS at o1
            rw [hs] at o1
            rcases o1 with o1 | o1 <;> cases o1⟩
    · have eq : (puts ρ is os)[j]? = ρ[j]? := puts_ne hj
      rw [eq] at hs
      have na : ∀ {a : Addr}, Ow K H F ρ σ j a → a ∉ as := fun {a} h1 hm => by
        obtain ⟨k, hk, e⟩ := List.mem_iff_getElem.mp hm
        have hk2 : k < is.length := by omega
        have o := ow k is[k] a (List.getElem?_eq_getElem hk2) (by rw [List.getElem?_eq_getElem hk, e])
        have z := W.ap j is[k] a h1 o.to
        exact hj (by rw [z]; exact List.getElem_mem hk2)
      refine ⟨?_, fun a ob => by
        rcases ob with ⟨⟨ys, o1⟩, o2⟩ | ⟨t, v, L, o1, o2, o3, o4⟩
        · rw [eq] at o1
          exact .inl ⟨⟨ys, o1⟩, o2⟩
        · unfold obS at o1
          rw [eq] at o1
          exact (W.ob_same o1 o2 o3 fun b o hb ho => kp b o ho (na hb)).2 a o4⟩
      have q := W.sl j s hs
      cases s with
      | no => trivial
      | xa b dx f => exact ⟨q.1, q.2.mono ff⟩
      | d x => obtain ⟨v, e, r⟩ := q; exact ⟨v, e, r.mono ff⟩
      | ow ys => obtain ⟨a, vs, e, p1, p2, p3, p4⟩ := q; exact ⟨a, vs, e, kp a _ p1 (na (.inl ⟨⟨_, .inl hs⟩, e⟩)), p2.mono ff, fn p1 p3, p4⟩
      | io ys => obtain ⟨a, vs, e, p1, p2, p3, p4⟩ := q; exact ⟨a, vs, e, kp a _ p1 (na (.inl ⟨⟨_, .inr (.inl hs)⟩, e⟩)), p2.mono ff, fn p1 p3, p4⟩
      | dc ys => obtain ⟨a, vs, e, p1, p2, p3, p4⟩ := q; exact ⟨a, vs, e, kp a _ p1 (na (.inl ⟨⟨[], .inr (.inr ⟨ys, hs⟩)⟩, e⟩)), p2.mono ff, fn p1 p3, p4⟩
      | ob t => obtain ⟨v, L, e, r, nd, q⟩ := q; exact ⟨v, L, e, r.frame ff fun b hb o ho => kp b o ho (na (.inr ⟨t, v, L, .inl hs, e, r, hb⟩)), nd, fun b hb => ⟨fn (OtR.there r b hb).choose_spec.1 (q b hb).1, (q b hb).2⟩⟩
      | iob t => obtain ⟨v, L, e, r, nd, q⟩ := q; exact ⟨v, L, e, r.frame ff fun b hb o ho => kp b o ho (na (.inr ⟨t, v, L, .inr hs, e, r, hb⟩)), nd, fun b hb => ⟨fn (OtR.there r b hb).choose_spec.1 (q b hb).1, (q b hb).2⟩⟩
  have oo : ∀ i a, Ow K H' F' (puts ρ is os) σ i a → Ow K H F ρ σ i a := fun i a o => by
    rcases id o with ⟨⟨ys, o1⟩, o2⟩ | ⟨t, v, L, o1, o2, o3, o4⟩
    · rcases o1 with o1 | o1 | ⟨zs, o1⟩
      · exact (slot i _ o1).2 a o
      · exact (slot i _ o1).2 a o
      · exact (slot i _ o1).2 a o
    · rcases o1 with o1 | o1
      · exact (slot i _ o1).2 a o
      · exact (slot i _ o1).2 a o
  refine ⟨⟨⟨by rw [puts_len]; exact W.len, W.gl, sub, W.f0.trans ff, fun b o h q q2 => ?_, fun b h => ?_, fun b h => tr b (W.it b h), fun j s h => (slot j s h).1, fun i j a o1 o2 => W.ap i j a (oo i a o1) (oo j a o2), fun i a z => ?_, fun i a z => ?_⟩, ff, fun b o h n => kp b o h fun hm => ?_, fun b h => (nf b h).elim .inl fun q => .inr (.inl q), fun i a o => .inl (oo i a o), tr⟩, oo⟩
  · refine kp b o (W.kp b o h q q2) fun hm => ?_
    obtain ⟨i, ob⟩ := memO b hm
    obtain ⟨⟨ys, o1⟩, o2⟩ := ob
    rcases o1 with o1 | o1
    · obtain ⟨a, vs, e1, _, _, _, e5⟩ := W.sl i _ o1
      rw [o2] at e1; cases e1
      rw [h] at e5; cases e5
    · obtain ⟨a, vs, e1, _, _, _, e5⟩ := W.sl i _ o1
      rw [o2] at e1; cases e1
      exact q (List.mem_map_of_mem (f := (·.2)) e5)
  · rcases nf b h with q | q
    · exact W.nw b q
    · exact .inr (W.h0 q)
  · obtain ⟨⟨ys, z1⟩, z2⟩ := W.ai i a z
    refine ⟨?_, z2⟩
    by_cases hj : i ∈ is
    · obtain ⟨k, hk, e⟩ := List.mem_iff_getElem.mp hj
      have hk2 : k < as.length := by omega
      obtain ⟨xs, ox, _⟩ := outs.get (List.getElem?_eq_getElem hk2)
      exact ⟨xs, (puts_at nd (by rw [List.getElem?_eq_getElem hk, e]) ox ys).2 z1⟩
    · exact ⟨ys, by rw [puts_ne hj]; exact z1⟩
  · obtain ⟨⟨t, z1⟩, z2⟩ := W.ao i a z
    refine ⟨⟨t, ?_⟩, z2⟩
    rw [puts_ne fun hj => ?_]
    · exact z1
    · obtain ⟨k, hk, e⟩ := List.mem_iff_getElem.mp hj
      have hk2 : k < as.length := by omega
      obtain ⟨⟨ys, o1 | o1⟩, _⟩ := ow k i as[k] (by rw [List.getElem?_eq_getElem hk, e]) (List.getElem?_eq_getElem hk2)
      · rw [z1] at o1; cases o1
      · rw [z1] at o1; cases o1
  · obtain ⟨i, ob⟩ := memO b hm
    exact n i ob.to
theorem after_call {ρ : Rho} {F F' H' : Hp} {is : List Nat} {as : List Addr} {os : List (List D)} (W : Wd K G ρ σ H F) (nd : is.Nodup) (hl : as.length = is.length) (ow : ∀ (k i : Nat) (a : Addr), is[k]? = some i → as[k]? = some a → OwL ρ σ i a)
    (ff : Same F F') (sub : Same F' H') (kp : ∀ b o, H b = some o → b ∉ as → H' b = some o) (nf : ∀ b, F' b ≠ none → F b ≠ none ∨ H b = none) (outs : OutsR K F' H' as os) : Ste K G ρ σ H F (puts ρ is os) H' F' := (after_call2 W nd hl ow ff sub kp nf outs).1
end
section
variable {X : Cx} {e : Expr} {es : List Expr} {ms : M (List Vl)} {f : Fn} {fs : List Bool} {x : Str} {p pos : Pos} {fa : Addr} {fd : FuncData} {ps : List Str} {k n : Nat}
theorem VlSs.len {K : Kx} {σ : L2.St} {F : Hp} : ∀ {vs : List V} {rs : List Vl}, VlSs K σ F vs rs → vs.length = rs.length
  | [], [], _ => rfl
  | [], _ :: _, h => h.elim
  | _ :: _, [], h => h.elim
  | _ :: _, _ :: _, h => by rw [List.length_cons, List.length_cons, VlSs.len h.2]
theorem AgsR.len {K : Kx} {F H : Hp} : ∀ {vs : List V} {gs : List Ag}, AgsR K F H vs gs → vs.length = gs.length
  | [], [], _ => rfl
  | [], .da _ :: _, h => h.elim
  | [], .li _ :: _, h => h.elim
  | _ :: _, [], h => h.elim
  | _ :: _, .da _ :: _, h => by rw [List.length_cons, List.length_cons, AgsR.len h.2]
  | _ :: _, .li _ :: _, h => by rw [List.length_cons, List.length_cons, AgsR.len h.2]
theorem tcall_core {K : Kx} {G : Gd} {ρ ρ' : Rho} {F : Hp} {r0 : Vl} {E : XK} (hn : ∀ gs z, f gs = some z → gs.length = n) {σ : L2.St} {H : Hp} {Q : VK} (W : Wd K G ρ σ H F) (hm : eCall f fs ms ρ = some (r0, ρ'))
    (q : ∀ v H' F', Ste K G ρ σ H F ρ' H' F' → VlR K G H ρ' σ H' F' v r0 → Q v H') : ∃ rs ρ1, ms ρ = some (rs, ρ1) ∧ ∀ vs H1 F1, Ste K G ρ σ H F ρ1 H1 F1 → VlSs K σ F1 vs rs → spF K n f vs H1 Q E := by
  unfold eCall at hm
  obtain ⟨⟨rs, ρ1⟩, e1, hm⟩ := Option.bind_eq_some_iff.mp hm
  obtain ⟨⟨ts, ρ2⟩, e2, hm⟩ := Option.bind_eq_some_iff.mp hm
  obtain ⟨gs, e3, hm⟩ := Option.bind_eq_some_iff.mp hm
  split at hm
  · rename_i nd
    obtain ⟨⟨z, os⟩, e4, hm⟩ := Option.bind_eq_some_iff.mp hm
    refine ⟨rs, ρ1, e1, fun vs H1 F1 s1 R1 => ?_⟩
    obtain ⟨F2, s2, R2⟩ := ag1_ok s1.wd R1 e2
    obtain ⟨A1, A2, A3⟩ := ag2_ok s2.wd R2 e3
    have s12 := s1.trans s2
    refine ⟨by rw [A1.len]; exact hn _ _ e4, F2, gs, z, os, s2.wd.sub, A1, ?_, e4, fun v H' F' ff sub kp nf outs res => ?_⟩
    · rw [List.nodup_iff_pairwise_ne, List.pairwise_iff_getElem]
      intro i j hi hj hij e
      have o1 := A3 i (agI ts)[i] (liA vs gs)[i] (List.getElem?_eq_getElem (by omega)) (List.getElem?_eq_getElem hi)
      have o2 := A3 j (agI ts)[j] (liA vs gs)[j] (List.getElem?_eq_getElem (by omega)) (List.getElem?_eq_getElem hj)
      rw [← e] at o2
      have eq := s2.wd.ap _ _ _ o1.to o2.to
      have := (List.getElem_inj nd).mp eq
      omega
    · obtain ⟨s3, o3⟩ := after_call2 s2.wd nd A2 A3 ff sub kp nf outs
      have s13 := s12.trans s3
      cases z with
      | fz x => cases hm; exact q v H' F' s13 res
      | bw i => cases hm
      | fr xs =>
        cases hm
        obtain ⟨a, us, e5, u1, u2, u3, u4⟩ := res
        refine q v H' F' s13 ⟨a, us, e5, u1, u2, u3, s12.back a u4, fun i o => ?_⟩
        obtain ⟨_, z, _⟩ := s12.wd.ow_there (o3 i a o)
        rw [u4] at z; cases z
  · cases hm
theorem tcall_of {K : Kx} {dvs : List V} {E : XK} (hn : ∀ gs z, f gs = some z → gs.length = n) {σ : L2.St} {H : Hp} {Q : VK} (h : tM K (eCall f fs ms) σ H Q) : tCall (spF K n f) [] E (tMA K ms) σ H Q := by
  obtain ⟨G, ρ, F, r0, ρ', W, hm, q⟩ := h
  obtain ⟨rs, ρ1, e1, w⟩ := tcall_core (E := E) hn W hm q
  exact ⟨G, ρ, F, rs, ρ1, W, e1, fun vs H1 F1 s1 R1 => by show spF K n f (vs ++ []) H1 Q E; rw [List.append_nil]; exact w vs H1 F1 s1 R1⟩
theorem se_call (F : FnOk X.prog X.w X.kx X.mg X.base CX0 k fa fd ps (spF X.kx n f)) (hn : ∀ gs z, f gs = some z → gs.length = n) (hr : Room k X.A) (hm : X.mg x = some (.ref fa)) (hk : PySem.W.keepIn X.kx (.ref fa) = true) (hb : Binds X.kx fd ps []) (hg : Gl X x)
    (ha : SA X (e :: es) ms) (hdb : (x == ("__debug__" : Str)) = false := by decide) (he : starEach (e :: es) X.env = (false, eval e X.env) :: starEach es X.env := by rfl) (hpl : (backTo pos (starEach es X.env)).any (·.1) = false := by rfl) :
    SE X (.Call (.Name x p) (e :: es) [] pos) (eCall f fs ms) := pe_weak (pe_call F hr hg hm hk hb .nil pass0 ha hdb he hpl) fun _ _ _ h => tcall_of (dvs := []) hn h
theorem se_call0 (F : FnOk X.prog X.w X.kx X.mg X.base CX0 k fa fd ps (spF X.kx n f)) (hn : ∀ gs z, f gs = some z → gs.length = n) (hr : Room k X.A) (hm : X.mg x = some (.ref fa)) (hk : PySem.W.keepIn X.kx (.ref fa) = true) (hb : Binds X.kx fd ps []) (hg : Gl X x)
    (hdb : (x == ("__debug__" : Str)) = false := by decide) : SE X (.Call (.Name x p) [] [] pos) (eCall f fs aNil) := pe_weak (pe_call0 F hr hg hm hk hb .nil pass0 hdb) fun σ H Q h => by
  obtain ⟨G, ρ, F, r, ρ', W, hm, q⟩ := tcall_of (dvs := []) (E := E0) hn h
  cases hm
  exact q [] H F (Ste.refl W) trivial
end
end Sw
namespace Sw
open PySem PySem.Spec PyProof.Rows L2
/-- an exception of a class of the program: its class by name, its one field (none: without a dict of its own) -/
structure Exn where
  c : PySem.Str
  f : Option (PySem.Str × D)
noncomputable def ExR (K : Kx) (F : Hp) (cls : Value) (d : Option Addr) (x : Exn) : Prop := ∃ C, ClsN K x.c C ∧ cls = .ref C ∧ (x.f = none → d = none) ∧ (x.f ≠ none → ∃ dx, d = some dx ∧ XaR K F dx x.f)
inductive Fl where
  | nx | rt (v : Vl) | bk | ct
  /-- an exception goes out -/
  | ex (x : Exn)
noncomputable abbrev S := Rho → Option (Fl × Rho)
/-- what is wanted of an exception that goes out: nothing is promised -/
noncomputable def WF : WX := fun _ _ _ _ => False
noncomputable def EdR (K : Kx) (Wx : WX) (G : Gd) (D : Ends) (fl : Fl) (ρ' : Rho) (F : Hp) : Prop := ∀ (σ' : L2.St) (H' F' : Hp), Wd K G ρ' σ' H' F' → Same F F' → match fl with
  | .nx => D.nx σ' H'
  | .bk => D.bk σ' H'
  | .ct => D.ct σ' H'
  | .rt r => ∀ v, ResR K G.H0 F' H' v r → D.rt v H'
  | .ex x => ∀ cls d, ExR K F' cls d x → Wx cls d σ' H'
noncomputable def tSW (K : Kx) (Wx : WX) (m : S) : TS := fun D σ H => ∃ G ρ F fl ρ', Wd K G ρ σ H F ∧ m ρ = some (fl, ρ') ∧ EdR K Wx G D fl ρ' F
noncomputable abbrev SSW (X : Cx) (Wx : WX) (st : Stmt) (m : S) : Prop := PS X st (tSW X.kx Wx m)
noncomputable abbrev SBW (X : Cx) (Wx : WX) (st : List Stmt) (m : S) : Prop := PSs X st (tSW X.kx Wx m)
noncomputable abbrev SB (X : Cx) (st : List Stmt) (m : S) : Prop := SBW X WF st m
theorem ps_weak {X : Cx} {st : Stmt} {t t' : TS} (h : PS X st t) (w : ∀ D σ H, t' D σ H → t D σ H) : PS X st t' := ⟨fun pins s σ H D I q => h.run pins s σ H D I (w _ _ _ q)⟩
theorem pss_weak {X : Cx} {st : List Stmt} {t t' : TS} (h : PSs X st t) (w : ∀ D σ H, t' D σ H → t D σ H) : PSs X st t' := ⟨fun pins s σ H D I q => h.run pins s σ H D I (w _ _ _ q)⟩
noncomputable def sNx : S := fun ρ => some (.nx, ρ)
noncomputable def sSeq (a b : S) : S := fun ρ => (a ρ).bind fun p => match p.1 with
  | .nx => b p.2
  | fl => some (fl, p.2)
noncomputable def sIf (t : M Bool) (a b : S) : S := fun ρ => (t ρ).bind fun p => if p.1 = true then a p.2 else b p.2
noncomputable def sRet (m : M Vl) : S := fun ρ => (m ρ).bind fun p => match p.1 with
  | .bw i => match p.2[i]? with
    | some (.ow xs) => some (.rt (.fr xs), p.2)
    | _ => none
  | r => some (.rt r, p.2)
noncomputable def sDrop (m : M Vl) : S := fun ρ => (m ρ).bind fun p => some (.nx, p.2)
/-- a name's slot takes a value -/
noncomputable def asg (i : Nat) (r : Vl) (ρ : Rho) : Option Rho := match ρ[i]? with
  | some (.io _) => none
  | some (.iob _) => none
  | none => none
  | some _ => match r with
    | .fz x => some (ρ.set i (.d x))
    | .fr xs => some (ρ.set i (.ow xs))
    | .bw j => (frz ρ (.bw j)).bind fun p => some (p.2.set i (.d p.1))
noncomputable def sAsg (i : Nat) (m : M Vl) : S := fun ρ => (m ρ).bind fun p => (asg i p.1 p.2).bind fun ρ2 => some (.nx, ρ2)
section
variable {K : Kx} {G : Gd} {ρ : Rho} {σ : L2.St} {H F : Hp} {v : V}
theorem Wd.set {i : Nat} {s s0 : Sl} (W : Wd K G ρ σ H F) (h0 : ρ[i]? = some s0) (nio : ∀ xs, s0 ≠ .io xs) (nio2 : ∀ xs, s ≠ .io xs) (hs : SlR K G (σ.set i (some v)) H F i s) (ap : ∀ xs a, s = .ow xs → v = .ref a → ∀ j, ¬ Ow K H F ρ σ j a) (ndc : ∀ xs a, s = .dc xs → v = .ref a → ∀ j, ¬ Ow K H F ρ σ j a := by intro _ _ z; cases z)
    (nob : ∀ t L b, s = .ob t → OtR K H F v t L → b ∈ L → ∀ j, j ≠ i → ¬ Ow K H F ρ σ j b := by intro _ _ _ z; cases z) (nob2 : ∀ t, s ≠ .iob t := by intro _ z; cases z) (nob0 : ∀ t, s0 ≠ .iob t := by intro _ z; cases z) : Wd K G (ρ.set i s) (σ.set i (some v)) H F := by
  have hi : i < ρ.length := (List.getElem?_eq_some_iff.mp h0).1
  have hiσ : i < σ.length := by rw [← W.len]; exact hi
  have old : ∀ {j : Nat} {a : Addr}, j ≠ i → Ow K H F (ρ.set i s) (σ.set i (some v)) j a → Ow K H F ρ σ j a := fun {j a} ne o => by
    rcases o with ⟨⟨ys, o1⟩, o2⟩ | ⟨t, u, L, o1, o2, o3, o4⟩
    · rw [List.getElem?_set_ne (Ne.symm ne)] at o1 o2
      exact .inl ⟨⟨ys, o1⟩, o2⟩
    · unfold obS at o1
      rw [List.getElem?_set_ne (Ne.symm ne)] at o1 o2
      exact .inr ⟨t, u, L, o1, o2, o3, o4⟩
  have new : ∀ {a : Addr}, Ow K H F (ρ.set i s) (σ.set i (some v)) i a → ∀ j, j ≠ i → ¬ Ow K H F ρ σ j a := fun {a} o => by
    rcases o with ⟨⟨ys, o1⟩, o2⟩ | ⟨t, u, L, o1, o2, o3, o4⟩
    · rw [List.getElem?_set_self hi] at o1
      rw [List.getElem?_set_self hiσ] at o2
      cases o2
      rcases o1 with o1 | o1 | ⟨zs, o1⟩
      · cases o1; exact fun j _ => ap ys a rfl rfl j
      · cases o1; exact absurd rfl (nio2 ys)
      · cases o1; exact fun j _ => ndc zs a rfl rfl j
    · unfold obS at o1
      rw [List.getElem?_set_self hi] at o1
      rw [List.getElem?_set_self hiσ] at o2
      cases o2
      rcases o1 with o1 | o1
      · cases o1; exact nob t L a rfl o3 o4
      · cases o1; exact absurd rfl (nob2 t)
  refine ⟨by rw [List.length_set, List.length_set]; exact W.len, by rw [List.length_set]; exact W.gl, W.sub, W.f0, W.kp, W.nw, W.it, fun j s' h => ?_, fun j k a o1 o2 => ?_, fun j a z => ?_, fun j a z => ?_⟩
  · by_cases ne : j = i
    · subst ne
      rw [List.getElem?_set_self hi] at h
      cases h
      exact hs
    · rw [List.getElem?_set_ne (Ne.symm ne)] at h
      have q := W.sl j s' h
      have eσ : (σ.set i (some v))[j]? = σ[j]? := List.getElem?_set_ne (Ne.symm ne)
      cases s' with
      | no => trivial
      | xa b dx f => exact ⟨eσ.trans q.1, q.2⟩
      | d x => obtain ⟨u, e, r⟩ := q; exact ⟨u, eσ.trans e, r⟩
      | ow ys => obtain ⟨a, us, e, p⟩ := q; exact ⟨a, us, eσ.trans e, p⟩
      | io ys => obtain ⟨a, us, e, p⟩ := q; exact ⟨a, us, eσ.trans e, p⟩
      | dc ys => obtain ⟨a, us, e, p⟩ := q; exact ⟨a, us, eσ.trans e, p⟩
      | ob t => obtain ⟨u, L, e, p⟩ := q; exact ⟨u, L, eσ.trans e, p⟩
      | iob t => obtain ⟨u, L, e, p⟩ := q; exact ⟨u, L, eσ.trans e, p⟩
  · by_cases nj : j = i
    · by_cases nk : k = i
      · rw [nj, nk]
      · rw [nj] at o1
        exact absurd (old nk o2) (new o1 k nk)
    · by_cases nk : k = i
      · rw [nk] at o2
        exact absurd (old nj o1) (new o2 j nj)
      · exact W.ap j k a (old nj o1) (old nk o2)
  · obtain ⟨⟨ys, z1⟩, z2⟩ := W.ai j a z
    have ne : j ≠ i := fun e => by
      rw [e, h0] at z1
      cases z1
      exact nio ys rfl
    exact ⟨⟨ys, by rw [List.getElem?_set_ne (Ne.symm ne)]; exact z1⟩, by rw [List.getElem?_set_ne (Ne.symm ne)]; exact z2⟩
  · obtain ⟨⟨ys, z1⟩, z2⟩ := W.ao j a z
    have ne : j ≠ i := fun e => by
      rw [e, h0] at z1
      cases z1
      exact nob0 ys rfl
    exact ⟨⟨ys, by rw [List.getElem?_set_ne (Ne.symm ne)]; exact z1⟩, by rw [List.getElem?_set_ne (Ne.symm ne)]; exact z2⟩
theorem asg_ok {i : Nat} {r : Vl} {ρ' : Rho} {P : Hp} (W : Wd K G ρ σ H F) (hP : ∀ a, P a = none → G.H0 a = none) (R : VlR K G P ρ σ H F v r) (e : asg i r ρ = some ρ') : ∃ F', Wd K G ρ' (σ.set i (some v)) H F' ∧ Same F F' := by
  unfold asg at e
  split at e
  · cases e
  · cases e
  · cases e
  · rename_i s0 nio niob h0
    have hi : i < ρ.length := (List.getElem?_eq_some_iff.mp h0).1
    have hiσ : i < σ.length := by rw [← W.len]; exact hi
    have self : (σ.set i (some v))[i]? = some (some v) := List.getElem?_set_self hiσ
    have nio : ∀ xs, s0 ≠ .io xs := fun xs z => nio xs z
    have niob : ∀ t, s0 ≠ .iob t := fun xs z => niob xs z
    cases r with
    | fz x =>
      cases e
      exact ⟨F, W.set h0 nio (fun _ z => nomatch z) ⟨v, self, R⟩ (fun _ _ z => nomatch z) (nob0 := niob), Same.refl _⟩
    | fr xs =>
      cases e
      obtain ⟨a, vs, rfl, h1, h2, h3, h4, h5⟩ := R
      exact ⟨F, W.set h0 nio (fun _ z => nomatch z) ⟨a, vs, self, h1, h2, h3, hP a h4⟩ (fun ys b _ z => by cases z; exact h5) (nob0 := niob), Same.refl _⟩
    | bw j =>
      obtain ⟨⟨x, ρ1⟩, e1, e⟩ := Option.bind_eq_some_iff.mp e
      cases e
      obtain ⟨F1, s1, R1⟩ := frz_ok W (v := v) (r := .bw j) R e1
      have h0' : ∃ s1, ρ1[i]? = some s1 ∧ (∀ xs, s1 ≠ .io xs) ∧ ∀ t, s1 ≠ .iob t := by
        simp only [frz] at e1
        split at e1
        · simp at e1
          obtain ⟨rfl, rfl⟩ := e1
          by_cases q : i = j
          · subst q
            exact ⟨_, List.getElem?_set_self hi, (fun _ z => nomatch z), (fun _ z => nomatch z)⟩
          · exact ⟨s0, by rw [List.getElem?_set_ne (Ne.symm q)]; exact h0, nio, niob⟩
        · cases e1
      obtain ⟨s', hs', nio', niob'⟩ := h0'
      exact ⟨F1, s1.wd.set hs' nio' (fun _ z => nomatch z) ⟨v, self, R1⟩ (fun _ _ z => nomatch z) (nob0 := niob'), s1.ff⟩
theorem asg_fz {i : Nat} {x : D} {ρ' : Rho} (W : Wd K G ρ σ H F) (R : Rep K F v x) (e : asg i (.fz x) ρ = some ρ') : Wd K G ρ' (σ.set i (some v)) H F := by
  unfold asg at e
  split at e
  · cases e
  · cases e
  · cases e
  · rename_i s0 nio niob h0
    have hi : i < ρ.length := (List.getElem?_eq_some_iff.mp h0).1
    have hiσ : i < σ.length := by rw [← W.len]; exact hi
    cases e
    exact W.set h0 (fun xs z => nio xs z) (fun _ z => nomatch z) ⟨v, List.getElem?_set_self hiσ, R⟩ (fun _ _ z => nomatch z) (nob0 := fun xs z => niob xs z)
end
section
variable {X : Cx} {Wx : WX} {st : Stmt} {rest : List Stmt} {m m1 m2 : S} {e c : Expr} {me : M Vl} {mt : M Bool} {pos : Pos}
theorem sb_nil : SBW X Wx [] sNx := pss_weak pss_nil fun D σ H ⟨G, ρ, F, fl, ρ', W, hm, q⟩ => by
  cases hm
  exact q σ H F W (Same.refl _)
theorem sb_one (h : SSW X Wx st m) : SBW X Wx [st] m := pss_one h
theorem sb_cons (h1 : SSW X Wx st m1) (h2 : SBW X Wx rest m2) : SBW X Wx (st :: rest) (sSeq m1 m2) := by
  refine pss_weak (pss_cons h1 h2) fun D σ H ⟨G, ρ, F, fl, ρ', W, hm, q⟩ => ?_
  unfold sSeq at hm
  obtain ⟨⟨f1, ρ1⟩, e1, hm⟩ := Option.bind_eq_some_iff.mp hm
  refine ⟨G, ρ, F, f1, ρ1, W, e1, fun σ' H' F' W' ff => ?_⟩
  cases f1 with
  | nx => exact ⟨G, ρ1, F', fl, ρ', W', hm, fun σ2 H2 F2 W2 f2 => q σ2 H2 F2 W2 (ff.trans f2)⟩
  | bk => cases hm; exact q σ' H' F' W' ff
  | ct => cases hm; exact q σ' H' F' W' ff
  | rt r => cases hm; exact q σ' H' F' W' ff
  | ex x => cases hm; exact q σ' H' F' W' ff
theorem ss_if {a b : List Stmt} (hc : ST X c mt) (ha : SBW X Wx a m1) (hb : SBW X Wx b m2) : SSW X Wx (.If c a b pos) (sIf mt m1 m2) := by
  refine ps_weak (ps_if hc ha hb) fun D σ H ⟨G, ρ, F, fl, ρ', W, hm, q⟩ => ?_
  unfold sIf at hm
  obtain ⟨⟨x, ρ1⟩, e1, hm⟩ := Option.bind_eq_some_iff.mp hm
  refine tmt_use W e1 fun H1 F1 s1 => ?_
  cases x with
  | true => simp only [if_true] at hm ⊢; exact ⟨G, ρ1, F1, fl, ρ', s1.wd, hm, fun σ2 H2 F2 W2 f2 => q σ2 H2 F2 W2 (s1.ff.trans f2)⟩
  | false => simp at hm ⊢; exact ⟨G, ρ1, F1, fl, ρ', s1.wd, hm, fun σ2 H2 F2 W2 f2 => q σ2 H2 F2 W2 (s1.ff.trans f2)⟩
theorem ss_ret (h : SE X e me) : SSW X Wx (.Return (some e) pos) (sRet me) := by
  refine ps_weak (ps_ret h) fun D σ H ⟨G, ρ, F, fl, ρ', W, hm, q⟩ => ?_
  unfold sRet at hm
  obtain ⟨⟨r, ρ1⟩, e1, hm⟩ := Option.bind_eq_some_iff.mp hm
  refine ⟨G, ρ, F, r, ρ1, W, e1, fun v H1 F1 s1 R => ?_⟩
  cases r with
  | fz x => cases hm; exact q σ H1 F1 s1.wd s1.ff v R
  | fr xs =>
    cases hm
    obtain ⟨a, vs, e, h1, h2, h3, h4, _⟩ := R
    exact q σ H1 F1 s1.wd s1.ff v ⟨a, vs, e, h1, h2, h3, W.h0 h4⟩
  | bw i =>
    have R : σ[i]? = some (some v) := R
    dsimp only at hm
    split at hm
    · rename_i xs hx
      cases hm
      obtain ⟨a, vs, e2, h1, h2, h3, h4⟩ := s1.wd.sl i _ hx
      rw [R] at e2; cases e2
      exact q σ H1 F1 s1.wd s1.ff _ ⟨a, vs, rfl, h1, h2, h3, h4⟩
    · cases hm
/-- what stores into a slot, as it was made -/
theorem sasg_of {K : Kx} {i : Nat} {D : Ends} {σ : L2.St} {H : Hp} (h : tSW K Wx (sAsg i me) D σ H) : tAsg (tM K me) (gName i) D σ H := by
  obtain ⟨G, ρ, F, fl, ρ', W, hm, q⟩ := h
  unfold sAsg at hm
  obtain ⟨⟨r, ρ1⟩, e1, hm⟩ := Option.bind_eq_some_iff.mp hm
  obtain ⟨ρ2, e2, hm⟩ := Option.bind_eq_some_iff.mp hm
  cases hm
  refine ⟨G, ρ, F, r, ρ1, W, e1, fun v H1 F1 s1 R => ?_⟩
  obtain ⟨F2, W2, f2⟩ := asg_ok s1.wd (fun a h => W.h0 h) R e2
  exact q (σ.set i (some v)) H1 F2 W2 (s1.ff.trans f2)
theorem ss_set {i : Nat} {x : Str} {pos' : Pos} (hN : X.N.Nodup) (hi : X.N[i]? = some x) (hx : Loc X.env.scope x) (he : SE X e me) (hs : swapsWith e (some (.Name x pos')) pos.line X.env = pure false := by rfl) (hf : X.fn x = true ∨ X.env.scope.names.lookup x = some .local := by first | exact .inl rfl | exact .inr rfl | assumption) :
    SSW X Wx (.Assign [.Name x pos'] e pos) (sAsg i me) := ps_weak (ps_set hN hi hx he hs hf) fun _ _ _ h => sasg_of h
noncomputable def sApp (i : Nat) (m : M Vl) : S := fun ρ => (own? ρ i).bind fun _ => (m ρ).bind fun p => (frz p.2 (stl p.1)).bind fun q => (own? q.2 i).bind fun xs => if xs.length < lim then some (.nx, put q.2 i (xs ++ [q.1])) else none
theorem Wd.own_at' {K : Kx} {G : Gd} {ρ : Rho} {σ : L2.St} {H F : Hp} {i : Nat} {xs : List D} (W : Wd K G ρ σ H F) (h : own? ρ i = some xs) : ∃ a, σ[i]? = some (some (.ref a)) ∧ ∃ vs, H a = some (.lst vs) ∧ Reps K F vs xs := by
  rcases own_sl h with q | q
  · obtain ⟨b, vs, e, p1, p2, _⟩ := W.sl i _ q
    exact ⟨b, e, vs, p1, p2⟩
  · obtain ⟨b, vs, e, p1, p2, _⟩ := W.sl i _ q
    exact ⟨b, e, vs, p1, p2⟩
theorem Wd.own_at {K : Kx} {G : Gd} {ρ : Rho} {σ : L2.St} {H F : Hp} {i : Nat} {xs : List D} (W : Wd K G ρ σ H F) (h : own? ρ i = some xs) : ∃ a, σ[i]? = some (some (.ref a)) ∧ ∃ vs, H a = some (.lst vs) :=
  let ⟨a, h1, vs, h2, _⟩ := W.own_at' h
  ⟨a, h1, vs, h2⟩
theorem Wd.put {K : Kx} {G : Gd} {ρ : Rho} {σ : L2.St} {H F : Hp} {i : Nat} {a : Addr} {us : List V} {xs ys : List D} (W : Wd K G ρ σ H F) (h : own? ρ i = some xs) (ha : σ[i]? = some (some (.ref a))) (r : Reps K F us ys) : Wd K G (put ρ i ys) σ (upd H a (.lst us)) F ∧ ∃ vs, H a = some (.lst vs) ∧ Reps K F vs xs := by
  have sl := own_sl h
  have o : OwL ρ σ i a := ⟨⟨xs, sl⟩, ha⟩
  obtain ⟨vs0, h1, h2⟩ := W.ow_there o.to
  have hv : ∃ vs, H a = some (.lst vs) ∧ Reps K F vs xs := by
    rcases sl with q | q
    · obtain ⟨b, vs, e, p1, p2, _⟩ := W.sl i _ q
      rw [ha] at e; cases e
      exact ⟨vs, p1, p2⟩
    · obtain ⟨b, vs, e, p1, p2, _⟩ := W.sl i _ q
      rw [ha] at e; cases e
      exact ⟨vs, p1, p2⟩
  have s := after_call (K := K) (G := G) (σ := σ) (H := H) (ρ := ρ) (F := F) (F' := F) (H' := upd H a (.lst us)) (is := [i]) (as := [a]) (os := [ys]) W (by simp) rfl (fun k j b e1 e2 => by
    cases k with
    | zero => simp at e1 e2; subst e1; subst e2; exact o
    | succ k => simp at e1) (Same.refl _) (fun b x e => by
      have nb : b ≠ a := fun z => by rw [z, h2] at e; cases e
      rw [upd_ne nb]; exact W.sub _ _ e) (fun b x e n => by
      have nb : b ≠ a := fun z => n (by rw [z]; exact List.mem_cons_self)
      rw [upd_ne nb]; exact e) (fun _ h => .inl h) ⟨⟨us, upd_same, r, h2⟩, trivial⟩
  exact ⟨s.wd, hv⟩
theorem ss_app {i : Nat} {o : Expr} {apos cpos : Pos} (ho : PE X o (tVar i)) (he : SE X e me)
    (hbase : attributeBase o "append" X.env (eval o X.env) = eval o X.env := by rfl)
    (hfew : ((backTo cpos (starEach [e] X.env)).all (fun x => !x.1) && (backToKw cpos (keywordEach [] X.env)).all (fun x => x.1.isSome)
      && decide ([e].length + ([] : List Keyword).length + (if ([] : List Keyword).isEmpty then 0 else 1) < 30)) = true := by rfl)
    (hline : (apos.endLine == cpos.line) = true := by rfl) (hst : starEach [e] X.env = (false, eval e X.env) :: starEach [] X.env := by rfl) (hplain : (backTo cpos (starEach [] X.env)).any (·.1) = false := by rfl)
    (hs : swapsWith (.Call (.Attribute o "append" apos) [e] [] cpos) none pos.line X.env = pure false := by rfl) :
    SSW X Wx (.Expr (.Call (.Attribute o "append" apos) [e] [] cpos) pos) (sApp i me) := by
  refine ps_weak (ps_expr (pe_bm PySem.F.plainAttrs_list PySem.F.slot_list_append PySem.F.type_list_append mt_append ho (pa_cons he pa_nil hst) hbase hfew hline hst hplain) hs) fun D σ H ⟨G, ρ, F, fl, ρ', W, hm, q⟩ => ?_
  unfold sApp at hm
  obtain ⟨xs0, e0, hm⟩ := Option.bind_eq_some_iff.mp hm
  obtain ⟨⟨r, ρ1⟩, e1, hm⟩ := Option.bind_eq_some_iff.mp hm
  obtain ⟨⟨x, ρ2⟩, e2, hm⟩ := Option.bind_eq_some_iff.mp hm
  obtain ⟨xs, e3, hm⟩ := Option.bind_eq_some_iff.mp hm
  obtain ⟨a, ha, vs0, hv0⟩ := W.own_at e0
  split at hm
  · rename_i hl
    cases hm
    refine ⟨.ref a, ha, .inl ⟨rfl, _, SqL.of hv0⟩, ?_⟩
    refine tm_use W e1 fun v H1 F1 s1 R1 => ?_
    obtain ⟨F2, s2, R2⟩ := frz_ok s1.wd R1 e2
    obtain ⟨b, hb, us, hu, ru⟩ := s2.wd.own_at' e3
    rw [ha] at hb; cases hb
    obtain ⟨W3, _⟩ := s2.wd.put (a := a) e3 ha (ru.append (.cons R2 .nil))
    exact ⟨a, us, v, rfl, rfl, hu, lim_lt (by rw [ru.len]; exact hl), q σ _ F2 W3 (s1.ff.trans s2.ff)⟩
  · cases hm
noncomputable def sSetI (i : Nat) (mi mv : M Vl) : S := fun ρ => (mv ρ).bind fun p => (frz p.2 (stl p.1)).bind fun p1 => (own? p1.2 i).bind fun _ => (mi p1.2).bind fun p2 => match p2.1 with
  | .fz (.int k) => (own? p2.2 i).bind fun xs => (ixN xs.length k).bind fun j => some (.nx, put p2.2 i (xs.set j p1.1))
  | _ => none
theorem ss_seti {i : Nat} {o ei : Expr} {mi mv : M Vl} {spos : Pos} (ho : PE X o (tVar i)) (hi : SE X ei mi) (hv : SE X e mv)
    (ha : ∀ v, assign (.Subscript o ei spos) X.env v = (do
      let ov ← holding [v] (eval o X.env)
      let iv ← holding [v, ov] (eval ei X.env)
      standAt spos
      holding [v, ov, iv] (setItem ov iv v)
      release [v, ov, iv] []) := by intro _; rfl)
    (hs : swapsWithSole [.Subscript o ei spos] e pos.line X.env = pure false := by rfl) (hw : swappedStores [.Subscript o ei spos] e X.env = pure none := by rfl)
    (h1 : (assignEach [.Subscript o ei spos] X.env).map (·.2) = [assign (.Subscript o ei spos) X.env] := by rfl) :
    SSW X Wx (.Assign [.Subscript o ei spos] e pos) (sSetI i mi mv) := by
  refine ps_weak (ps_asg hv (pg_sub ho hi set_list ha) hs hw h1) fun D σ H ⟨G, ρ, F, fl, ρ', W, hm, q⟩ => ?_
  unfold sSetI at hm
  obtain ⟨⟨r, ρ1⟩, e1, hm⟩ := Option.bind_eq_some_iff.mp hm
  obtain ⟨⟨x, ρ2⟩, e2, hm⟩ := Option.bind_eq_some_iff.mp hm
  obtain ⟨xs0, e0, hm⟩ := Option.bind_eq_some_iff.mp hm
  obtain ⟨⟨y, ρ3⟩, e3, hm⟩ := Option.bind_eq_some_iff.mp hm
  refine tm_use W e1 fun v H1 F1 s1 R1 => ?_
  obtain ⟨F2, s2, R2⟩ := frz_ok s1.wd R1 e2
  obtain ⟨a, ha, _⟩ := s2.wd.own_at e0
  refine ⟨.ref a, ha, ?_⟩
  refine tm_use s2.wd e3 fun u H3 F3 s3 R3 => ?_
  split at hm
  · rename_i k hk
    dsimp only at hk
    subst hk
    obtain ⟨xs, e4, hm⟩ := Option.bind_eq_some_iff.mp hm
    obtain ⟨j, e5, hm⟩ := Option.bind_eq_some_iff.mp hm
    cases hm
    cases (show Rep X.kx F3 u (.int k) from R3)
    obtain ⟨b, hb, us, hu, ru⟩ := s3.wd.own_at' e4
    rw [ha] at hb; cases hb
    obtain ⟨W4, _⟩ := s3.wd.put (a := a) e4 ha (Reps.set (R2.mono s3.ff) j ru)
    exact ⟨a, us, k, j, rfl, rfl, hu, by rw [ru.len]; exact e5, q σ _ F3 W4 ((s1.ff.trans s2.ff).trans s3.ff)⟩
  · cases hm
end
end Sw
namespace Sw
open PySem PySem.Spec PyProof.Rows L2
noncomputable def Mod' (is : List Nat) (σ σ' : L2.St) : Prop := σ'.length = σ.length ∧ ∀ j : Nat, j ∉ is → σ'[j]? = σ[j]?
noncomputable def tG (K : Kx) (is : List Nat) (g : D → Rho → Option Rho) : TG := fun v σ H Q => ∃ G ρ F x ρ', Wd K G ρ σ H F ∧ Rep K F v x ∧ g x ρ = some ρ' ∧ ∀ σ', Wd K G ρ' σ' H F → Mod' is σ σ' → Q σ' H
noncomputable abbrev SG (X : Cx) (tg : Expr) (is : List Nat) (g : D → Rho → Option Rho) : Prop := PG X tg (tG X.kx is g)
theorem pg_weak {X : Cx} {e : Expr} {t t' : TG} (h : PG X e t) (w : ∀ v σ H Q, t' v σ H Q → t v σ H Q) : PG X e t' := ⟨fun pins s σ H v u Q I r q => h.run pins s σ H v u Q I r (w _ _ _ _ q)⟩
noncomputable def gN (i : Nat) : D → Rho → Option Rho := fun x ρ => asg i (.fz x) ρ
theorem Mod'.set {σ : L2.St} (i : Nat) (v : Option V) : Mod' [i] σ (σ.set i v) := ⟨by rw [List.length_set], fun j h => List.getElem?_set_ne (fun z => h (by rw [z]; exact List.mem_cons_self))⟩
theorem Mod'.trans {is js : List Nat} {σ σ1 σ2 : L2.St} (a : Mod' is σ σ1) (b : Mod' js σ1 σ2) : Mod' (is ++ js) σ σ2 := ⟨b.1.trans a.1, fun j h => (b.2 j fun z => h (List.mem_append_right _ z)).trans (a.2 j fun z => h (List.mem_append_left _ z))⟩
section
variable {X : Cx} {pos : Pos}
theorem sg_name {i : Nat} {x : Str} (hN : X.N.Nodup) (hi : X.N[i]? = some x) (hx : Loc X.env.scope x) (hf : X.fn x = true ∨ X.env.scope.names.lookup x = some .local := by first | exact .inl rfl | exact .inr rfl | assumption) : SG X (.Name x pos) [i] (gN i) := by
  refine pg_weak (pg_name hN hi hx hf) fun v σ H Q ⟨G, ρ, F, y, ρ', W, R, e, q⟩ => ?_
  exact q _ (asg_fz W R e) (Mod'.set i _)
/-- a, b = e -/
noncomputable def sAsgT (m : M Vl) (g : D → Rho → Option Rho) : S := fun ρ => (m ρ).bind fun p => match p.1 with
  | .fz x => (g x p.2).bind fun ρ2 => some (.nx, ρ2)
  | _ => none
end
structure JR (K : Kx) (J : It) (F : Hp) (xs : List D) : Prop where
  go : ∀ i H, Same F H → i < xs.length → J.go i H
  yl : ∀ i H F1 x H', i < xs.length → Same F F1 → Same F1 H → J.yld i H x H' → ∃ F2 d, Alc F1 H F2 H' ∧ xs[i]? = some d ∧ Rep K F2 x d
  st : ∀ i H, Same F H → xs.length ≤ i → J.stop i H
noncomputable def tI (K : Kx) (m : M (List D)) : TI := fun σ H R => ∃ G ρ F xs ρ', Wd K G ρ σ H F ∧ m ρ = some (xs, ρ') ∧ ∀ J H' F', Ste K G ρ σ H F ρ' H' F' → JR K J F' xs → R J H'
noncomputable abbrev SI (X : Cx) (tg iter : Expr) (m : M (List D)) : Prop := PI X tg iter (tI X.kx m)
theorem pi_weak {X : Cx} {tg e : Expr} {t t' : TI} (h : PI X tg e t) (w : ∀ σ H R, t' σ H R → t σ H R) : PI X tg e t' := ⟨fun pins s σ H R I q => h.run pins s σ H R I (w _ _ _ q)⟩
theorem pi_or {X : Cx} {tg e : Expr} {t t' : TI} (h : PI X tg e t) (h' : PI X tg e t') : PI X tg e (fun σ H R => t σ H R ∨ t' σ H R) := ⟨fun pins s σ H R I q => q.elim (h.run pins s σ H R I) (h'.run pins s σ H R I)⟩
noncomputable def itemsOf : D → Option (List D)
  | .lst xs => some xs
  | .tup xs => some xs
  | .str s => some (s.map fun c => .str [c])
  | .scr ns => some (ns.map .int)
  | _ => none
noncomputable def iSq (m : M Vl) : M (List D) := fun ρ => (m ρ).bind fun p => (frz p.2 (stl p.1)).bind fun q => (itemsOf q.1).bind fun xs => some (xs, q.2)
theorem Reps.ints {K : Kx} {F : Hp} : ∀ ns : List Int, Reps K F (ns.map V.int) (ns.map D.int)
  | [] => .nil
  | n :: ns => .cons (.int n) (Reps.ints ns)
theorem jr_list {K : Kx} {F : Hp} {a : Addr} {vs : List V} {xs : List D} (h : SqL K F a vs) (r : Reps K F vs xs) : JR K (Itl K a) F xs where
  go := fun i H s hi => ⟨vs, vs[i]'(by rw [r.len]; exact hi), s.seq h, List.getElem?_eq_getElem _⟩
  yl := fun i H F1 x H' hi s1 s2 y => by
    obtain ⟨rfl, y⟩ := y
    have e := y vs (s2.seq (s1.seq h))
    obtain ⟨d, h1, h2⟩ := r.get e
    exact ⟨F1, d, Alc.refl s2, h1, h2.mono s1⟩
  st := fun i H s hi => ⟨vs, s.seq h, by rw [r.len]; exact hi⟩
theorem jr_tup {K : Kx} {F : Hp} {a : Addr} {vs : List V} {xs : List D} (h : SqT K F a vs) (r : Reps K F vs xs) : JR K (Itt K a) F xs where
  go := fun i H s hi => ⟨vs, vs[i]'(by rw [r.len]; exact hi), same_t s h, List.getElem?_eq_getElem _⟩
  yl := fun i H F1 x H' hi s1 s2 y => by
    obtain ⟨rfl, y⟩ := y
    have e := y vs (same_t s2 (same_t s1 h))
    obtain ⟨d, h1, h2⟩ := r.get e
    exact ⟨F1, d, Alc.refl s2, h1, h2.mono s1⟩
  st := fun i H s hi => ⟨vs, same_t s h, by rw [r.len]; exact hi⟩
theorem jr_str {K : Kx} {F : Hp} (s : List Nat) : JR K (Its ⟨s.toArray⟩) F (s.map fun c => .str [c]) where
  go := fun i H _ hi => by
    show i < (⟨s.toArray⟩ : Str).cps.size
    simpa using hi
  yl := fun i H F1 x H' hi s1 s2 y => by
    obtain ⟨rfl, c, e, rfl⟩ := y
    refine ⟨F1, .str [c], Alc.refl s2, ?_, .str [c]⟩
    have e : s[i]? = some c := by simpa using e
    rw [List.getElem?_map, e]
    rfl
  st := fun i H _ hi => by
    show (⟨s.toArray⟩ : Str).cps.size ≤ i
    simpa using hi
theorem jr_rng {K : Kx} {F : Hp} (lo : Int) (n : Nat) : JR K (Itr lo n) F ((List.range n).map fun (i : Nat) => .int (lo + (i : Int))) where
  go := fun i H _ hi => by
    show i < n
    simpa using hi
  yl := fun i H F1 x H' hi s1 s2 y => by
    obtain ⟨rfl, rfl⟩ := y
    have hi : i < n := by simpa using hi
    exact ⟨F1, .int (lo + (i : Int)), Alc.refl s2, by rw [List.getElem?_map, List.getElem?_range hi]; rfl, .int _⟩
  st := fun i H _ hi => by
    show n ≤ i
    simpa using hi
section
variable {X : Cx} {tg e : Expr} {me : M Vl} {pos p : Pos}
theorem si_seq (h : SE X e me) : SI X tg e (iSq me) := by
  refine pi_weak (pi_or (pi_list h) (pi_or (pi_tup h) (pi_str h))) fun σ H R ⟨G, ρ, F, xs, ρ', W, hm, q⟩ => ?_
  unfold iSq at hm
  obtain ⟨⟨r, ρ1⟩, e1, hm⟩ := Option.bind_eq_some_iff.mp hm
  obtain ⟨⟨x, ρ2⟩, e2, hm⟩ := Option.bind_eq_some_iff.mp hm
  obtain ⟨ys, e3, hm⟩ := Option.bind_eq_some_iff.mp hm
  cases hm
  cases x with
  | lst zs =>
    cases e3
    refine .inl (tm_use W e1 fun v H1 F1 s1 R1 => ?_)
    obtain ⟨F2, s2, R2⟩ := frz_ok s1.wd R1 e2
    cases R2 with
    | lst h1 h2 => exact ⟨_, rfl, ⟨_, SqL.of (s2.wd.sub _ _ h1)⟩, q _ _ F2 (s1.trans s2) (jr_list (SqL.of h1) h2)⟩
  | scr zs =>
    cases e3
    refine .inl (tm_use W e1 fun v H1 F1 s1 R1 => ?_)
    obtain ⟨F2, s2, R2⟩ := frz_ok s1.wd R1 e2
    cases R2 with
    | scr h1 => exact ⟨_, rfl, ⟨_, s2.wd.sub.seq h1⟩, q _ _ F2 (s1.trans s2) (jr_list h1 (Reps.ints _))⟩
  | tup zs =>
    cases e3
    refine .inr (.inl (tm_use W e1 fun v H1 F1 s1 R1 => ?_))
    obtain ⟨F2, s2, R2⟩ := frz_ok s1.wd R1 e2
    cases R2 with
    | tup h1 h2 => exact ⟨_, rfl, ⟨_, same_t s2.wd.sub h1⟩, q _ _ F2 (s1.trans s2) (jr_tup h1 h2)⟩
  | str zs =>
    cases e3
    refine .inr (.inr (tm_use W e1 fun v H1 F1 s1 R1 => ?_))
    obtain ⟨F2, s2, R2⟩ := frz_ok s1.wd R1 e2
    cases R2
    exact ⟨_, rfl, q _ _ F2 (s1.trans s2) (jr_str _)⟩
  | non => cases e3
  | bl b => cases e3
  | int i => cases e3
  | obj c ks xs => cases e3
/-- range(n), range(a, b) -/
noncomputable def rngL (lo : Int) (n : Nat) : List D := (List.range n).map fun (i : Nat) => .int (lo + (i : Int))
noncomputable def iR1 (a : M (List Vl)) : M (List D) := fun ρ => (a ρ).bind fun p => match p.1 with
  | [.fz (.int j)] => if -(2 ^ 62) ≤ j ∧ j < 2 ^ 62 then some (rngL 0 j.toNat, p.2) else none
  | _ => none
noncomputable def iR2 (a : M (List Vl)) : M (List D) := fun ρ => (a ρ).bind fun p => match p.1 with
  | [.fz (.int i), .fz (.int j)] => if -(2 ^ 62) ≤ i ∧ i < 2 ^ 62 ∧ -(2 ^ 62) ≤ j ∧ j < 2 ^ 62 then some (rngL i (j - i).toNat, p.2) else none
  | _ => none
theorem vls1 {K : Kx} {σ : L2.St} {F : Hp} {vs : List V} {x : D} (h : VlSs K σ F vs [.fz x]) : ∃ v, vs = [v] ∧ Rep K F v x := by
  match vs, h with
  | [v], h => exact ⟨v, rfl, h.1⟩
theorem vls2 {K : Kx} {σ : L2.St} {F : Hp} {vs : List V} {x y : D} (h : VlSs K σ F vs [.fz x, .fz y]) : ∃ v u, vs = [v, u] ∧ Rep K F v x ∧ Rep K F u y := by
  match vs, h with
  | [v, u], h => exact ⟨v, u, rfl, h.1, h.2.1⟩
theorem si_range1 {a : Expr} {ma : M (List Vl)} (hm : X.mg "range" = none) (hg : Gl X "range") (ha : SA X [a] ma) (hs : starEach [a] X.env = [(false, eval a X.env)] := by rfl) : SI X tg (.Call (.Name "range" p) [a] [] pos) (iR1 ma) := by
  refine pi_weak (pi_range1 hg hm ha hs) fun σ H R ⟨G, ρ, F, xs, ρ', W, hm, q⟩ => ?_
  unfold iR1 at hm
  obtain ⟨⟨r, ρ1⟩, e1, hm⟩ := Option.bind_eq_some_iff.mp hm
  refine ⟨G, ρ, F, r, ρ1, W, e1, fun vs H1 F1 s1 R1 => ?_⟩
  split at hm
  · rename_i j hj
    dsimp only at hj
    subst hj
    split at hm
    · rename_i hb
      cases hm
      obtain ⟨v, rfl, Rv⟩ := vls1 R1
      cases Rv
      exact ⟨j, rfl, hb.1, hb.2, q _ _ F1 s1 (jr_rng 0 j.toNat)⟩
    · cases hm
  · cases hm
theorem si_range2 {a b : Expr} {ma : M (List Vl)} (hm : X.mg "range" = none) (hg : Gl X "range") (ha : SA X [a, b] ma) (hs : starEach [a, b] X.env = [(false, eval a X.env), (false, eval b X.env)] := by rfl) (hs2 : starEach [b] X.env = [(false, eval b X.env)] := by rfl) : SI X tg (.Call (.Name "range" p) [a, b] [] pos) (iR2 ma) := by
  refine pi_weak (pi_range2 hg hm ha hs hs2) fun σ H R ⟨G, ρ, F, xs, ρ', W, hm, q⟩ => ?_
  unfold iR2 at hm
  obtain ⟨⟨r, ρ1⟩, e1, hm⟩ := Option.bind_eq_some_iff.mp hm
  refine ⟨G, ρ, F, r, ρ1, W, e1, fun vs H1 F1 s1 R1 => ?_⟩
  split at hm
  · rename_i i j hj
    dsimp only at hj
    subst hj
    split at hm
    · rename_i hb
      cases hm
      obtain ⟨v, u, rfl, Rv, Ru⟩ := vls2 R1
      cases Rv
      cases Ru
      exact ⟨i, j, rfl, hb, q _ _ F1 s1 (jr_rng i (j - i).toNat)⟩
    · cases hm
  · cases hm
end
noncomputable def forM (g : D → Rho → Option Rho) (b : S) : List D → S
  | [], ρ => some (.nx, ρ)
  | x :: xs, ρ => (g x ρ).bind fun ρ1 => (b ρ1).bind fun p => match p.1 with
    | .nx => forM g b xs p.2
    | .ct => forM g b xs p.2
    | .bk => some (.nx, p.2)
    | .rt v => some (.rt v, p.2)
    | .ex x => some (.ex x, p.2)
noncomputable def sFor (src : M (List D)) (g : D → Rho → Option Rho) (b : S) : S := fun ρ => (src ρ).bind fun p => forM g b p.1 p.2
section
variable {X : Cx} {tg iter c : Expr} {src : M (List D)} {is : List Nat} {g : D → Rho → Option Rho} {body : List Stmt} {b : S} {pos : Pos} {mt : M Bool}
theorem ss_for (hp : PassesOwn (model X.prog X.w) X.A X.env X.xe) (hc : X.calm = true) (hi : SI X tg iter src) (hg : SG X tg is g) (hb : SBW X Wx body b)
    (hs : ∀ x, foldedSetIterable iter X.env x = pure x := by intro _; rfl) : SSW X Wx (.For tg iter body [] pos) (sFor src g b) := by
  refine ps_weak (ps_for hp hc hi hg hb hs) fun D σ H ⟨G, ρ, F, fl, ρ', W, hm, q⟩ => ?_
  unfold sFor at hm
  obtain ⟨⟨xs, ρ1⟩, e1, hm⟩ := Option.bind_eq_some_iff.mp hm
  refine ⟨G, ρ, F, xs, ρ1, W, e1, fun J H1 F1 s1 jr => ?_⟩
  refine ⟨fun i m σ H => m = xs.length - i ∧ i ≤ xs.length ∧ ∃ ρi Fi, Wd X.kx G ρi σ H Fi ∧ Same F1 Fi ∧ forM g b (xs.drop i) ρi = some (fl, ρ'), ⟨xs.length, by simp, Nat.zero_le _, ρ1, F1, s1.wd, Same.refl _, hm⟩, ?_⟩
  rintro i m σ2 H2 ⟨rfl, hi, ρi, Fi, Wi, ff, hf⟩
  by_cases hlt : i < xs.length
  · refine .inr ⟨jr.go i H2 (ff.trans Wi.sub) hlt, fun σ' H' => ∃ ρi Fi, Wd X.kx G ρi σ' H' Fi ∧ Same F1 Fi ∧ forM g b (xs.drop (i + 1)) ρi = some (fl, ρ'), fun σ' H' ⟨ρj, Fj, a, b, c⟩ => ⟨xs.length - (i + 1), by omega, rfl, hlt, ρj, Fj, a, b, c⟩, fun x H' y => ?_⟩
    obtain ⟨F2, d, A, hd, Rd⟩ := jr.yl i H2 Fi x H' hlt ff Wi.sub y
    have s2 := Wi.alc A
    have ed : xs[i] = d := by
      rw [List.getElem?_eq_getElem hlt] at hd
      exact Option.some.inj hd
    rw [List.drop_eq_getElem_cons hlt, ed] at hf
    unfold forM at hf
    obtain ⟨ρ3, e3, hf⟩ := Option.bind_eq_some_iff.mp hf
    obtain ⟨⟨f4, ρ4⟩, e4, hf⟩ := Option.bind_eq_some_iff.mp hf
    refine ⟨G, ρi, F2, d, ρ3, s2.wd, Rd, e3, fun σ3 W3 _ => ?_⟩
    refine ⟨G, ρ3, F2, f4, ρ4, W3, e4, fun σ4 H4 F4 W4 f34 => ?_⟩
    have fall : Same F1 F4 := (ff.trans A.ff).trans f34
    cases f4 with
    | nx => exact ⟨ρ4, F4, W4, fall, hf⟩
    | ct => exact ⟨ρ4, F4, W4, fall, hf⟩
    | bk => cases hf; exact q σ4 H4 F4 W4 (s1.ff.trans fall)
    | rt v => cases hf; exact q σ4 H4 F4 W4 (s1.ff.trans fall)
    | ex x => cases hf; exact q σ4 H4 F4 W4 (s1.ff.trans fall)
  · have e : i = xs.length := by omega
    subst e
    rw [List.drop_length] at hf
    cases hf
    exact .inl ⟨jr.st _ H2 (ff.trans Wi.sub) (Nat.le_refl _), q σ2 H2 Fi Wi (s1.ff.trans ff)⟩
/-- while: as many turns as there are -/
noncomputable def wh (t : M Bool) (b : S) : Nat → S
  | 0, _ => none
  | n + 1, ρ => (t ρ).bind fun p => if p.1 = true then (b p.2).bind fun q => (match q.1 with
    | .nx => wh t b n q.2
    | .ct => wh t b n q.2
    | .bk => some (.nx, q.2)
    | .rt v => some (.rt v, q.2)
    | .ex x => some (.ex x, q.2)) else some (.nx, p.2)
open Classical in
noncomputable def sWhile (t : M Bool) (b : S) : S := fun ρ => if h : ∃ n, (wh t b n ρ).isSome = true then wh t b h.choose ρ else none
theorem wh_mono {t : M Bool} {b : S} : ∀ {n : Nat} {ρ : Rho} {z : Fl × Rho}, wh t b n ρ = some z → wh t b (n + 1) ρ = some z
  | 0, _, _, h => by cases h
  | n + 1, ρ, z, h => by
    unfold wh at h ⊢
    obtain ⟨⟨c, ρ1⟩, e1, h⟩ := Option.bind_eq_some_iff.mp h
    rw [e1]
    simp only [Option.bind_some] at h ⊢
    split at h
    · rename_i hc
      rw [if_pos hc]
      obtain ⟨⟨fl, ρ2⟩, e2, h⟩ := Option.bind_eq_some_iff.mp h
      rw [e2]
      simp only [Option.bind_some] at h ⊢
      cases fl with
      | nx => exact wh_mono h
      | ct => exact wh_mono h
      | bk => exact h
      | rt v => exact h
      | ex x => exact h
    · rename_i hc
      rw [if_neg hc]
      exact h
theorem wh_le {t : M Bool} {b : S} {n m : Nat} {ρ : Rho} {z : Fl × Rho} (h : wh t b n ρ = some z) (hl : n ≤ m) : wh t b m ρ = some z := by
  induction hl with
  | refl => exact h
  | step _ ih => exact wh_mono ih
theorem sWhile_of {t : M Bool} {b : S} {n : Nat} {ρ : Rho} {z : Fl × Rho} (h : wh t b n ρ = some z) : sWhile t b ρ = some z := by
  have ex : ∃ n, (wh t b n ρ).isSome = true := ⟨n, by rw [h]; rfl⟩
  unfold sWhile
  rw [dif_pos ex]
  obtain ⟨y, hy⟩ := Option.isSome_iff_exists.mp ex.choose_spec
  rw [hy]
  rcases Nat.le_total n ex.choose with q | q
  · rw [wh_le h q] at hy
    exact hy.symm
  · rw [wh_le hy q] at h
    exact h
theorem of_sWhile {t : M Bool} {b : S} {ρ : Rho} {z : Fl × Rho} (h : sWhile t b ρ = some z) : ∃ n, wh t b n ρ = some z := by
  unfold sWhile at h
  split at h
  · exact ⟨_, h⟩
  · cases h
theorem ss_while (hp : PassesOwn (model X.prog X.w) X.A X.env X.xe) (hc : ST X c mt) (hb : SBW X Wx body b) : SSW X Wx (.While c body [] pos) (sWhile mt b) := by
  refine ps_weak (ps_while hp hc hb) fun D σ H ⟨G, ρ, F, fl, ρ', W, hm, q⟩ => ?_
  obtain ⟨n, hm⟩ := of_sWhile hm
  refine ⟨fun m σ H => ∃ ρi Fi, Wd X.kx G ρi σ H Fi ∧ Same F Fi ∧ wh mt b m ρi = some (fl, ρ'), ⟨n, ρ, F, W, Same.refl _, hm⟩, ?_⟩
  rintro m σ2 H2 ⟨ρi, Fi, Wi, ff, hf⟩
  cases m with
  | zero => cases hf
  | succ m =>
    unfold wh at hf
    obtain ⟨⟨c1, ρ1⟩, e1, hf⟩ := Option.bind_eq_some_iff.mp hf
    refine tmt_use Wi e1 fun H3 F3 s3 => ?_
    cases c1 with
    | true =>
      simp only [if_true] at hf ⊢
      obtain ⟨⟨f4, ρ4⟩, e4, hf⟩ := Option.bind_eq_some_iff.mp hf
      refine ⟨fun σ' H' => ∃ ρi Fi, Wd X.kx G ρi σ' H' Fi ∧ Same F Fi ∧ wh mt b m ρi = some (fl, ρ'), fun σ' H' z => ⟨m, Nat.lt_succ_self _, z⟩, G, ρ1, F3, f4, ρ4, s3.wd, e4, fun σ4 H4 F4 W4 f34 => ?_⟩
      have fall : Same F F4 := (ff.trans s3.ff).trans f34
      cases f4 with
      | nx => exact ⟨ρ4, F4, W4, fall, hf⟩
      | ct => exact ⟨ρ4, F4, W4, fall, hf⟩
      | bk => cases hf; exact q σ4 H4 F4 W4 fall
      | rt v => cases hf; exact q σ4 H4 F4 W4 fall
      | ex x => cases hf; exact q σ4 H4 F4 W4 fall
    | false =>
      simp at hf ⊢
      obtain ⟨rfl, rfl⟩ := hf
      exact q σ2 H3 F3 s3.wd (ff.trans s3.ff)
end
noncomputable def slOf : Ag → Sl
  | .da x => .d x
  | .li xs => .io xs
noncomputable def outsOf : List Ag → Rho → List (List D)
  | .li _ :: gs, .io xs :: ρ => xs :: outsOf gs ρ
  | _ :: gs, _ :: ρ => outsOf gs ρ
  | _, _ => []
noncomputable def fnS (n nl : Nat) (b : S) : Fn := fun gs => if gs.length = n then (b (gs.map slOf ++ List.replicate (nl - n) .no)).bind fun p => (match p.1 with
  | .nx => some (.fz .non, outsOf gs p.2)
  | .rt (.fz x) => some (.fz x, outsOf gs p.2)
  | .rt (.fr x) => some (.fr x, outsOf gs p.2)
  | _ => none) else none
theorem fnS_len {n nl : Nat} {b : S} : ∀ gs z, fnS n nl b gs = some z → gs.length = n := fun gs z h => by
  unfold fnS at h
  split at h
  · assumption
  · cases h
/-- the slots whose lists are handed in -/
noncomputable def iaOf : Nat → List V → List Ag → List (Nat × Addr)
  | i, .ref a :: vs, .li _ :: gs => (i, a) :: iaOf (i + 1) vs gs
  | i, _ :: vs, _ :: gs => iaOf (i + 1) vs gs
  | _, _, _ => []
section
variable {K : Kx} {F H : Hp}
theorem AgsR.at : ∀ {vs : List V} {gs : List Ag} {i : Nat} {g : Ag}, AgsR K F H vs gs → gs[i]? = some g → ∃ v, vs[i]? = some v ∧ (match g with
    | .da x => Rep K F v x
    | .li xs => ∃ a us, v = .ref a ∧ H a = some (.lst us) ∧ Reps K F us xs ∧ F a = none)
  | [], [], _, _, _, h => by simp at h
  | [], .da _ :: _, _, _, h, _ => h.elim
  | [], .li _ :: _, _, _, h, _ => h.elim
  | _ :: _, [], _, _, _, h => by simp at h
  | v :: vs, .da x :: gs, 0, g, h, e => by simp at e; subst e; exact ⟨v, rfl, h.1⟩
  | v :: vs, .li x :: gs, 0, g, h, e => by simp at e; subst e; exact ⟨v, rfl, h.1⟩
  | v :: vs, .da x :: gs, i + 1, g, h, e => AgsR.at (i := i) h.2 (by simpa using e)
  | v :: vs, .li x :: gs, i + 1, g, h, e => AgsR.at (i := i) h.2 (by simpa using e)
theorem iaOf_snd : ∀ {vs : List V} {gs : List Ag} (k : Nat), AgsR K F H vs gs → (iaOf k vs gs).map (·.2) = liA vs gs
  | [], [], _, _ => rfl
  | [], .da _ :: _, _, h => h.elim
  | [], .li _ :: _, _, h => h.elim
  | _ :: _, [], _, h => h.elim
  | v :: vs, .da x :: gs, k, h => by
    have e1 : iaOf k (v :: vs) (.da x :: gs) = iaOf (k + 1) vs gs := by cases v <;> rfl
    have e2 : liA (v :: vs) (.da x :: gs) = liA vs gs := by cases v <;> rfl
    rw [e1, e2]
    exact iaOf_snd (k + 1) h.2
  | v :: vs, .li x :: gs, k, h => by
    obtain ⟨⟨a, us, rfl, _⟩, h2⟩ := h
    show a :: (iaOf (k + 1) vs gs).map (·.2) = a :: liA vs gs
    rw [iaOf_snd (k + 1) h2]
theorem iaOf_mem : ∀ {vs : List V} {gs : List Ag} {k j : Nat} {a : Addr}, AgsR K F H vs gs → (j, a) ∈ iaOf k vs gs → ∃ i xs, j = k + i ∧ gs[i]? = some (.li xs) ∧ vs[i]? = some (.ref a)
  | [], [], _, _, _, _, h => by simp [iaOf] at h
  | [], .da _ :: _, _, _, _, h, _ => h.elim
  | [], .li _ :: _, _, _, _, h, _ => h.elim
  | _ :: _, [], _, _, _, h, _ => h.elim
  | v :: vs, .da x :: gs, k, j, a, h, e => by
    have e1 : iaOf k (v :: vs) (.da x :: gs) = iaOf (k + 1) vs gs := by cases v <;> rfl
    rw [e1] at e
    obtain ⟨i, xs, h1, h2, h3⟩ := iaOf_mem h.2 e
    exact ⟨i + 1, xs, by omega, by simpa using h2, by simpa using h3⟩
  | v :: vs, .li x :: gs, k, j, a, h, e => by
    obtain ⟨⟨b, us, rfl, _⟩, h2⟩ := h
    rcases List.mem_cons.mp (show (j, a) ∈ (k, b) :: iaOf (k + 1) vs gs from e) with q | q
    · cases q
      exact ⟨0, x, rfl, rfl, rfl⟩
    · obtain ⟨i, xs, h1, h3, h4⟩ := iaOf_mem h2 q
      exact ⟨i + 1, xs, by omega, by simpa using h3, by simpa using h4⟩
theorem mem_iaOf : ∀ {vs : List V} {gs : List Ag} {i : Nat} {a : Addr} {xs : List D} (k : Nat), AgsR K F H vs gs → gs[i]? = some (.li xs) → vs[i]? = some (.ref a) → (k + i, a) ∈ iaOf k vs gs
  | [], _, _, _, _, _, _, _, h => by simp at h
  | _ :: _, [], _, _, _, _, h, _, _ => h.elim
  | v :: vs, .da x :: gs, 0, a, xs, k, h, e, _ => by simp at e
  | v :: vs, .li x :: gs, 0, a, xs, k, h, e, e2 => by
    simp at e2; subst e2
    show (k + 0, a) ∈ (k, a) :: iaOf (k + 1) vs gs
    exact List.mem_cons_self
  | v :: vs, .da x :: gs, i + 1, a, xs, k, h, e, e2 => by
    have e1 : iaOf k (v :: vs) (.da x :: gs) = iaOf (k + 1) vs gs := by cases v <;> rfl
    rw [e1]
    have := mem_iaOf (k + 1) h.2 (i := i) (a := a) (xs := xs) (by simpa using e) (by simpa using e2)
    rw [show k + (i + 1) = k + 1 + i by omega]
    exact this
  | v :: vs, .li x :: gs, i + 1, a, xs, k, h, e, e2 => by
    obtain ⟨⟨b, us, rfl, _⟩, h2⟩ := h
    have := mem_iaOf (k + 1) h2 (i := i) (a := a) (xs := xs) (by simpa using e) (by simpa using e2)
    rw [show k + (i + 1) = k + 1 + i by omega]
    exact List.mem_cons_of_mem _ this
/-- the world at a def's entry -/
theorem wd_start {vs : List V} {gs : List Ag} {N : List Str} {n nl : Nat} (A : AgsR K F H vs gs) (nd : (liA vs gs).Nodup) (sub : Same F H) (hn : gs.length = n) (hl : N.length = nl) (hle : n ≤ nl) : Wd K ⟨H, F, iaOf 0 vs gs, nl, [], []⟩ (gs.map slOf ++ List.replicate (nl - n) .no) (start N vs) H F := by
  have lv : vs.length = n := A.len.trans hn
  have get : ∀ (i : Nat) (s : Sl), (gs.map slOf ++ List.replicate (nl - n) .no)[i]? = some s → (∃ g, gs[i]? = some g ∧ s = slOf g) ∨ s = .no := fun i s h => by
    by_cases hi : i < n
    · rw [List.getElem?_append_left (by rw [List.length_map, hn]; exact hi), List.getElem?_map] at h
      cases e : gs[i]? with
      | none => rw [e] at h; cases h
      | some g => rw [e] at h; cases h; exact .inl ⟨g, rfl, rfl⟩
    · rw [List.getElem?_append_right (by rw [List.length_map, hn]; omega), List.getElem?_replicate] at h
      split at h
      · cases h; exact .inr rfl
      · cases h
  have getv : ∀ (i : Nat) (v : V), vs[i]? = some v → (start N vs)[i]? = some (some v) := fun i v h => by
    have hi := (List.getElem?_eq_some_iff.mp h).1
    unfold L2.start
    rw [List.getElem?_append_left (by rw [List.length_map]; exact hi), List.getElem?_map, h]
    rfl
  have ow : ∀ i a, Ow K H F (gs.map slOf ++ List.replicate (nl - n) .no) (start N vs) i a → (i, a) ∈ iaOf 0 vs gs ∧ i < vs.length := fun i a o => by
    rcases o with ⟨⟨xs, o1⟩, o2⟩ | ⟨t, u, L, o1, _⟩
    rotate_left
    · rcases o1 with o1 | o1
      · rcases get i _ o1 with ⟨g, _, e⟩ | e
        · cases g <;> cases e
        · cases e
      · rcases get i _ o1 with ⟨g, _, e⟩ | e
        · cases g <;> cases e
        · cases e
    rcases o1 with o1 | o1 | ⟨zs, o1⟩
    · rcases get i _ o1 with ⟨g, _, e⟩ | e
      · cases g <;> cases e
      · cases e
    · rcases get i _ o1 with ⟨g, e1, e⟩ | e
      · cases g with
        | da x => cases e
        | li ys =>
          cases e
          obtain ⟨v, e2, b, us, rfl, _⟩ := A.at e1
          rw [getv i _ e2] at o2
          cases o2
          have := mem_iaOf 0 A e1 e2
          rw [Nat.zero_add] at this
          exact ⟨this, (List.getElem?_eq_some_iff.mp e2).1⟩
      · cases e
    · rcases get i _ o1 with ⟨g, _, e⟩ | e
      · cases g <;> cases e
      · cases e
  have snd := iaOf_snd 0 A
  have lst : (start N vs).length = nl := by
    unfold L2.start
    rw [List.length_append, List.length_map, List.length_replicate, lv, hl]
    omega
  refine ⟨?_, lst, sub, Same.refl _, fun b o h _ _ => h, fun b h => .inl h, fun b h => ?_, fun i s h => ?_, fun i j a o1 o2 => ?_, fun i a h => ?_, fun i a h => absurd h List.not_mem_nil⟩
  · unfold L2.start
    rw [List.length_append, List.length_map, List.length_replicate, List.length_append, List.length_map, List.length_replicate, hn, lv, hl]
  · rcases h with h | h
    rotate_left
    · exact absurd h List.not_mem_nil
    obtain ⟨⟨j, c⟩, h1, rfl⟩ := List.mem_map.mp h
    obtain ⟨i, xs, _, h2, h3⟩ := iaOf_mem A h1
    obtain ⟨v, e, b, us, rfl, hb, _⟩ := A.at h2
    rw [h3] at e; cases e
    show H c ≠ none
    rw [hb]; simp
  · rcases get i s h with ⟨g, e, rfl⟩ | rfl
    · obtain ⟨v, e2, q⟩ := A.at e
      cases g with
      | da x => exact ⟨v, getv i v e2, q⟩
      | li xs =>
        obtain ⟨a, us, rfl, h1, h2, h3⟩ := q
        have := mem_iaOf 0 A e e2
        rw [Nat.zero_add] at this
        exact ⟨a, us, getv i _ e2, h1, h2, h3, this⟩
    · trivial
  · have h1 := (ow i a o1).1
    have h2 := (ow j a o2).1
    have ndp : ((iaOf 0 vs gs).map (·.2)).Nodup := by rw [snd]; exact nd
    obtain ⟨p, hp, e1⟩ := List.mem_iff_getElem.mp h1
    obtain ⟨q, hq, e2⟩ := List.mem_iff_getElem.mp h2
    have e3 : ((iaOf 0 vs gs).map (·.2))[p]'(by rw [List.length_map]; exact hp) = ((iaOf 0 vs gs).map (·.2))[q]'(by rw [List.length_map]; exact hq) := by
      rw [List.getElem_map, List.getElem_map, e1, e2]
    have e4 := (List.getElem_inj ndp).mp e3
    subst e4
    rw [e1] at e2
    cases e2
    rfl
  · obtain ⟨j, xs, e, h2, h3⟩ := iaOf_mem A h
    rw [Nat.zero_add] at e
    subst e
    refine ⟨⟨xs, ?_⟩, getv i _ h3⟩
    have hi := (List.getElem?_eq_some_iff.mp h2).1
    rw [List.getElem?_append_left (by rw [List.length_map]; exact hi), List.getElem?_map, h2]
    rfl
theorem outs_ok {G : Gd} {σ : L2.St} {H' F' : Hp} : ∀ {vs : List V} {gs : List Ag} {ρ : Rho} (k : Nat), AgsR K F H vs gs → (∀ i s, ρ[i]? = some s → SlR K G σ H' F' (k + i) s) → (∀ i a xs, gs[i]? = some (.li xs) → vs[i]? = some (.ref a) → (∃ ys, ρ[i]? = some (.io ys)) ∧ σ[k + i]? = some (some (.ref a))) → gs.length ≤ ρ.length → OutsR K F' H' (liA vs gs) (outsOf gs ρ)
  | [], [], ρ, k, _, _, _, _ => by cases ρ <;> trivial
  | [], .da _ :: _, _, _, h, _, _, _ => h.elim
  | [], .li _ :: _, _, _, h, _, _, _ => h.elim
  | _ :: _, [], _, _, h, _, _, _ => h.elim
  | v :: vs, g :: gs, [], k, _, _, _, hl => by simp at hl
  | v :: vs, .da x :: gs, s :: ρ, k, h, h1, h2, hl => by
    have e2 : liA (v :: vs) (.da x :: gs) = liA vs gs := by cases v <;> rfl
    have e3 : outsOf (.da x :: gs) (s :: ρ) = outsOf gs ρ := by cases s <;> rfl
    rw [e2, e3]
    refine outs_ok (G := G) (σ := σ) (k + 1) h.2 (fun i s' e => ?_) (fun i a xs e e' => ?_) (by simpa using hl)
    · have := h1 (i + 1) s' (by simpa using e)
      rw [show k + 1 + i = k + (i + 1) by omega]
      exact this
    · have := h2 (i + 1) a xs (by simpa using e) (by simpa using e')
      rw [show k + 1 + i = k + (i + 1) by omega]
      simpa using this
  | v :: vs, .li x :: gs, s :: ρ, k, h, h1, h2, hl => by
    obtain ⟨⟨b, us, rfl, _⟩, hr⟩ := h
    obtain ⟨⟨ys, e0⟩, e1⟩ := h2 0 b x rfl rfl
    have e0 : s = .io ys := by simpa using e0
    subst e0
    obtain ⟨c, ws, f1, f2, f3, f4, _⟩ := h1 0 (.io ys) rfl
    rw [Nat.add_zero] at e1 f1
    rw [e1] at f1
    cases f1
    refine ⟨⟨ws, f2, f3, f4⟩, outs_ok (G := G) (σ := σ) (k + 1) hr (fun i s' e => ?_) (fun i a xs e e' => ?_) (by simpa using hl)⟩
    · have := h1 (i + 1) s' (by simpa using e)
      rw [show k + 1 + i = k + (i + 1) by omega]
      exact this
    · have := h2 (i + 1) a xs (by simpa using e) (by simpa using e')
      rw [show k + 1 + i = k + (i + 1) by omega]
      simpa using this
end
theorem fn_ok {P : Program} {w : World} {K : PySem.W.Frag} {mg : Str → Option Value} {base : Heap} {x qual : Str} {st : Stmt} {f : Addr} {fd : FuncData} {N ps : List Str} {k n nl : Nat} {m : S} (Fu : FunG K x qual st f fd) (Sc : FnScope N ps (defScope st)) (hn : ps.length = n) (hl : N.length = nl) (hle : n ≤ nl)
    (hb : ∀ (cdv : Value) (A : Around) (outer : List Env) (s : Shared) (H : Hp) (E : XK), Room k (A.deeper (envOfC qual (defScope st) s.heap.objs.size f cdv)) → SB (cxOf CX0 P w K mg base N qual (defScope st) f cdv A outer s H E).nox (defBody st) m) :
    FnOk P w K mg base CX0 (k + 1) f fd ps (spF ⟨K, w⟩ n (fnS n nl m)) := by
  refine Fu.ok Sc (fun vs H Q E h => by rw [h.1, hn]) (fun cdv A outer s H vs Q E hr h => ?_)
  obtain ⟨hv, F, gs, r, os, sub, AR, nd, hf, q⟩ := h
  refine ⟨_, hb cdv A outer s H E hr, ?_⟩
  unfold fnS at hf
  split at hf
  · rename_i hgs
    obtain ⟨⟨fl, ρ'⟩, e1, hf⟩ := Option.bind_eq_some_iff.mp hf
    have W := wd_start AR nd sub hgs hl hle
    have snd := iaOf_snd 0 AR
    have le : gs.length ≤ (gs.map slOf ++ List.replicate (nl - n) Sl.no).length := by rw [List.length_append, List.length_map]; omega
    have outs : ∀ {σ' : L2.St} {H' F' : Hp}, Wd ⟨K, w⟩ ⟨H, F, iaOf 0 vs gs, nl, [], []⟩ ρ' σ' H' F' → σ'.length = nl → OutsR ⟨K, w⟩ F' H' (liA vs gs) (outsOf gs ρ') := fun {σ' H' F'} W' hσ => by
      refine outs_ok (G := ⟨H, F, iaOf 0 vs gs, nl, [], []⟩) (σ := σ') 0 AR (fun i s' e => by rw [Nat.zero_add]; exact W'.sl i s' e) (fun i a xs h1 h2 => ?_) ?_
      · have := mem_iaOf 0 AR h1 h2
        have z := W'.ai _ _ this
        rw [Nat.zero_add] at z
        exact ⟨z.1, by rw [Nat.zero_add]; exact z.2⟩
      · have := W'.len
        omega
    refine ⟨⟨H, F, iaOf 0 vs gs, nl, [], []⟩, _, F, fl, ρ', W, e1, fun σ' H' F' W' ff => ?_⟩
    have kp : ∀ b o, H b = some o → b ∉ liA vs gs → H' b = some o := fun b o h h2 => W'.kp b o h (by rw [snd]; exact h2) List.not_mem_nil
    have hσ : σ'.length = nl := W'.gl
    cases fl with
    | nx => cases hf; exact q _ H' F' ff W'.sub kp W'.nw (outs W' hσ) .non
    | bk => cases hf
    | ct => cases hf
    | ex x => cases hf
    | rt z =>
      cases z with
      | fz y => cases hf; exact fun v R => q v H' F' ff W'.sub kp W'.nw (outs W' hσ) R
      | fr y => cases hf; exact fun v R => q v H' F' ff W'.sub kp W'.nw (outs W' hσ) R
      | bw y => cases hf
  · cases hf
end Sw
namespace Sw
open PySem PySem.Spec PyProof.Rows L2
noncomputable def wipeR (ρ : Rho) : List Nat → Rho
  | [] => ρ
  | v :: vs => (wipeR ρ vs).set v .no
noncomputable def backR (ρ0 ρ : Rho) : List Nat → Rho
  | [] => ρ
  | v :: vs => (backR ρ0 ρ vs).set v ((ρ0[v]?).getD .no)
noncomputable def plainSl : Option Sl → Bool
  | some .no => true
  | some (.d _) => true
  | _ => false
noncomputable def lcM (vs : List Nat) (g : D → Rho → Option Rho) (t : M Bool) (e : M Vl) : List D → List D → M (List D)
  | [], acc, ρ => some (acc, ρ)
  | x :: xs, acc, ρ => (g x ρ).bind fun ρ1 => (t ρ1).bind fun p => if p.1 = true then (e p.2).bind fun q => (frz q.2 (stl q.1)).bind fun z => if acc.length < lim then lcM vs g t e xs (acc ++ [z.1]) (wipeR z.2 vs) else none else lcM vs g t e xs acc (wipeR p.2 vs)
noncomputable def eLc (vs : List Nat) (src : M (List D)) (g : D → Rho → Option Rho) (t : M Bool) (e : M Vl) : M Vl := fun ρ => (src ρ).bind fun p => if (vs.all fun v => plainSl p.2[v]?) = true then (lcM vs g t e p.1 [] (wipeR p.2 vs)).bind fun q => some (.fr q.1, backR p.2 q.2 vs) else none
theorem wipeR_len (ρ : Rho) : ∀ vs : List Nat, (wipeR ρ vs).length = ρ.length
  | [] => rfl
  | v :: vs => by unfold wipeR; rw [List.length_set, wipeR_len ρ vs]
theorem backR_len (ρ0 ρ : Rho) : ∀ vs : List Nat, (backR ρ0 ρ vs).length = ρ.length
  | [] => rfl
  | v :: vs => by unfold backR; rw [List.length_set, backR_len ρ0 ρ vs]
theorem wipeR_ne {ρ : Rho} {j : Nat} : ∀ {vs : List Nat}, j ∉ vs → (wipeR ρ vs)[j]? = ρ[j]?
  | [], _ => rfl
  | v :: vs, h => by
    unfold wipeR
    rw [List.getElem?_set_ne (fun z => h (by rw [z]; exact List.mem_cons_self)), wipeR_ne fun z => h (List.mem_cons_of_mem _ z)]
theorem wipeR_mem {ρ : Rho} {j : Nat} {s : Sl} : ∀ {vs : List Nat}, j ∈ vs → (wipeR ρ vs)[j]? = some s → s = .no
  | [], h, _ => nomatch h
  | v :: vs, h, e => by
    unfold wipeR at e
    by_cases q : v = j
    · subst q
      by_cases hl : v < (wipeR ρ vs).length
      · rw [List.getElem?_set_self hl] at e
        exact (Option.some.inj e).symm
      · rw [List.getElem?_eq_none (by rw [List.length_set]; omega)] at e
        cases e
    · rw [List.getElem?_set_ne q] at e
      rcases List.mem_cons.mp h with z | z
      · exact absurd z.symm q
      · exact wipeR_mem z e
theorem wipe_ne {σ : L2.St} {j : Nat} : ∀ {vs : List Nat}, j ∉ vs → (wipe σ vs)[j]? = σ[j]?
  | [], _ => rfl
  | v :: vs, h => by
    unfold wipe
    rw [List.getElem?_set_ne (fun z => h (by rw [z]; exact List.mem_cons_self)), wipe_ne fun z => h (List.mem_cons_of_mem _ z)]
theorem backR_ne {ρ0 ρ : Rho} {j : Nat} : ∀ {vs : List Nat}, j ∉ vs → (backR ρ0 ρ vs)[j]? = ρ[j]?
  | [], _ => rfl
  | v :: vs, h => by
    unfold backR
    rw [List.getElem?_set_ne (fun z => h (by rw [z]; exact List.mem_cons_self)), backR_ne fun z => h (List.mem_cons_of_mem _ z)]
theorem backR_mem {ρ0 ρ : Rho} {j : Nat} {s : Sl} : ∀ {vs : List Nat}, j ∈ vs → (backR ρ0 ρ vs)[j]? = some s → s = (ρ0[j]?).getD .no
  | [], h, _ => nomatch h
  | v :: vs, h, e => by
    unfold backR at e
    by_cases q : v = j
    · subst q
      by_cases hl : v < (backR ρ0 ρ vs).length
      · rw [List.getElem?_set_self hl] at e
        exact (Option.some.inj e).symm
      · rw [List.getElem?_eq_none (by rw [List.length_set]; omega)] at e
        cases e
    · rw [List.getElem?_set_ne q] at e
      rcases List.mem_cons.mp h with z | z
      · exact absurd z.symm q
      · exact backR_mem z e
section
variable {K : Kx} {G : Gd} {ρ ρ1 ρ2 : Rho} {σ : L2.St} {H H1 H2 F F1 F2 : Hp} {vs : List Nat}
/-- own slots forgotten (they hold no list of one's own) -/
theorem wd_wipe {σ' : L2.St} (W : Wd K G ρ σ H F) (hσ : ∀ j, j ∉ vs → σ'[j]? = σ[j]?) (hl : σ'.length = σ.length) (pl : ∀ v ∈ vs, ∀ s, ρ[v]? = some s → (∀ xs, s ≠ .io xs) ∧ ∀ t, s ≠ .iob t) : Wd K G (wipeR ρ vs) σ' H F := by
  have get : ∀ (j : Nat) (s : Sl), (wipeR ρ vs)[j]? = some s → s = .no ∨ (j ∉ vs ∧ ρ[j]? = some s) := fun j s h => by
    by_cases hj : j ∈ vs
    · exact .inl (wipeR_mem hj h)
    · rw [wipeR_ne hj] at h
      exact .inr ⟨hj, h⟩
  have ow : ∀ {j : Nat} {a : Addr}, Ow K H F (wipeR ρ vs) σ' j a → Ow K H F ρ σ j a := fun {j a} o => by
    rcases o with ⟨⟨ys, o1⟩, o2⟩ | ⟨t, u, L, o1, o2, o3, o4⟩
    rotate_left
    · have nj : j ∉ vs := fun z => by
        rcases o1 with o1 | o1
        · cases wipeR_mem z o1
        · cases wipeR_mem z o1
      unfold obS at o1
      rw [wipeR_ne nj] at o1
      exact .inr ⟨t, u, L, o1, by rw [← hσ j nj]; exact o2, o3, o4⟩
    have nj : j ∉ vs := fun z => by
      rcases o1 with o1 | o1 | ⟨zs, o1⟩
      · cases wipeR_mem z o1
      · cases wipeR_mem z o1
      · cases wipeR_mem z o1
    rw [wipeR_ne nj] at o1
    exact .inl ⟨⟨ys, o1⟩, by rw [← hσ j nj]; exact o2⟩
  refine ⟨by rw [wipeR_len, hl]; exact W.len, by rw [hl]; exact W.gl, W.sub, W.f0, W.kp, W.nw, W.it, fun j s h => ?_, fun i j a o1 o2 => W.ap i j a (ow o1) (ow o2), fun j a h => ?_, fun j a h => ?_⟩
  · rcases get j s h with rfl | ⟨nj, h⟩
    · trivial
    · have q := W.sl j s h
      cases s with
      | no => trivial
      | xa b dx f => exact ⟨(hσ j nj).trans q.1, q.2⟩
      | d x => obtain ⟨u, e, r⟩ := q; exact ⟨u, (hσ j nj).trans e, r⟩
      | ow ys => obtain ⟨a, us, e, p⟩ := q; exact ⟨a, us, (hσ j nj).trans e, p⟩
      | io ys => obtain ⟨a, us, e, p⟩ := q; exact ⟨a, us, (hσ j nj).trans e, p⟩
      | dc ys => obtain ⟨a, us, e, p⟩ := q; exact ⟨a, us, (hσ j nj).trans e, p⟩
      | ob ys => obtain ⟨a, us, e, p⟩ := q; exact ⟨a, us, (hσ j nj).trans e, p⟩
      | iob ys => obtain ⟨a, us, e, p⟩ := q; exact ⟨a, us, (hσ j nj).trans e, p⟩
  · obtain ⟨⟨ys, z1⟩, z2⟩ := W.ai j a h
    have nj : j ∉ vs := fun z => (pl j z _ z1).1 ys rfl
    exact ⟨⟨ys, by rw [wipeR_ne nj]; exact z1⟩, by rw [hσ j nj]; exact z2⟩
  · obtain ⟨⟨ys, z1⟩, z2⟩ := W.ao j a h
    have nj : j ∉ vs := fun z => (pl j z _ z1).2 ys rfl
    exact ⟨⟨ys, by rw [wipeR_ne nj]; exact z1⟩, by rw [hσ j nj]; exact z2⟩
theorem plain_of {v : Nat} (h : plainSl ρ[v]? = true) : ∀ s, ρ[v]? = some s → (∀ xs, s ≠ .io xs) ∧ (∀ xs, s ≠ .ow xs) ∧ ∀ xs, s ≠ .dc xs := fun s e => by
  rw [e] at h
  cases s with
  | no => exact ⟨fun _ z => (nomatch z), fun _ z => (nomatch z), fun _ z => (nomatch z)⟩
  | xa b dx f => cases h
  | d x => exact ⟨fun _ z => (nomatch z), fun _ z => (nomatch z), fun _ z => (nomatch z)⟩
  | ow xs => cases h
  | io xs => cases h
  | dc xs => cases h
  | ob xs => cases h
  | iob xs => cases h
theorem plain_of2 {v : Nat} (h : plainSl ρ[v]? = true) : ∀ s, ρ[v]? = some s → (∀ t, s ≠ .ob t) ∧ ∀ t, s ≠ .iob t := fun s e => by
  rw [e] at h
  cases s with
  | no => exact ⟨fun _ z => (nomatch z), fun _ z => (nomatch z)⟩
  | d x => exact ⟨fun _ z => (nomatch z), fun _ z => (nomatch z)⟩
  | _ => cases h
theorem unwipe_ow (pl : ∀ v ∈ vs, plainSl ρ[v]? = true) : ∀ {j : Nat} {a : Addr}, Ow K H2 F2 (backR ρ ρ2 vs) σ j a → Ow K H2 F2 ρ2 (wipe σ vs) j a := fun {j a} o => by
  rcases o with ⟨⟨ys, o1⟩, o2⟩ | ⟨t, u, L, o1, o2, o3, o4⟩
  rotate_left
  · have nj : j ∉ vs := fun z => by
      have pp := pl j z
      rcases o1 with o1 | o1
      · have e := backR_mem z o1
        cases q : ρ[j]? with
        | none => rw [q] at e; cases e
        | some s => rw [q] at e; exact (plain_of2 pp s q).1 t e.symm
      · have e := backR_mem z o1
        cases q : ρ[j]? with
        | none => rw [q] at e; cases e
        | some s => rw [q] at e; exact (plain_of2 pp s q).2 t e.symm
    unfold obS at o1
    rw [backR_ne nj] at o1
    exact .inr ⟨t, u, L, o1, by rw [wipe_ne nj]; exact o2, o3, o4⟩
  have nj : j ∉ vs := fun z => by
    have pp := pl j z
    rcases o1 with o1 | o1 | ⟨zs, o1⟩
    · have e := backR_mem z o1
      cases q : ρ[j]? with
      | none => rw [q] at e; cases e
      | some s => rw [q] at e; exact (plain_of pp s q).2.1 ys e.symm
    · have e := backR_mem z o1
      cases q : ρ[j]? with
      | none => rw [q] at e; cases e
      | some s => rw [q] at e; exact (plain_of pp s q).1 ys e.symm
    · have e := backR_mem z o1
      cases q : ρ[j]? with
      | none => rw [q] at e; cases e
      | some s => rw [q] at e; exact (plain_of pp s q).2.2 zs e.symm
  rw [backR_ne nj] at o1
  exact .inl ⟨⟨ys, o1⟩, by rw [wipe_ne nj]; exact o2⟩
/-- back to the def's own slots -/
theorem unwipe (W : Wd K G ρ σ H F) (pl : ∀ v ∈ vs, plainSl ρ[v]? = true) (s : Ste K G (wipeR ρ vs) (wipe σ vs) H F ρ2 H2 F2) : Ste K G ρ σ H F (backR ρ ρ2 vs) H2 F2 := by
  have ow1 : ∀ {j : Nat} {a : Addr}, Ow K H F ρ σ j a → Ow K H F (wipeR ρ vs) (wipe σ vs) j a := fun {j a} o => by
    rcases o with ⟨⟨ys, o1⟩, o2⟩ | ⟨t, u, L, o1, o2, o3, o4⟩
    rotate_left
    · have nj : j ∉ vs := fun z => by
        rcases o1 with o1 | o1
        · exact (plain_of2 (pl j z) _ o1).1 t rfl
        · exact (plain_of2 (pl j z) _ o1).2 t rfl
      unfold obS at o1
      exact .inr ⟨t, u, L, by unfold obS; rw [wipeR_ne nj]; exact o1, by rw [wipe_ne nj]; exact o2, o3, o4⟩
    have nj : j ∉ vs := fun z => by
      rcases o1 with o1 | o1 | ⟨zs, o1⟩
      · exact (plain_of (pl j z) _ o1).2.1 ys rfl
      · exact (plain_of (pl j z) _ o1).1 ys rfl
      · exact (plain_of (pl j z) _ o1).2.2 zs rfl
    exact .inl ⟨⟨ys, by rw [wipeR_ne nj]; exact o1⟩, by rw [wipe_ne nj]; exact o2⟩
  have ow1' : ∀ {j : Nat} {a : Addr}, Ow K H F (wipeR ρ vs) (wipe σ vs) j a → Ow K H F ρ σ j a := fun {j a} o => by
    rcases o with ⟨⟨ys, o1⟩, o2⟩ | ⟨t, u, L, o1, o2, o3, o4⟩
    rotate_left
    · have nj : j ∉ vs := fun z => by
        rcases o1 with o1 | o1
        · cases wipeR_mem z o1
        · cases wipeR_mem z o1
      unfold obS at o1
      rw [wipeR_ne nj] at o1
      rw [wipe_ne nj] at o2
      exact .inr ⟨t, u, L, o1, o2, o3, o4⟩
    have nj : j ∉ vs := fun z => by
      rcases o1 with o1 | o1 | ⟨zs, o1⟩
      · cases wipeR_mem z o1
      · cases wipeR_mem z o1
      · cases wipeR_mem z o1
    rw [wipeR_ne nj] at o1
    rw [wipe_ne nj] at o2
    exact .inl ⟨⟨ys, o1⟩, o2⟩
  have ow2 : ∀ {j : Nat} {a : Addr}, Ow K H2 F2 (backR ρ ρ2 vs) σ j a → Ow K H2 F2 ρ2 (wipe σ vs) j a := fun o => unwipe_ow pl o
  have W2 := s.wd
  refine ⟨⟨by rw [backR_len, W2.len, wipe_length], W.gl, W2.sub, W2.f0, W2.kp, W2.nw, W2.it, fun j s' h => ?_, fun i j a o1 o2 => W2.ap i j a (ow2 o1) (ow2 o2), fun j a h => ?_, fun j a h => ?_⟩, s.ff, fun b o h n => s.kk b o h fun i z => n i (ow1' z), fun b h => ?_, fun i a o => (s.oo i a (ow2 o)).imp_left ow1', s.tr⟩
  · by_cases hj : j ∈ vs
    · have e := backR_mem hj h
      have pp := pl j hj
      cases q : ρ[j]? with
      | none => rw [q] at e; rw [e]; trivial
      | some s0 =>
        rw [q] at e
        have e : s' = s0 := e
        subst e
        have old := W.sl j s' q
        cases s' with
        | no => trivial
        | xa b dx f => exact ⟨old.1, old.2.mono s.ff⟩
        | d x => obtain ⟨u, e, r⟩ := old; exact ⟨u, e, r.mono s.ff⟩
        | ow xs => exact absurd rfl ((plain_of pp _ q).2.1 xs)
        | io xs => exact absurd rfl ((plain_of pp _ q).1 xs)
        | dc xs => exact absurd rfl ((plain_of pp _ q).2.2 xs)
        | ob xs => exact absurd rfl ((plain_of2 pp _ q).1 xs)
        | iob xs => exact absurd rfl ((plain_of2 pp _ q).2 xs)
    · rw [backR_ne hj] at h
      have q := W2.sl j s' h
      have eσ : (wipe σ vs)[j]? = σ[j]? := wipe_ne hj
      cases s' with
      | no => trivial
      | xa b dx f => exact ⟨eσ.symm.trans q.1, q.2⟩
      | d x => obtain ⟨u, e, r⟩ := q; exact ⟨u, eσ.symm.trans e, r⟩
      | ow ys => obtain ⟨a, us, e, p⟩ := q; exact ⟨a, us, eσ.symm.trans e, p⟩
      | io ys => obtain ⟨a, us, e, p⟩ := q; exact ⟨a, us, eσ.symm.trans e, p⟩
      | dc ys => obtain ⟨a, us, e, p⟩ := q; exact ⟨a, us, eσ.symm.trans e, p⟩
      | ob ys => obtain ⟨a, us, e, p⟩ := q; exact ⟨a, us, eσ.symm.trans e, p⟩
      | iob ys => obtain ⟨a, us, e, p⟩ := q; exact ⟨a, us, eσ.symm.trans e, p⟩
  · obtain ⟨⟨ys, z1⟩, z2⟩ := W.ai j a h
    have nj : j ∉ vs := fun z => (plain_of (pl j z) _ z1).1 ys rfl
    obtain ⟨⟨ws, y1⟩, _⟩ := W2.ai j a h
    exact ⟨⟨ws, by rw [backR_ne nj]; exact y1⟩, z2⟩
  · obtain ⟨⟨ys, z1⟩, z2⟩ := W.ao j a h
    have nj : j ∉ vs := fun z => (plain_of2 (pl j z) _ z1).2 ys rfl
    obtain ⟨⟨ws, y1⟩, _⟩ := W2.ao j a h
    exact ⟨⟨ws, by rw [backR_ne nj]; exact y1⟩, z2⟩
  · rcases s.nf b h with q | q | ⟨i, q⟩
    · exact .inl q
    · exact .inr (.inl q)
    · exact .inr (.inr ⟨i, ow1' q⟩)
theorem Wd.upd_ow {a : Addr} {o : HO} (W2 : Wd K G ρ2 σ H2 F2) (h3 : ∀ i, ¬ Ow K H2 F2 ρ2 σ i a) {i : Nat} {b : Addr} (h : Ow K (upd H2 a o) F2 ρ2 σ i b) : Ow K H2 F2 ρ2 σ i b := W2.ow_back (fun c x oc hc => by
  have nc : c ≠ a := fun z => h3 i (z ▸ oc)
  rw [upd_ne nc]; exact hc) h
/-- a new thing that no slot owns is changed -/
theorem ste_upd {a : Addr} {o : HO} (W : Wd K G ρ σ H F) (s : Ste K G ρ σ H F ρ2 H2 F2) (h1 : H a = none) (h2 : F2 a = none) (h3 : ∀ i, ¬ Ow K H2 F2 ρ2 σ i a) : Ste K G ρ σ H F ρ2 (upd H2 a o) F2 := by
  have W2 := s.wd
  have nm : ¬ (a ∈ G.ia.map (·.2) ∨ a ∈ G.oa) := fun z => W.it a z h1
  have bk : ∀ {i b}, Ow K (upd H2 a o) F2 ρ2 σ i b → Ow K H2 F2 ρ2 σ i b := fun h => W2.upd_ow h3 h
  refine ⟨⟨W2.len, W2.gl, fun b x e => ?_, W2.f0, fun b x e q q2 => ?_, W2.nw, fun b z => ?_, fun j s' h => ?_, fun i j b o1 o2 => W2.ap i j b (bk o1) (bk o2), W2.ai, W2.ao⟩, s.ff, fun b x e n => ?_, s.nf, fun i b z => s.oo i b (bk z), fun b z => ?_⟩
  · have nb : b ≠ a := fun z => by rw [z, h2] at e; cases e
    rw [upd_ne nb]; exact W2.sub _ _ e
  · have nb : b ≠ a := fun z => by
      have := W.h0 h1
      rw [← z, e] at this; cases this
    rw [upd_ne nb]; exact W2.kp b x e q q2
  · have nb : b ≠ a := fun y => nm (by rw [← y]; exact z)
    rw [upd_ne nb]; exact W2.it b z
  · have q := W2.sl j s' h
    cases s' with
    | no => trivial
    | xa b dx f => exact q
    | d x => exact q
    | ow ys =>
      obtain ⟨c, us, e, p1, p2⟩ := q
      have nc : c ≠ a := fun z => h3 j (.inl ⟨⟨ys, .inl h⟩, by rw [← z]; exact e⟩)
      exact ⟨c, us, e, by rw [upd_ne nc]; exact p1, p2⟩
    | io ys =>
      obtain ⟨c, us, e, p1, p2⟩ := q
      have nc : c ≠ a := fun z => h3 j (.inl ⟨⟨ys, .inr (.inl h)⟩, by rw [← z]; exact e⟩)
      exact ⟨c, us, e, by rw [upd_ne nc]; exact p1, p2⟩
    | dc ys =>
      obtain ⟨c, us, e, p1, p2⟩ := q
      have nc : c ≠ a := fun z => h3 j (.inl ⟨⟨[], .inr (.inr ⟨ys, h⟩)⟩, by rw [← z]; exact e⟩)
      exact ⟨c, us, e, by rw [upd_ne nc]; exact p1, p2⟩
    | ob t =>
      obtain ⟨u, L, e, r, p⟩ := q
      exact ⟨u, L, e, r.frame (Same.refl _) fun b hb x hx => by
        have nb : b ≠ a := fun z => h3 j (.inr ⟨t, u, L, .inl h, e, r, by rw [← z]; exact hb⟩)
        rw [upd_ne nb]; exact hx, p⟩
    | iob t =>
      obtain ⟨u, L, e, r, p⟩ := q
      exact ⟨u, L, e, r.frame (Same.refl _) fun b hb x hx => by
        have nb : b ≠ a := fun z => h3 j (.inr ⟨t, u, L, .inr h, e, r, by rw [← z]; exact hb⟩)
        rw [upd_ne nb]; exact hx, p⟩
  · have nb : b ≠ a := fun z => by rw [z, h1] at e; cases e
    rw [upd_ne nb]; exact s.kk b x e n
  · by_cases nb : b = a
    · rw [nb, upd_same]; simp
    · rw [upd_ne nb]; exact s.tr b z
end
noncomputable abbrev STs (X : Cx) (es : List Expr) (m : M Bool) : Prop := PTs X es (tMT X.kx m)
noncomputable def tYesM : M Bool := fun ρ => some (true, ρ)
theorem sts_nil {X : Cx} : STs X [] tYesM := ⟨fun pins s σ H Q I h => (pts_nil (X := X)).run pins s σ H Q I (by
  obtain ⟨G, ρ, F, b, ρ', W, hm, q⟩ := h
  cases hm
  exact q H F (Ste.refl W))⟩
theorem sts_one {X : Cx} {c : Expr} {m : M Bool} (h : ST X c m) : STs X [c] m := pts_one h
/-- a target changes its own slots alone, and lays data there -/
noncomputable def GOk (is : List Nat) (g : D → Rho → Option Rho) : Prop := ∀ x ρ ρ', g x ρ = some ρ' → (∀ j : Nat, j ∉ is → ρ'[j]? = ρ[j]?) ∧ ∀ (j : Nat) s, ρ'[j]? = some s → ρ[j]? = some s ∨ ∃ d, s = .d d
theorem gok_name (i : Nat) : GOk [i] (gN i) := fun x ρ ρ' h => by
  unfold gN asg at h
  split at h
  · cases h
  · cases h
  · cases h
  · rename_i s0 nio niob h0
    have hi : i < ρ.length := (List.getElem?_eq_some_iff.mp h0).1
    cases h
    refine ⟨fun j hj => List.getElem?_set_ne (fun z => hj (by rw [z]; exact List.mem_cons_self)), fun j s e => ?_⟩
    by_cases q : i = j
    · subst q
      rw [List.getElem?_set_self hi] at e
      cases e
      exact .inr ⟨x, rfl⟩
    · rw [List.getElem?_set_ne q] at e
      exact .inl e
section
variable {K : Kx} {src : M (List D)} {is vs : List Nat} {g : D → Rho → Option Rho} {t : M Bool} {e : M Vl}
theorem wipe_of_mod {σ σ2 : L2.St} (sub : ∀ i ∈ is, i ∈ vs) (m : Mod' is (wipe σ vs) σ2) : wipe σ2 vs = wipe σ vs := by
  apply List.ext_getElem?
  intro j
  by_cases hj : j ∈ vs
  · have f : ∀ (τ : L2.St), j < τ.length → (wipe τ vs)[j]? = some none := fun τ hl => by
      have hl2 : j < (wipe τ vs).length := by rw [wipe_length]; exact hl
      rw [List.getElem?_eq_getElem hl2]
      congr 1
      cases q : (wipe τ vs)[j] with
      | none => rfl
      | some v =>
        have z : (wipe τ vs)[j]? = some (some v) := by rw [List.getElem?_eq_getElem hl2, q]
        exact absurd hj (wipe_some z).2
    have hlen : σ2.length = σ.length := by rw [m.1, wipe_length]
    by_cases hl : j < σ.length
    · rw [f σ hl, f σ2 (by rw [hlen]; exact hl)]
    · rw [List.getElem?_eq_none (by rw [wipe_length, hlen]; omega), List.getElem?_eq_none (by rw [wipe_length]; omega)]
  · rw [wipe_ne hj, m.2 j fun z => hj (sub j z)]
theorem tlc_of (sub : ∀ i ∈ is, i ∈ vs) (gok : GOk is g) {σ : L2.St} {H : Hp} {Q : VK} (h : tM K (eLc vs src g t e) σ H Q) : tLc (tI K src) (tG K is g) (tMT K t) (tM K e) vs σ H Q := by
  obtain ⟨G, ρ, F, r, ρ', W, hm, q⟩ := h
  unfold eLc at hm
  obtain ⟨⟨xs, ρ1⟩, e1, hm⟩ := Option.bind_eq_some_iff.mp hm
  split at hm
  · rename_i hpl
    have pl : ∀ v ∈ vs, plainSl ρ1[v]? = true := fun v hv => List.all_eq_true.mp hpl v hv
    obtain ⟨⟨accE, ρE⟩, e2, hm⟩ := Option.bind_eq_some_iff.mp hm
    cases hm
    refine ⟨G, ρ, F, xs, ρ1, W, e1, fun J H1 F1 s1 jr D hD => ?_⟩
    have W1 := s1.wd
    have Ww : Wd K G (wipeR ρ1 vs) (wipe σ vs) H1 F1 := wd_wipe W1 (fun j hj => wipe_ne hj) (wipe_length σ vs) fun v hv s es => ⟨(plain_of (pl v hv) s es).1, (plain_of2 (pl v hv) s es).2⟩
    have fD : F1 D = none := W1.sub.free hD
    have A : Alc F1 H1 F1 (upd H1 D (.lst [])) := ⟨Same.refl _, W1.sub.trans (same_upd hD), same_upd hD, fun _ h => .inl h⟩
    have s0 := Ww.alc A
    have now0 : ∀ i, ¬ Ow K (upd H1 D (.lst [])) F1 (wipeR ρ1 vs) (wipe σ vs) i D := Ww.not_ow hD (same_upd hD)
    refine ⟨fun i m H2 => m = xs.length - i ∧ i ≤ xs.length ∧ ∃ ρi Fi acc us, Ste K G (wipeR ρ1 vs) (wipe σ vs) H1 F1 ρi H2 Fi ∧ H2 D = some (.lst us) ∧ Reps K Fi us acc ∧ Fi D = none ∧ (∀ i, ¬ Ow K H2 Fi ρi (wipe σ vs) i D) ∧ (∀ v ∈ vs, ∀ s, ρi[v]? = some s → s = .no) ∧ lcM vs g t e (xs.drop i) acc ρi = some (accE, ρE),
      ⟨xs.length, by simp, Nat.zero_le _, wipeR ρ1 vs, F1, [], [], s0, upd_same, .nil, fD, now0, fun v hv s es => wipeR_mem hv es, e2⟩, ?_⟩
    rintro i m H2 ⟨rfl, hi, ρi, Fi, acc, us, si, hDi, ri, fi, oi, pi, hf⟩
    have Wi := si.wd
    by_cases hlt : i < xs.length
    · refine .inr ⟨jr.go i H2 (si.ff.trans Wi.sub) hlt, fun H' => ∃ ρi Fi acc us, Ste K G (wipeR ρ1 vs) (wipe σ vs) H1 F1 ρi H' Fi ∧ H' D = some (.lst us) ∧ Reps K Fi us acc ∧ Fi D = none ∧ (∀ i, ¬ Ow K H' Fi ρi (wipe σ vs) i D) ∧ (∀ v ∈ vs, ∀ s, ρi[v]? = some s → s = .no) ∧ lcM vs g t e (xs.drop (i + 1)) acc ρi = some (accE, ρE),
        fun H' ⟨ρj, Fj, acj, uj, a1, a2, a3, a4, a5, a6, a7⟩ => ⟨xs.length - (i + 1), by omega, rfl, hlt, ρj, Fj, acj, uj, a1, a2, a3, a4, a5, a6, a7⟩, fun x H' y => ?_⟩
      obtain ⟨F3, d, A3, hd, Rd⟩ := jr.yl i H2 Fi x H' hlt si.ff Wi.sub y
      have s3 := Wi.alc A3
      have ed : xs[i] = d := by
        rw [List.getElem?_eq_getElem hlt] at hd
        exact Option.some.inj hd
      rw [List.drop_eq_getElem_cons hlt, ed] at hf
      unfold lcM at hf
      obtain ⟨ρ4, e4, hf⟩ := Option.bind_eq_some_iff.mp hf
      obtain ⟨⟨b5, ρ5⟩, e5, hf⟩ := Option.bind_eq_some_iff.mp hf
      have h3D : H' D = some (.lst us) := s3.kk D _ hDi oi
      have f3D : F3 D = none := by
        cases z : F3 D with
        | none => rfl
        | some o =>
          rcases s3.nf D (by rw [z]; simp) with q | q | ⟨k, q⟩
          · exact absurd fi q
          · rw [hDi] at q; cases q
          · exact absurd q (oi k)
      refine ⟨G, ρi, F3, d, ρ4, s3.wd, Rd, e4, fun σ4 W4 m4 => ⟨wipe_of_mod sub m4, ?_⟩⟩
      obtain ⟨g1, g2⟩ := gok _ _ _ e4
      -- slots of one's own before and behind the target
      have ow4' : ∀ {j : Nat} {a : Addr}, Ow K H' F3 ρ4 σ4 j a → Ow K H' F3 ρi (wipe σ vs) j a := fun {j a} o => by
        rcases o with ⟨⟨ys, o1⟩, o2⟩ | ⟨t, u, L, o1, o2, o3, o4⟩
        rotate_left
        · have nj : j ∉ vs := fun z => by
            rcases o1 with o1 | o1
            · rcases g2 j _ o1 with q | ⟨_, q⟩
              · cases pi j z _ q
              · cases q
            · rcases g2 j _ o1 with q | ⟨_, q⟩
              · cases pi j z _ q
              · cases q
          unfold obS at o1
          rw [g1 j fun z => nj (sub j z)] at o1
          exact .inr ⟨t, u, L, o1, by rw [← m4.2 j fun z => nj (sub j z)]; exact o2, o3, o4⟩
        have nj : j ∉ vs := fun z => by
          rcases o1 with o1 | o1 | ⟨zs, o1⟩
          · rcases g2 j _ o1 with q | ⟨_, q⟩
            · cases pi j z _ q
            · cases q
          · rcases g2 j _ o1 with q | ⟨_, q⟩
            · cases pi j z _ q
            · cases q
          · rcases g2 j _ o1 with q | ⟨_, q⟩
            · cases pi j z _ q
            · cases q
        rw [g1 j fun z => nj (sub j z)] at o1
        exact .inl ⟨⟨ys, o1⟩, by rw [← m4.2 j fun z => nj (sub j z)]; exact o2⟩
      have ow4 : ∀ {j : Nat} {a : Addr}, Ow K H' F3 ρ4 σ4 j a → Ow K H2 Fi ρi (wipe σ vs) j a ∨ H2 a = none := fun o => s3.oo _ _ (ow4' o)
      have turn : ∀ {ρ6 : Rho} {H6 F6 : Hp}, Ste K G ρ4 σ4 H' F3 ρ6 H6 F6 → Ste K G (wipeR ρ1 vs) (wipe σ vs) H1 F1 (wipeR ρ6 vs) H6 F6 ∧ H6 D = some (.lst us) ∧ F6 D = none ∧ (∀ i, ¬ Ow K H6 F6 (wipeR ρ6 vs) (wipe σ vs) i D) := fun {ρ6 H6 F6} s6 => by
        have ow6 : ∀ {j : Nat} {a : Addr}, Ow K H6 F6 (wipeR ρ6 vs) (wipe σ vs) j a → Ow K H2 Fi ρi (wipe σ vs) j a ∨ H2 a = none := fun {j a} o => by
          have back2 : H' a = none → H2 a = none := fun z => s3.back a z
          rcases o with ⟨⟨ys, o1⟩, o2⟩ | ⟨t, u, L, o1, o2, o3, o4⟩
          rotate_left
          · have nj : j ∉ vs := fun z => by
              rcases o1 with o1 | o1
              · cases wipeR_mem z o1
              · cases wipeR_mem z o1
            unfold obS at o1
            rw [wipeR_ne nj] at o1
            exact (s6.oo j a (.inr ⟨t, u, L, o1, by rw [m4.2 j fun z => nj (sub j z)]; exact o2, o3, o4⟩)).elim ow4 fun z => .inr (back2 z)
          have nj : j ∉ vs := fun z => by
            rcases o1 with o1 | o1 | ⟨zs, o1⟩
            · cases wipeR_mem z o1
            · cases wipeR_mem z o1
            · cases wipeR_mem z o1
          rw [wipeR_ne nj] at o1
          exact (s6.oo j a (.inl ⟨⟨ys, o1⟩, by rw [m4.2 j fun z => nj (sub j z)]; exact o2⟩)).elim ow4 fun z => .inr (back2 z)
        have W6 : Wd K G (wipeR ρ6 vs) (wipe σ vs) H6 F6 := wd_wipe s6.wd (fun j hj => (m4.2 j fun z => hj (sub j z)).symm) m4.1.symm fun v hv s es => ⟨(fun xs z => by
          subst z
          obtain ⟨a, _, _, _, _, _, e5⟩ := s6.wd.sl v _ es
          obtain ⟨⟨ys, y1⟩, _⟩ := Wi.ai v a e5
          cases pi v hv _ y1), (fun t z => by
          subst z
          obtain ⟨_, _, _, _, ⟨_, a, e5⟩, _⟩ := s6.wd.sl v _ es
          obtain ⟨⟨ys, y1⟩, _⟩ := Wi.ao v a e5
          cases pi v hv _ y1)⟩
        have d4 : ∀ i, ¬ Ow K H' F3 ρ4 σ4 i D := fun k o => (ow4 o).elim (oi k) fun z => (by rw [hDi] at z; cases z)
        refine ⟨⟨W6, (si.ff.trans A3.ff).trans s6.ff, fun b o hb n => ?_, fun b hb => ?_, fun k a o => (ow6 o).elim (si.oo k a) fun z => .inr (si.back a z), fun b hb => s6.tr b (s3.tr b (si.tr b hb))⟩, s6.kk D _ h3D d4, ?_, fun k o => (ow6 o).elim (oi k) fun z => (by rw [hDi] at z; cases z)⟩
        · have n2 : ∀ k, ¬ Ow K H2 Fi ρi (wipe σ vs) k b := fun k z => (si.oo k b z).elim (n k) fun y => (by rw [hb] at y; cases y)
          exact s6.kk b o (s3.kk b o (si.kk b o hb n) n2) fun k z => (ow4 z).elim (n2 k) fun y => (by rw [si.back b y] at hb; cases hb)
        · have fromF3 : F3 b ≠ none → F1 b ≠ none ∨ H1 b = none ∨ ∃ i, Ow K H1 F1 (wipeR ρ1 vs) (wipe σ vs) i b := fun z => by
            rcases s3.nf b z with q | q | ⟨k, q⟩
            · exact si.nf b q
            · exact .inr (.inl (si.back b q))
            · exact (si.oo k b q).elim (fun y => .inr (.inr ⟨k, y⟩)) fun y => .inr (.inl y)
          rcases s6.nf b hb with q | q | ⟨k, q⟩
          · exact fromF3 q
          · exact .inr (.inl (si.back b (s3.back b q)))
          · exact (ow4 q).elim (fun z => (si.oo k b z).elim (fun y => .inr (.inr ⟨k, y⟩)) fun y => .inr (.inl y)) fun z => .inr (.inl (si.back b z))
        · cases z : F6 D with
          | none => rfl
          | some o =>
            rcases s6.nf D (by rw [z]; simp) with q | q | ⟨k, q⟩
            · exact absurd f3D q
            · rw [h3D] at q; cases q
            · exact absurd q (d4 k)
      refine ⟨G, ρ4, F3, b5, ρ5, W4, e5, fun H5 F5 s5 => ?_⟩
      cases b5 with
      | false =>
        simp only [Bool.false_eq_true, if_false] at hf ⊢
        obtain ⟨t1, t2, t3, t4⟩ := turn s5
        exact ⟨wipeR ρ5 vs, F5, acc, us, t1, t2, ri.mono (A3.ff.trans s5.ff), t3, t4, fun v hv s es => wipeR_mem hv es, hf⟩
      | true =>
        simp only [if_true] at hf ⊢
        obtain ⟨⟨r6, ρ6⟩, e6, hf⟩ := Option.bind_eq_some_iff.mp hf
        obtain ⟨⟨x7, ρ7⟩, e7, hf⟩ := Option.bind_eq_some_iff.mp hf
        split at hf
        · rename_i hlen
          refine tm_use s5.wd e6 fun v6 H6 F6 s6 R6 => ?_
          obtain ⟨F7, s7, R7⟩ := frz_ok s6.wd R6 e7
          have s57 := (s5.trans s6).trans s7
          obtain ⟨t1, t2, t3, t4⟩ := turn s57
          have ra : Reps K F7 us acc := ri.mono (A3.ff.trans s57.ff)
          refine ⟨us, t2, lim_lt (by rw [ra.len]; exact hlen), wipeR ρ7 vs, F7, acc ++ [x7], us ++ [v6], ste_upd Ww t1 hD t3 t4, upd_same, ra.append (.cons R7 .nil), t3, (fun i o => t4 i (t1.wd.upd_ow t4 o)), fun v hv s es => wipeR_mem hv es, hf⟩
        · cases hf
    · have e : i = xs.length := by omega
      subst e
      rw [List.drop_length] at hf
      cases hf
      refine .inl ⟨jr.st _ H2 (si.ff.trans Wi.sub) (Nat.le_refl _), ?_⟩
      have sU := unwipe W1 pl si
      exact q _ H2 Fi (s1.trans sU) ⟨D, us, rfl, hDi, ri, fi, s1.back D hD, fun k o => oi k (unwipe_ow pl o)⟩
  · cases hm
end
section
variable {X : Cx} {elt tg iter : Expr} {ifs : List Expr} {scope : Scope} {own : List (Str × Nat)} {pos : Pos} {src : M (List D)} {is : List Nat} {g : D → Rho → Option Rho} {t : M Bool} {e : M Vl}
theorem se_lc (hc : X.calm = true) (hN : X.N.Nodup) (hi : SI X tg iter src) (ok : BlkOk X.N X.env.scope scope own) (sub : ∀ i ∈ is, i ∈ own.map (·.2)) (gok : GOk is g)
    (hg : ∀ (s : Shared) (H : Hp) (C : Addr) (cl : List (Str × Addr)) (fp : List Addr), SG (X.blk s H scope (compEnvC scope cl C X.env) fp) tg is g) (ht : ∀ (s : Shared) (H : Hp) (C : Addr) (cl : List (Str × Addr)) (fp : List Addr), STs (X.blk s H scope (compEnvC scope cl C X.env) fp) ifs t)
    (he : ∀ (s : Shared) (H : Hp) (C : Addr) (cl : List (Str × Addr)) (fp : List Addr), SE (X.blk s H scope (compEnvC scope cl C X.env) fp) elt e) (hs : ∀ x, foldedSetIterable iter X.env x = pure x := by intro _; rfl) :
    SE X (.ListComp elt [⟨tg, iter, ifs, 0⟩] scope pos) (eLc (own.map (·.2)) src g t e) :=
  pe_weak (pe_lc hc hN hi ok hg ht he hs) fun _ _ _ h => tlc_of sub gok h
theorem ss_setlc {i : Nat} {y : Str} {py : Pos} {spos : Pos} (hc : X.calm = true) (hN : X.N.Nodup) (hy : X.N[i]? = some y) (hyl : X.env.scope.names.lookup y = some .local)
    (hsw : swapsWith (.ListComp elt [⟨tg, iter, ifs, 0⟩] scope pos) (some (.Name y py)) spos.line X.env = pure true) (hi : SI X tg iter src) (ok : BlkOk X.N X.env.scope scope own) (sub : ∀ i ∈ is, i ∈ own.map (·.2)) (gok : GOk is g)
    (hg : ∀ (s : Shared) (H : Hp) (C : Addr) (cl : List (Str × Addr)) (fp : List Addr), SG (X.blk s H scope (compEnvC scope cl C X.env) fp) tg is g) (ht : ∀ (s : Shared) (H : Hp) (C : Addr) (cl : List (Str × Addr)) (fp : List Addr), STs (X.blk s H scope (compEnvC scope cl C X.env) fp) ifs t)
    (he : ∀ (s : Shared) (H : Hp) (C : Addr) (cl : List (Str × Addr)) (fp : List Addr), SE (X.blk s H scope (compEnvC scope cl C X.env) fp) elt e) (hs : ∀ x, foldedSetIterable iter X.env x = pure x := by intro _; rfl) :
    SSW X Wx (.Assign [.Name y py] (.ListComp elt [⟨tg, iter, ifs, 0⟩] scope pos) spos) (sAsg i (eLc (own.map (·.2)) src g t e)) :=
  ps_weak (ps_setLc hc hN hy hyl hsw hi ok hg ht he hs) fun D σ H h => by
    obtain ⟨G, ρ, F, r, ρ', W, hm, q⟩ := sasg_of h
    exact tlc_of sub gok ⟨G, ρ, F, r, ρ', W, hm, q⟩
end
end Sw
namespace Sw
open PySem PySem.Spec PyProof.Rows L2
theorem vw_int {K : Kx} {H F : Hp} {v : V} {i : Int} (h : Vw K H F v (.int i)) : v = .int i := by
  cases (show Rep K F v (.int i) from h); rfl
theorem vw_bl {K : Kx} {H F : Hp} {v : V} {i : Bool} (h : Vw K H F v (.bl i)) : v = .bl i := by
  cases (show Rep K F v (.bl i) from h); rfl
theorem vw_str {K : Kx} {H F : Hp} {v : V} {s : List Nat} (h : Vw K H F v (.str s)) : v = .str ⟨s.toArray⟩ := by
  cases (show Rep K F v (.str s) from h); rfl
theorem vw_non {K : Kx} {H F : Hp} {v : V} (h : Vw K H F v .non) : v = .non := by
  cases (show Rep K F v .non from h); rfl
section
variable {K : Kx}
noncomputable def fInt (g : Int → Int → D) : D → D → Option D
  | .int i, .int j => some (g i j)
  | _, _ => none
noncomputable def fIntC (C : Int → Int → Bool) (g : Int → Int → D) : D → D → Option D
  | .int i, .int j => if C i j = true then some (g i j) else none
  | _, _ => none
theorem os_int {g : Int → Int → D} {h : Int → Int → V} (r : ∀ i j F, Rep K F (h i j) (g i j)) : OpS K (rI0 h) (fInt g) := by
  intro H F v u x y z s hx hy e Q q
  unfold fInt at e
  split at e
  · cases e
    rw [vw_int hx, vw_int hy]
    exact ⟨_, _, rfl, rfl, q _ H F (Alc.refl s) (r _ _ F)⟩
  · cases e
theorem os_intC {C : Int → Int → Prop} {c : Int → Int → Bool} {g : Int → Int → D} {h : Int → Int → V} (hc : ∀ i j, c i j = true → C i j) (r : ∀ i j F, Rep K F (h i j) (g i j)) : OpS K (rI C h) (fIntC c g) := by
  intro H F v u x y z s hx hy e Q q
  unfold fIntC at e
  split at e
  · split at e
    · rename_i hC
      cases e
      rw [vw_int hx, vw_int hy]
      exact ⟨_, _, rfl, rfl, hc _ _ hC, q _ H F (Alc.refl s) (r _ _ F)⟩
    · cases e
  · cases e
noncomputable def fCatS : D → D → Option D
  | .str a, .str b => if a.length + b.length ≤ lim then some (.str (a ++ b)) else none
  | _, _ => none
theorem os_catS : OpS K (fun x y H Q => ∃ i j : Str, x = .str i ∧ y = .str j ∧ i.length + j.length ≤ sizeLine ∧ Q (.str (i ++ j)) H) fCatS := by
  intro H F v u x y z s hx hy e Q q
  unfold fCatS at e
  split at e
  · split at e
    · rename_i hl
      cases e
      rw [vw_str hx, vw_str hy]
      refine ⟨_, _, rfl, rfl, lim_of (by simpa [Str.length] using hl), q _ H F (Alc.refl s) ?_⟩
      have e : ∀ a b : List Nat, ((⟨a.toArray⟩ : Str) ++ ⟨b.toArray⟩) = ⟨(a ++ b).toArray⟩ := fun a b => by
        show (⟨a.toArray ++ b.toArray⟩ : Str) = _
        simp
      rw [e]
      exact .str _
    · cases e
  · cases e
noncomputable def fCatL : D → D → Option D
  | .lst a, .lst b => if a.length + b.length ≤ lim then some (.lst (a ++ b)) else none
  | _, _ => none
theorem os_catL : OpS K rCat fCatL := by
  intro H F v u x y z s hx hy e Q q
  unfold fCatL at e
  split at e
  · split at e
    · rename_i hl
      cases e
      obtain ⟨a, vs, rfl, h1, h2⟩ := hx
      obtain ⟨b, us, rfl, h3, h4⟩ := hy
      refine ⟨a, b, vs, us, rfl, rfl, h1, h3, lim_of (by rw [h2.len, h4.len]; exact hl), fun p hp => ?_⟩
      have A := Alc.new (o := HO.lst (vs ++ us)) s hp
      exact q _ _ _ A (.lst upd_same ((h2.append h4).mono A.ff))
    · cases e
  · cases e
noncomputable def fCatT : D → D → Option D
  | .tup a, .tup b => if a.length + b.length ≤ lim then some (.tup (a ++ b)) else none
  | _, _ => none
theorem os_catT : OpS K (rCatA K) fCatT := by
  intro H F v u x y z s hx hy e Q q
  unfold fCatT at e
  split at e
  · split at e
    · rename_i hl
      cases e
      cases (show Rep K F v (.tup _) from hx) with
      | @tup a vs _ h1 h2 =>
        cases (show Rep K F u (.tup _) from hy) with
        | @tup b us _ h3 h4 =>
          refine ⟨a, b, vs, us, rfl, rfl, same_t s h1, same_t s h3, lim_of (by rw [h2.len, h4.len]; exact hl), fun z => ?_, fun _ z => ?_, fun _ _ p hp => ?_⟩
          · subst z
            cases h2
            exact q _ H F (Alc.refl s) (.tup h3 h4)
          · subst z
            cases h4
            rw [List.append_nil] at q
            exact q _ H F (Alc.refl s) (.tup h1 h2)
          · have A := Alc.new (o := HO.tup (vs ++ us)) s hp
            exact q _ _ _ A (.tup (SqT.of upd_same) ((h2.append h4).mono A.ff))
    · cases e
  · cases e
noncomputable def eqS : D → D → Option Bool
  | .int i, .int j => some (decide (i = j))
  | .str i, .str j => some (decide (i = j))
  | .bl i, .bl j => some (decide (i = j))
  | .non, .non => some true
  | .non, .int _ => some false
  | .non, .str _ => some false
  | .non, .bl _ => some false
  | .int _, .non => some false
  | .str _, .non => some false
  | .bl _, .non => some false
  | .int _, .str _ => some false
  | .str _, .int _ => some false
  | .bl _, .str _ => some false
  | .str _, .bl _ => some false
  | _, _ => none
noncomputable def fEqS : D → D → Option D := fun x y => (eqS x y).bind fun b => some (.bl b)
noncomputable def fNeS : D → D → Option D := fun x y => (eqS x y).bind fun b => some (.bl (!b))
theorem eqS_ok {H F : Hp} {v u : V} {x y : D} {b : Bool} (hx : Vw K H F v x) (hy : Vw K H F u y) (e : eqS x y = some b) : scal v u = true ∧ decide (v = u) = b := by
  unfold eqS at e
  split at e <;> (first | cases e | skip)
  · rw [vw_int hx, vw_int hy]; exact ⟨rfl, by simp⟩
  · rw [vw_str hx, vw_str hy]; exact ⟨rfl, by simp⟩
  · rw [vw_bl hx, vw_bl hy]; exact ⟨rfl, by simp⟩
  · rw [vw_non hx, vw_non hy]; exact ⟨rfl, by simp⟩
  · rw [vw_non hx, vw_int hy]; exact ⟨rfl, by simp⟩
  · rw [vw_non hx, vw_str hy]; exact ⟨rfl, by simp⟩
  · rw [vw_non hx, vw_bl hy]; exact ⟨rfl, by simp⟩
  · rw [vw_int hx, vw_non hy]; exact ⟨rfl, by simp⟩
  · rw [vw_str hx, vw_non hy]; exact ⟨rfl, by simp⟩
  · rw [vw_bl hx, vw_non hy]; exact ⟨rfl, by simp⟩
  · rw [vw_int hx, vw_str hy]; exact ⟨rfl, by simp⟩
  · rw [vw_str hx, vw_int hy]; exact ⟨rfl, by simp⟩
  · rw [vw_bl hx, vw_str hy]; exact ⟨rfl, by simp⟩
  · rw [vw_str hx, vw_bl hy]; exact ⟨rfl, by simp⟩
theorem os_eq : OpS K rEq fEqS := by
  intro H F v u x y z s hx hy e Q q
  obtain ⟨b, e1, e⟩ := Option.bind_eq_some_iff.mp e
  cases e
  obtain ⟨h1, h2⟩ := eqS_ok hx hy e1
  exact ⟨h1, by rw [h2]; exact q _ H F (Alc.refl s) (.bl b)⟩
theorem os_ne : OpS K rNe fNeS := by
  intro H F v u x y z s hx hy e Q q
  obtain ⟨b, e1, e⟩ := Option.bind_eq_some_iff.mp e
  cases e
  obtain ⟨h1, h2⟩ := eqS_ok hx hy e1
  exact ⟨h1, by rw [h2]; exact q _ H F (Alc.refl s) (.bl _)⟩
noncomputable def fIsN : D → D → Option D
  | .non, .non => some (.bl true)
  | _, .non => some (.bl false)
  | _, _ => none
noncomputable def fNotN : D → D → Option D
  | .non, .non => some (.bl false)
  | _, .non => some (.bl true)
  | _, _ => none
noncomputable def fIsB : D → D → Option D
  | .bl a, .bl b => some (.bl (decide (a = b)))
  | _, _ => none
noncomputable def fNotB : D → D → Option D
  | .bl a, .bl b => some (.bl (!decide (a = b)))
  | _, _ => none
noncomputable def fInS : D → D → Option D
  | .str [c], .str s => some (.bl (decide (c ∈ s)))
  | _, _ => none
noncomputable def fNiS : D → D → Option D
  | .str [c], .str s => some (.bl (!decide (c ∈ s)))
  | _, _ => none
theorem os_inS : OpS K (fun x y H Q => ∃ (c : Nat) (z : Str), x = .str ⟨#[c]⟩ ∧ y = .str z ∧ Q (.bl (decide (c ∈ z.cps.toList))) H) fInS := by
  intro H F v u x y z s hx hy e Q q
  unfold fInS at e
  split at e
  · cases e
    rw [vw_str hx, vw_str hy]
    exact ⟨_, _, rfl, rfl, by simpa using q _ H F (Alc.refl s) (.bl _)⟩
  · cases e
theorem os_niS : OpS K (fun x y H Q => ∃ (c : Nat) (z : Str), x = .str ⟨#[c]⟩ ∧ y = .str z ∧ Q (.bl (!decide (c ∈ z.cps.toList))) H) fNiS := by
  intro H F v u x y z s hx hy e Q q
  unfold fNiS at e
  split at e
  · cases e
    rw [vw_str hx, vw_str hy]
    exact ⟨_, _, rfl, rfl, by simpa using q _ H F (Alc.refl s) (.bl _)⟩
  · cases e
noncomputable def fIxS : D → D → Option D
  | .str s, .int i => if s.length ≤ lim then (atI s i).bind fun c => some (.str [c]) else none
  | _, _ => none
noncomputable def fIxT : D → D → Option D
  | .tup xs, .int i => atI xs i
  | _, _ => none
noncomputable def fIxL : D → D → Option D
  | .lst xs, .int i => atI xs i
  | _, _ => none
theorem atI_reps {F : Hp} {vs : List V} {xs : List D} {i : Int} {x : D} (r : Reps K F vs xs) (h : atI xs i = some x) : ∃ v, atI vs i = some v ∧ Rep K F v x := by
  unfold atI at h ⊢
  obtain ⟨j, e1, e2⟩ := Option.bind_eq_some_iff.mp h
  obtain ⟨v, h1, h2⟩ := r.get' e2
  rw [r.len, e1]
  exact ⟨v, h1, h2⟩
theorem os_ixS : OpS K rIxS fIxS := by
  intro H F v u x y z s hx hy e Q q
  unfold fIxS at e
  split at e
  · split at e
    · rename_i hl
      obtain ⟨c, e1, e⟩ := Option.bind_eq_some_iff.mp e
      cases e
      rw [vw_str hx, vw_int hy]
      exact ⟨_, _, c, rfl, rfl, lim_of (by simpa [Str.length] using hl), by simpa using e1, q _ H F (Alc.refl s) (.str [c])⟩
    · cases e
  · cases e
theorem os_ixT : OpS K (rIxT K) fIxT := by
  intro H F v u x y z s hx hy e Q q
  unfold fIxT at e
  split at e
  · cases (show Rep K F v (.tup _) from hx) with
    | tup h1 h2 =>
      rw [vw_int hy]
      obtain ⟨w, e1, r⟩ := atI_reps h2 e
      exact ⟨_, _, _, w, rfl, rfl, same_t s h1, e1, q _ H F (Alc.refl s) r⟩
  · cases e
theorem os_ixL : OpS K (rIxL K) fIxL := by
  intro H F v u x y z s hx hy e Q q
  unfold fIxL at e
  split at e
  · obtain ⟨a, vs, rfl, h1, h2⟩ := hx
    rw [vw_int hy]
    obtain ⟨w, e1, r⟩ := atI_reps h2 e
    exact ⟨_, _, _, w, rfl, rfl, SqL.of h1, e1, q _ H F (Alc.refl s) r⟩
  · cases e
noncomputable def cutL {α : Type} (xs : List α) (lo hi : Option Int) : List α := (xs.drop (HT.sIx xs.length 0 lo)).take (HT.sIx xs.length xs.length hi - HT.sIx xs.length 0 lo)
noncomputable def fSlS : D → Option Int → Option Int → Option D
  | .str s, lo, hi => if s.length ≤ lim then some (.str (cutL s lo hi)) else none
  | _, _, _ => none
noncomputable def fSlL : D → Option Int → Option Int → Option D
  | .lst s, lo, hi => some (.lst (cutL s lo hi))
  | _, _, _ => none
noncomputable def orSl (f g : D → Option Int → Option Int → Option D) : D → Option Int → Option Int → Option D := fun x lo hi => match f x lo hi with
  | some z => some z
  | none => g x lo hi
theorem SlS.or {r r' : V → Option Int → Option Int → Hp → VK → Prop} {f g : D → Option Int → Option Int → Option D} (h : SlS K r f) (h' : SlS K r' g) : SlS K (fun x lo hi H Q => r x lo hi H Q ∨ r' x lo hi H Q) (orSl f g) := by
  intro H F v x z lo hi s hx e Q q
  unfold orSl at e
  cases e1 : f x lo hi with
  | some w =>
    simp [e1] at e; subst e
    exact .inl (h H F v x w lo hi s hx e1 Q q)
  | none =>
    simp [e1] at e
    exact .inr (h' H F v x z lo hi s hx e Q q)
theorem sls_str : SlS K rSlS fSlS := by
  intro H F v x z lo hi s hx e Q q
  unfold fSlS at e
  split at e
  · split at e
    · rename_i hl
      cases e
      rw [vw_str hx]
      refine ⟨_, rfl, lim_of (by simpa [Str.length] using hl), ?_⟩
      have e : ∀ s : List Nat, cutS ⟨s.toArray⟩ lo hi = ⟨(cutL s lo hi).toArray⟩ := fun s => by simp [cutS, cutL, Str.length]
      rw [e]
      exact q _ H F (Alc.refl s) (.str _)
    · cases e
  · cases e
theorem cutV_reps {F : Hp} {vs : List V} {xs : List D} {lo hi : Option Int} (r : Reps K F vs xs) : Reps K F (cutV vs lo hi) (cutL xs lo hi) := by
  unfold cutV cutL
  rw [r.len]
  exact (r.drop _).take _
theorem sls_list : SlS K (rSlL K) fSlL := by
  intro H F v x z lo hi s hx e Q q
  unfold fSlL at e
  split at e
  · cases e
    obtain ⟨a, vs, rfl, h1, h2⟩ := hx
    refine ⟨a, vs, rfl, SqL.of h1, fun p hp => ?_⟩
    have A := Alc.new (o := HO.lst (cutV vs lo hi)) s hp
    exact q _ _ _ A (.lst upd_same ((cutV_reps h2).mono A.ff))
  · cases e
theorem vws1 {H F : Hp} {vs : List V} {x : D} (h : Vws K H F vs [x]) : ∃ v, vs = [v] ∧ Vw K H F v x := by
  match vs, h with
  | [v], h => exact ⟨v, rfl, h.1⟩
theorem vws2 {H F : Hp} {vs : List V} {x y : D} (h : Vws K H F vs [x, y]) : ∃ v u, vs = [v, u] ∧ Vw K H F v x ∧ Vw K H F u y := by
  match vs, h with
  | [v, u], h => exact ⟨v, u, rfl, h.1, h.2.1⟩
noncomputable def cLen : List D → Option D
  | [.str s] => if s.length ≤ lim then some (.int s.length) else none
  | [.lst xs] => some (.int xs.length)
  | [.tup xs] => some (.int xs.length)
  | [.scr xs] => some (.int xs.length)
  | _ => none
theorem cs_len : CallS K (fun xs H Q => ∃ x n, xs = [x] ∧ LenV K x H n ∧ Q (.int n) H) cLen := by
  intro H F vs xs z s hx e Q q
  unfold cLen at e
  split at e
  · split at e
    · rename_i hl
      cases e
      obtain ⟨v, rfl, hv⟩ := vws1 hx
      rw [vw_str hv]
      refine ⟨_, _, rfl, ⟨lim_of (by simpa [Str.length] using hl), rfl⟩, ?_⟩
      have := q _ H F (Alc.refl s) (.int _)
      simpa [Str.length] using this
    · cases e
  · cases e
    obtain ⟨v, rfl, a, us, rfl, h1, h2⟩ := vws1 hx
    exact ⟨_, _, rfl, .inl ⟨us, SqL.of h1, rfl⟩, by rw [h2.len]; exact q _ H F (Alc.refl s) (.int _)⟩
  · cases e
    obtain ⟨v, rfl, hv⟩ := vws1 hx
    cases (show Rep K F v (.tup _) from hv) with
    | tup h1 h2 => exact ⟨_, _, rfl, .inr ⟨_, same_t s h1, rfl⟩, by rw [h2.len]; exact q _ H F (Alc.refl s) (.int _)⟩
  · cases e
    obtain ⟨v, rfl, hv⟩ := vws1 hx
    cases (show Rep K F v (.scr _) from hv) with
    | scr h1 => exact ⟨_, _, rfl, .inl ⟨_, s.seq h1, rfl⟩, by rw [List.length_map]; exact q _ H F (Alc.refl s) (.int _)⟩
  · cases e
noncomputable def cInt : List D → Option D
  | [.int i] => some (.int i)
  | [.bl b] => some (.int (if b then 1 else 0))
  | _ => none
theorem cs_int : CallS K (fun xs H Q => (∃ i, xs = [.int i] ∧ Q (.int i) H) ∨ ∃ k, xs = [.bl k] ∧ Q (.int (if k then 1 else 0)) H) cInt := by
  intro H F vs xs z s hx e Q q
  unfold cInt at e
  split at e
  · cases e
    obtain ⟨v, rfl, hv⟩ := vws1 hx
    rw [vw_int hv]
    exact .inl ⟨_, rfl, q _ H F (Alc.refl s) (.int _)⟩
  · cases e
    obtain ⟨v, rfl, hv⟩ := vws1 hx
    rw [vw_bl hv]
    exact .inr ⟨_, rfl, q _ H F (Alc.refl s) (.int _)⟩
  · cases e
end
section
variable {X : Cx}
noncomputable def rMulS : R2 := fun x y H Q => ∃ (z : Str) (n : Int), x = .str z ∧ y = .int n ∧ MulOk z n ∧ Q (.str (Txt.mul z n)) H
theorem op_mulS : OpR X (binaryOp .Mult) rMulS := by
  intro pins s σ H x y v u Q I rx ry h
  obtain ⟨z, n, rfl, rfl, ok, q⟩ := h
  obtain ⟨t, rfl⟩ := rx
  obtain ⟨t', rfl⟩ := ry
  exact SB.mul ok fun t2 k => ⟨.str _, H, I.tok k, ⟨_, rfl⟩, q⟩
/-- one sign, times n -/
noncomputable def fMulS : D → D → Option D
  | .str [c], .int n => if -1000000 ≤ n ∧ n ≤ 1000000 then some (.str (List.replicate n.toNat c)) else none
  | _, _ => none
theorem fold_rep (c : Nat) : ∀ (n : Nat) (acc : Array Nat), (List.replicate n #[c]).foldl (· ++ ·) acc = acc ++ (List.replicate n c).toArray
  | 0, acc => by simp
  | n + 1, acc => by
    rw [List.replicate_succ, List.foldl_cons, fold_rep c n, List.replicate_succ]
    apply Array.ext'
    simp
theorem mul_txt (c : Nat) (n : Int) : Txt.mul ⟨#[c]⟩ n = ⟨(List.replicate n.toNat c).toArray⟩ := by
  unfold Txt.mul
  by_cases h : n < 1
  · rw [if_pos h, show n.toNat = 0 by omega]
    rfl
  · rw [if_neg h]
    by_cases h1 : n = 1
    · subst h1; rfl
    · rw [if_neg (by simp [h1]; show ¬ (1 = 0); decide)]
      show (⟨(List.replicate n.toNat #[c]).foldl (· ++ ·) #[]⟩ : Str) = _
      rw [fold_rep]
      simp
theorem os_mulS {K : Kx} : OpS K rMulS fMulS := by
  intro H F v u x y z s hx hy e Q q
  unfold fMulS at e
  split at e
  · split at e
    · rename_i hc
      cases e
      rw [vw_str hx, vw_int hy]
      refine ⟨_, _, rfl, rfl, mulOk_of 1 1000000 (Nat.le_refl 1) hc.2 (Int.le_trans (by decide) hc.1) (by decide) (by decide), ?_⟩
      rw [mul_txt]
      exact q _ H F (Alc.refl s) (.str _)
    · cases e
  · cases e
noncomputable def fLtS : D → D → Option D
  | .str a, .str b => some (.bl (decide (a < b)))
  | _, _ => none
theorem os_ltS {K : Kx} : OpS K (fun x y H Q => ∃ i j, x = .str i ∧ y = .str j ∧ Q (.bl (decide (i.cps.toList < j.cps.toList))) H) fLtS := by
  intro H F v u x y z s hx hy e Q q
  unfold fLtS at e
  split at e
  · cases e
    rw [vw_str hx, vw_str hy]
    exact ⟨_, _, rfl, rfl, q _ H F (Alc.refl s) (.bl _)⟩
  · cases e
end
mutual
noncomputable def toP : D → PyData
  | .non => .none
  | .bl b => .bool b
  | .int i => .int i
  | .str s => .str ⟨s.toArray⟩
  | .lst xs => .list (toPs xs)
  | .tup xs => .tuple (toPs xs)
  | .scr xs => .list (xs.map .int)
  | .obj _ _ _ => .none
noncomputable def toPs : List D → List PyData
  | [] => []
  | x :: xs => toP x :: toPs xs
end
mutual
/-- no instance within -/
noncomputable def plnD : D → Bool
  | .lst xs => plnDs xs
  | .tup xs => plnDs xs
  | .obj _ _ _ => false
  | _ => true
noncomputable def plnDs : List D → Bool
  | [] => true
  | x :: xs => plnD x && plnDs xs
end
theorem dp_ints {K : Kx} {H : Hp} : ∀ xs : List Int, DpAll K H (xs.map V.int) (xs.map PyData.int)
  | [] => .nil
  | i :: xs => .cons (.int i) (dp_ints xs)
mutual
theorem Rep.dp {K : Kx} {F H : Hp} (s : Same F H) : ∀ {v : V} {d : D}, plnD d = true → Rep K F v d → Dp K H v (toP d)
  | _, _, _, .non => by unfold toP; exact .non
  | _, _, _, .bl b => by unfold toP; exact .bl b
  | _, _, _, .int i => by unfold toP; exact .int i
  | _, _, _, .str x => by unfold toP; exact .str _
  | _, _, p, .lst h r => by unfold toP; unfold plnD at p; exact .lst (SqL.of (s _ _ h)) (Reps.dp s p r)
  | _, _, _, .scr h => by unfold toP; exact .lst (s.seq h) (dp_ints _)
  | _, _, p, .tup h r => by unfold toP; unfold plnD at p; exact .tup (same_t s h) (Reps.dp s p r)
  | _, _, p, .obj _ _ _ _ => by unfold plnD at p; cases p
theorem Reps.dp {K : Kx} {F H : Hp} (s : Same F H) : ∀ {vs : List V} {ds : List D}, plnDs ds = true → Reps K F vs ds → DpAll K H vs (toPs ds)
  | _, _, _, .nil => by unfold toPs; exact .nil
  | _, _, p, .cons h r => by unfold toPs; unfold plnDs at p; rw [Bool.and_eq_true] at p; exact .cons (Rep.dp s p.1 h) (Reps.dp s p.2 r)
end
theorem vw_dp {K : Kx} {F H : Hp} {v : V} {x : D} (s : Same F H) (p : plnD x = true) (h : Vw K H F v x) : Dp K H v (toP x) := by
  cases x with
  | lst xs => obtain ⟨a, vs, rfl, h1, h2⟩ := h; unfold toP; unfold plnD at p; exact .lst (SqL.of h1) (h2.dp s p)
  | non => exact Rep.dp s p h
  | bl b => exact Rep.dp s p h
  | int i => exact Rep.dp s p h
  | str t => exact Rep.dp s p h
  | tup xs => exact Rep.dp s p h
  | scr xs => exact Rep.dp s p h
  | obj c ks xs => exact Rep.dp s p h
/-- may be compared: at most 180 deep -/
noncomputable def shap (d : PyData) : Bool := d.canLay0 && decide (d.depth ≤ 180)
theorem can_shap {d : PyData} (h : shap d = true) : d.canLay0 = true := (Bool.and_eq_true_iff.mp h).1
theorem depth_shap {d : PyData} (h : shap d = true) : d.depth ≤ 180 := of_decide_eq_true (Bool.and_eq_true_iff.mp h).2
noncomputable def rEqD (K : PySem.W.Frag) : R2 := fun x y H Q => ∃ d e, Dp K H x d ∧ Dp K H y e ∧ shap d = true ∧ shap e = true ∧ Q (.bl (PyData.eqv d e)) H
noncomputable def rNeD (K : PySem.W.Frag) : R2 := fun x y H Q => ∃ d e, Dp K H x d ∧ Dp K H y e ∧ shap d = true ∧ shap e = true ∧ Q (.bl (!PyData.eqv d e)) H
theorem room_shap {A : Around} {da db : PyData} (h : shap da = true) (hu : A.units + 181 < cLine) : A.units + min da.depth db.depth < cLine := by
  have h1 := depth_shap h
  have h2 : min da.depth db.depth ≤ da.depth := Nat.min_le_left _ _
  omega
theorem op_eqD {X : Cx} (hu : X.A.units + 181 < cLine) : OpR X (compareOp .Eq) (Sw.rEqD X.K) := by
  intro pins s σ H x y v u Q I rx ry h
  obtain ⟨d, e, hd, he, sd, se, q⟩ := h
  obtain ⟨as, r1⟩ := Dp.reads I d x v hd rx
  obtain ⟨bs, r2⟩ := Dp.reads I e y u he ry
  exact SeqAt.compareEq_reads r1 r2 (can_shap sd) (can_shap se) (room_shap sd hu) ⟨.bl _, H, I, rfl, q⟩
theorem op_neD {X : Cx} (hu : X.A.units + 181 < cLine) : OpR X (compareOp .NotEq) (Sw.rNeD X.K) := by
  intro pins s σ H x y v u Q I rx ry h
  obtain ⟨d, e, hd, he, sd, se, q⟩ := h
  obtain ⟨as, r1⟩ := Dp.reads I d x v hd rx
  obtain ⟨bs, r2⟩ := Dp.reads I e y u he ry
  exact SeqAt.compareNe_reads r1 r2 (can_shap sd) (can_shap se) (room_shap sd hu) ⟨.bl _, H, I, rfl, q⟩
theorem hu181 {k : Nat} {A : Around} (r : Room k A) : A.units + 181 < cLine := by have := r.un; omega
noncomputable def shD (x : D) : Bool := plnD x && shap (toP x)
theorem shD_pln {x : D} (h : shD x = true) : plnD x = true := by unfold shD at h; rw [Bool.and_eq_true] at h; exact h.1
theorem shD_sh {x : D} (h : shD x = true) : shap (toP x) = true := by unfold shD at h; rw [Bool.and_eq_true] at h; exact h.2
noncomputable def fEqD : D → D → Option D := fun x y => if (shD x && shD y) = true then some (.bl (PyData.eqv (toP x) (toP y))) else none
noncomputable def fNeD : D → D → Option D := fun x y => if (shD x && shD y) = true then some (.bl (!PyData.eqv (toP x) (toP y))) else none
theorem os_eqD {K : Kx} : OpS K (Sw.rEqD K) fEqD := by
  intro H F v u x y z s hx hy e Q q
  unfold fEqD at e
  split at e
  · rename_i hc
    cases e
    rw [Bool.and_eq_true] at hc
    exact ⟨_, _, vw_dp s (shD_pln hc.1) hx, vw_dp s (shD_pln hc.2) hy, shD_sh hc.1, shD_sh hc.2, q _ H F (Alc.refl s) (.bl _)⟩
  · cases e
theorem os_neD {K : Kx} : OpS K (Sw.rNeD K) fNeD := by
  intro H F v u x y z s hx hy e Q q
  unfold fNeD at e
  split at e
  · rename_i hc
    cases e
    rw [Bool.and_eq_true] at hc
    exact ⟨_, _, vw_dp s (shD_pln hc.1) hx, vw_dp s (shD_pln hc.2) hy, shD_sh hc.1, shD_sh hc.2, q _ H F (Alc.refl s) (.bl _)⟩
  · cases e
end Sw
namespace Sw
open PySem PySem.Spec PyProof.Rows L2
noncomputable def Op2 (X : Cx) (fn : Value → Value → Sem Value) (f : D → D → Option D) : Prop := ∃ r, OpR X fn r ∧ OpS X.kx r f
theorem Op2.or {X : Cx} {fn : Value → Value → Sem Value} {f g : D → D → Option D} (h : Op2 X fn f) (h' : Op2 X fn g) : Op2 X fn (orF f g) :=
  let ⟨_, a, b⟩ := h
  let ⟨_, a', b'⟩ := h'
  ⟨_, a.or a', b.or b'⟩
section
variable {X : Cx}
noncomputable def fAdd : D → D → Option D := orF (fInt fun i j => .int (i + j)) (orF fCatS (orF fCatL fCatT))
theorem oAdd : Op2 X (binaryOp .Add) fAdd := Op2.or ⟨_, op_add, os_int fun _ _ _ => .int _⟩ (Op2.or ⟨_, op_add_str, os_catS⟩ (Op2.or ⟨_, op_cat, os_catL⟩ ⟨_, op_catA, os_catT⟩))
noncomputable def fSub : D → D → Option D := fInt fun i j => .int (i - j)
theorem oSub : Op2 X (binaryOp .Sub) fSub := ⟨_, op_sub, os_int fun _ _ _ => .int _⟩
noncomputable def cMul (i j : Int) : Bool := decide (-18446744073709551616 < i ∧ i < 18446744073709551616) || decide (-18446744073709551616 < j ∧ j < 18446744073709551616)
noncomputable def fMul : D → D → Option D := orF (fIntC cMul fun i j => .int (i * j)) fMulS
theorem oMul : Op2 X (binaryOp .Mult) fMul := Op2.or ⟨_, op_mul, os_intC (fun i j h => by
  unfold cMul at h
  rcases (Bool.or_eq_true _ _).mp h with h | h
  · exact .inl (of_decide_eq_true h)
  · exact .inr (of_decide_eq_true h)) fun _ _ _ => .int _⟩ ⟨_, op_mulS, os_mulS⟩
noncomputable def fDiv : D → D → Option D := fIntC (fun _ j => decide (0 < j ∧ j < 1073741824)) fun i j => .int (i / j)
theorem oDiv : Op2 X (binaryOp .FloorDiv) fDiv := ⟨_, op_fdiv, os_intC (fun i j h => (show CDiv i j from of_decide_eq_true (p := 0 < j ∧ j < 1073741824) h)) fun _ _ _ => .int _⟩
noncomputable def fMod : D → D → Option D := fIntC (fun _ j => decide (0 < j)) fun i j => .int (i % j)
theorem oMod : Op2 X (binaryOp .Mod) fMod := ⟨_, op_mod, os_intC (fun _ _ h => of_decide_eq_true h) fun _ _ _ => .int _⟩
noncomputable def fPow : D → D → Option D := fIntC (fun i j => decide (0 ≤ j ∧ j ≤ 1000000 ∧ i.natAbs < 18446744073709551616)) fun i j => .int (i ^ j.toNat)
theorem oPow : Op2 X (binaryOp .Pow) fPow := ⟨_, op_pow, os_intC (fun i j h => (show CPow i j from of_decide_eq_true (p := 0 ≤ j ∧ j ≤ 1000000 ∧ i.natAbs < 18446744073709551616) h)) fun _ _ _ => .int _⟩
noncomputable def fLt : D → D → Option D := orF (fInt fun i j => .bl (decide (i < j))) fLtS
noncomputable def fLe : D → D → Option D := fInt fun i j => .bl (decide (i ≤ j))
noncomputable def fGt : D → D → Option D := fInt fun i j => .bl (decide (j < i))
noncomputable def fGe : D → D → Option D := fInt fun i j => .bl (decide (j ≤ i))
theorem oLt : Op2 X (compareOp .Lt) fLt := Op2.or ⟨_, op_lt, os_int fun _ _ _ => .bl _⟩ ⟨_, op_lt_str, os_ltS⟩
theorem oLe : Op2 X (compareOp .LtE) fLe := ⟨_, op_le, os_int fun _ _ _ => .bl _⟩
theorem oGt : Op2 X (compareOp .Gt) fGt := ⟨_, op_gt, os_int fun _ _ _ => .bl _⟩
theorem oGe : Op2 X (compareOp .GtE) fGe := ⟨_, op_ge, os_int fun _ _ _ => .bl _⟩
noncomputable def fEq : D → D → Option D := orF fEqS fEqD
noncomputable def fNe : D → D → Option D := orF fNeS fNeD
theorem oEq (hu : X.A.units + 181 < cLine) : Op2 X (compareOp .Eq) fEq := Op2.or ⟨_, op_eq, os_eq⟩ ⟨_, Sw.op_eqD hu, os_eqD⟩
theorem oNe (hu : X.A.units + 181 < cLine) : Op2 X (compareOp .NotEq) fNe := Op2.or ⟨_, op_ne, os_ne⟩ ⟨_, Sw.op_neD hu, os_neD⟩
noncomputable def fIs : D → D → Option D := orF fIsN fIsB
noncomputable def fNt : D → D → Option D := orF fNotN fNotB
noncomputable def flatD : D → Bool
  | .non => true
  | .bl _ => true
  | .int _ => true
  | .str _ => true
  | _ => false
noncomputable def eqF : D → D → Bool
  | .non, .non => true
  | .bl a, .bl b => a == b
  | .bl a, .int b => (if a then 1 else 0) == b
  | .int a, .bl b => a == (if b then 1 else 0)
  | .int a, .int b => a == b
  | .str a, .str b => decide (a = b)
  | _, _ => false
theorem flat_rep {K : Kx} {F : Hp} {v : V} {x : D} (r : Rep K F v x) (h : flatD x = true) : flatV v = true := by
  cases r <;> first | rfl | cases h
theorem eqF_rep {K : Kx} {F : Hp} {v u : V} {x y : D} (r : Rep K F v x) (r' : Rep K F u y) (h : flatD x = true) (h' : flatD y = true) : eqV v u = eqF x y := by
  have key : ∀ a b : List Nat, ((⟨a.toArray⟩ : Str) == ⟨b.toArray⟩) = decide (a = b) := fun a b => by
    by_cases e : a = b
    · subst e; simp
    · rw [decide_eq_false e]
      have ne : (⟨a.toArray⟩ : Str) ≠ ⟨b.toArray⟩ := fun z => e (by simpa using congrArg (fun s : Str => s.cps.toList) z)
      exact beq_eq_false_iff_ne.mpr ne
  cases r <;> cases r' <;> first | rfl | exact absurd h Bool.false_ne_true | exact absurd h' Bool.false_ne_true | exact key _ _
noncomputable def inD (x : D) (xs : List D) : Bool := xs.any fun y => eqF y x
theorem inV_reps {K : Kx} {F : Hp} {v : V} {x : D} (r : Rep K F v x) (h : flatD x = true) : ∀ {vs : List V} {xs : List D}, Reps K F vs xs → xs.all flatD = true → inV v vs = inD x xs ∧ vs.all flatV = true
  | _, _, .nil, _ => ⟨rfl, rfl⟩
  | _, _, .cons r1 t, e => by
    rw [List.all_cons, Bool.and_eq_true] at e
    obtain ⟨i1, i2⟩ := inV_reps r h t e.2
    unfold inV inD at i1 ⊢
    rw [List.any_cons, List.any_cons, List.all_cons, i1, i2, eqF_rep r1 r e.1 h, flat_rep r1 e.1]
    exact ⟨rfl, rfl⟩
noncomputable def fInQ (neg : Bool) : D → D → Option D := fun x y => match y with
  | .lst xs => if (flatD x && xs.all flatD) = true then some (.bl (if neg then !inD x xs else inD x xs)) else none
  | .tup xs => if (flatD x && xs.all flatD) = true then some (.bl (if neg then !inD x xs else inD x xs)) else none
  | _ => none
theorem vw_flat {K : Kx} {H F : Hp} {v : V} {x : D} (h : Vw K H F v x) (f : flatD x = true) : Rep K F v x := by
  cases x <;> first | exact h | cases f
theorem os_inQ {K : Kx} {neg : Bool} : OpS K (rIn K neg) (fInQ neg) := by
  intro H F v u x y z s hx hy e Q q
  unfold fInQ at e
  split at e
  · split at e
    · rename_i hc
      cases e
      rw [Bool.and_eq_true] at hc
      obtain ⟨a, us, rfl, h1, h2⟩ := hy
      have rx := vw_flat hx hc.1
      obtain ⟨i1, i2⟩ := inV_reps rx hc.1 h2 hc.2
      refine ⟨a, us, rfl, .inl (SqL.of h1), flat_rep rx hc.1, i2, ?_⟩
      rw [i1]
      exact q _ H F (Alc.refl s) (.bl _)
    · cases e
  · split at e
    · rename_i hc
      cases e
      rw [Bool.and_eq_true] at hc
      cases (show Rep K F u (.tup _) from hy) with
      | @tup a us _ h1 h2 =>
      have rx := vw_flat hx hc.1
      obtain ⟨i1, i2⟩ := inV_reps rx hc.1 h2 hc.2
      refine ⟨a, us, rfl, .inr (same_t s h1), flat_rep rx hc.1, i2, ?_⟩
      rw [i1]
      exact q _ H F (Alc.refl s) (.bl _)
    · cases e
  · cases e
noncomputable def fIn : D → D → Option D := orF fInS (fInQ false)
noncomputable def fNi : D → D → Option D := orF fNiS (fInQ true)
theorem oIn : Op2 X (compareOp .In) fIn := Op2.or ⟨_, op_in_sign, os_inS⟩ ⟨_, op_in_seq, os_inQ⟩
theorem oNi : Op2 X (compareOp .NotIn) fNi := Op2.or ⟨_, op_notIn_sign, os_niS⟩ ⟨_, op_notIn_seq, os_inQ⟩
noncomputable def fIx : D → D → Option D := orF fIxL (orF fIxT fIxS)
theorem oIx : ∃ r, IxR X r ∧ OpS X.kx r fIx := ⟨_, ix_list.or (ix_tup.or ix_str), os_ixL.or (os_ixT.or os_ixS)⟩
noncomputable def fSl : D → Option Int → Option Int → Option D := orSl fSlL fSlS
noncomputable def fNeg : D → Option D
  | .int i => some (.int (-i))
  | _ => none
theorem us_neg : UnS X.kx (rU fun i => .int (-i)) fNeg := by
  intro H F v x z s hx e Q q
  unfold fNeg at e
  split at e
  · cases e
    rw [vw_int hx]
    exact ⟨_, rfl, q _ H F (Alc.refl s) (.int _)⟩
  · cases e
end
section
variable {X : Cx} {a b c e : Expr} {ma mb mc me : M Vl} {pos p : Pos} {es : List Expr} {ms : M (List Vl)}
theorem se_b {op : Operator} {f : D → D → Option D} (h : Op2 X (binaryOp op) f) (ha : SE X a ma) (hb : SE X b mb) : SE X (.BinOp a op b pos) (eBin f ma mb) :=
  let ⟨_, h1, h2⟩ := h
  se_bin h1 h2 ha hb
theorem se_c {op : CmpOp} {f : D → D → Option D} (h : Op2 X (compareOp op) f) (ha : SE X a ma) (hb : SE X b mb) (hm : behindInMarks op b = false) : SE X (.Compare a [op] [b] pos) (eBin f ma mb) :=
  let ⟨_, h1, h2⟩ := h
  se_cmp h1 h2 ha hb hm
theorem st_c {op : CmpOp} {f : D → D → Option D} (h : Op2 X (compareOp op) f) (ha : SE X a ma) (hb : SE X b mb) (hm : behindInMarks op b = false) : ST X (.Compare a [op] [b] pos) (tE (eBin f ma mb)) :=
  let ⟨_, h1, h2⟩ := h
  st_cmp h1 h2 ha hb hm
theorem se_neg (ha : SE X a ma) : SE X (.UnaryOp .USub a pos) (eUn fNeg ma) := se_un un_neg us_neg ha
theorem se_ix (ha : SE X a ma) (hb : SE X b mb) (hs : PlainIx b) : SE X (.Subscript a b pos) (eBin fIx ma mb) :=
  let ⟨_, h1, h2⟩ := oIx (X := X)
  se_ixr h1 h2 ha hb hs
theorem se_len (hm : X.mg "len" = none) (hg : Gl X "len") (ha : SA X [e] ms) (he : starEach [e] X.env = (false, eval e X.env) :: starEach [] X.env := by rfl) (hpl : (backTo pos (starEach [] X.env)).any (·.1) = false := by rfl) : SE X (.Call (.Name "len" p) [e] [] pos) (eBlt cLen ms) :=
  se_blt call_len cs_len hg hm PySem.boot_len ha (by decide) (by decide) he hpl
theorem se_toint (hm : X.mg "int" = none) (hg : Gl X "int") (ha : SA X [e] ms) (he : starEach [e] X.env = (false, eval e X.env) :: starEach [] X.env := by rfl) (hpl : (backTo pos (starEach [] X.env)).any (·.1) = false := by rfl) : SE X (.Call (.Name "int" p) [e] [] pos) (eBlt cInt ms) :=
  se_ty call_int1 cs_int hg hm (by decide +kernel) ha (by decide) (by decide) he hpl
noncomputable def strsOf : List D → Option (List (List Nat))
  | [] => some []
  | .str s :: xs => (strsOf xs).bind fun r => some (s :: r)
  | _ => none
noncomputable def fJoin : D → List D → Option D
  | .str a, [.lst xs] => (strsOf xs).bind fun ys => if (ys.map (·.length)).sum + ys.length * a.length ≤ lim then some (.str (TL.joinL a ys)) else none
  | .str a, [.tup xs] => (strsOf xs).bind fun ys => if (ys.map (·.length)).sum + ys.length * a.length ≤ lim then some (.str (TL.joinL a ys)) else none
  | _, _ => none
theorem strsOf_ok {K : Kx} {F : Hp} : ∀ {vs : List V} {xs : List D} {ys : List (List Nat)}, Reps K F vs xs → strsOf xs = some ys → vs = (ys.map fun y => (⟨y.toArray⟩ : Str)).map V.str
  | _, _, _, .nil, e => by cases e; rfl
  | _, _, ys, .cons r t, e => by
    cases r with
    | str s =>
      unfold strsOf at e
      obtain ⟨zs, e1, e⟩ := Option.bind_eq_some_iff.mp e
      cases e
      rw [strsOf_ok t e1]
      rfl
    | non => cases e
    | bl _ => cases e
    | int _ => cases e
    | lst _ _ => cases e
    | scr _ => cases e
    | tup _ _ => cases e
    | obj _ _ _ _ => cases e
theorem join_txt (a : List Nat) (ys : List (List Nat)) : Txt.join ⟨a.toArray⟩ (ys.map fun y => (⟨y.toArray⟩ : Str)) = (⟨(TL.joinL a ys).toArray⟩ : Str) := by
  have h := TL.tl_join ⟨a.toArray⟩ (ys.map fun y => (⟨y.toArray⟩ : Str))
  rw [TL.join_eq]
  have e : (ys.map fun y => (⟨y.toArray⟩ : Str)).map TL.tl = ys := by
    rw [List.map_map]
    have : (TL.tl ∘ fun y : List Nat => (⟨y.toArray⟩ : Str)) = id := by
      funext y
      simp [TL.tl]
    rw [this, List.map_id]
  rw [e] at h
  have h2 : TL.tl (⟨a.toArray⟩ : Str) = a := by simp [TL.tl]
  rw [h2] at h
  rw [← h]
theorem ms_join {K : Kx} : MetS K (fun x xs H Q => ∃ a p, ∃ ys : List Str, x = .str a ∧ xs = [.ref p] ∧ (SqL K H p (ys.map V.str) ∨ SqT K H p (ys.map V.str)) ∧
    (ys.map (·.length)).sum + ys.length * a.length ≤ 16777216 ∧ Q (.str (Txt.join a ys)) H) fJoin := by
  have len : ∀ ys : List (List Nat), ((ys.map fun y => (⟨y.toArray⟩ : Str)).map (·.length)).sum = (ys.map (·.length)).sum := fun ys => by
    rw [List.map_map]
    congr 1
  intro H F v vs x xs z s hx hxs e Q q
  unfold fJoin at e
  split at e
  · obtain ⟨ys, e1, e⟩ := Option.bind_eq_some_iff.mp e
    split at e
    · rename_i hl
      cases e
      obtain ⟨u, rfl, p, us, rfl, h1, h2⟩ := vws1 hxs
      rw [vw_str hx]
      rw [strsOf_ok h2 e1] at h1
      refine ⟨_, p, _, rfl, rfl, .inl (SqL.of h1), ?_, ?_⟩
      · rw [len, List.length_map]; simpa [Str.length] using hl
      · rw [join_txt]; exact q _ H F (Alc.refl s) (.str _)
    · cases e
  · obtain ⟨ys, e1, e⟩ := Option.bind_eq_some_iff.mp e
    split at e
    · rename_i hl
      cases e
      obtain ⟨u, rfl, hu⟩ := vws1 hxs
      cases (show Rep K F u (.tup _) from hu) with
      | @tup p us _ h1 h2 =>
      rw [vw_str hx]
      rw [strsOf_ok h2 e1] at h1
      refine ⟨_, p, _, rfl, rfl, .inr (same_t s h1), ?_, ?_⟩
      · rw [len, List.length_map]; simpa [Str.length] using hl
      · rw [join_txt]; exact q _ H F (Alc.refl s) (.str _)
    · cases e
  · cases e
theorem se_join {o : Expr} {mo : M Vl} {apos cpos : Pos} (ho : SE X o mo) (ha : SA X [e] ms)
    (hbase : attributeBase o "join" X.env (eval o X.env) = eval o X.env := by rfl)
    (hfew : ((backTo cpos (starEach [e] X.env)).all (fun x => !x.1) && (backToKw cpos (keywordEach [] X.env)).all (fun x => x.1.isSome)
      && decide ([e].length + ([] : List Keyword).length + (if ([] : List Keyword).isEmpty then 0 else 1) < 30)) = true := by rfl)
    (hline : (apos.endLine == cpos.line) = true := by rfl) (hs : starEach [e] X.env = (false, eval e X.env) :: starEach [] X.env := by rfl) (hplain : (backTo cpos (starEach [] X.env)).any (·.1) = false := by rfl) :
    SE X (.Call (.Attribute o "join" apos) [e] [] cpos) (eMet fJoin mo ms) := se_met PySem.F.slot_str_join PySem.F.type_str_join mt_join (fun x xs z h => by
  unfold fJoin at h
  split at h
  · exact ⟨_, rfl⟩
  · exact ⟨_, rfl⟩
  · cases h) ms_join ho ha hbase hfew hline hs hplain
end
/-- the law's own promise at the script -/
theorem law_sp {K : Kx} {H : Hp} {a : Addr} {ns : List Int} {f : Fn} {E : XK} (hS : SqL K H a (ns.map V.int)) (h : f [.da (.scr ns)] = some (.fz (.bl true), [])) : spF K 1 f [.ref a] H (fun v _ => v = .bl true) E :=
  ⟨rfl, H, [.da (.scr ns)], .fz (.bl true), [], Same.refl _, ⟨.scr hS, trivial⟩, List.nodup_nil, h, fun v H' F' _ _ _ _ _ R => by
    cases (show Rep K F' v (.bl true) from R)
    rfl⟩
end Sw
namespace Sw
open L2
noncomputable def Ev {α : Type} (m : M α) (ρ : Rho) (Q : α → Rho → Prop) : Prop := ∃ a ρ', m ρ = some (a, ρ') ∧ Q a ρ'
noncomputable abbrev Sv (s : S) (ρ : Rho) (Q : Fl → Rho → Prop) : Prop := ∃ fl ρ', s ρ = some (fl, ρ') ∧ Q fl ρ'
theorem sv_seq {a b : S} {ρ : Rho} {Q : Fl → Rho → Prop} (h : Sv a ρ fun fl ρ' => match fl with
    | .nx => Sv b ρ' Q
    | fl => Q fl ρ') : Sv (sSeq a b) ρ Q := by
  obtain ⟨fl, ρ1, e, h⟩ := h
  have un : sSeq a b ρ = (a ρ).bind fun p => match p.1 with
    | .nx => b p.2
    | fl => some (fl, p.2) := rfl
  cases fl with
  | nx =>
    obtain ⟨f2, ρ2, e2, h⟩ := h
    exact ⟨f2, ρ2, by rw [un, e]; exact e2, h⟩
  | bk => exact ⟨.bk, ρ1, by rw [un, e]; rfl, h⟩
  | ct => exact ⟨.ct, ρ1, by rw [un, e]; rfl, h⟩
  | rt v => exact ⟨.rt v, ρ1, by rw [un, e]; rfl, h⟩
  | ex x => exact ⟨.ex x, ρ1, by rw [un, e]; rfl, h⟩
theorem sv_seq_eq {a b : S} {ρ ρ1 : Rho} {Q : Fl → Rho → Prop} (e : a ρ = some (.nx, ρ1)) (h : Sv b ρ1 Q) : Sv (sSeq a b) ρ Q := sv_seq ⟨.nx, ρ1, e, h⟩
theorem sv_nx {ρ : Rho} {Q : Fl → Rho → Prop} (h : Q .nx ρ) : Sv sNx ρ Q := ⟨_, _, rfl, h⟩
theorem sv_if {t : M Bool} {a b : S} {ρ ρ1 : Rho} {c : Bool} {Q : Fl → Rho → Prop} (e : t ρ = some (c, ρ1)) (h1 : c = true → Sv a ρ1 Q) (h2 : c = false → Sv b ρ1 Q) : Sv (sIf t a b) ρ Q := by
  have un : sIf t a b ρ = (t ρ).bind fun p => if p.1 = true then a p.2 else b p.2 := rfl
  cases c with
  | true => obtain ⟨f, r, e2, h⟩ := h1 rfl; exact ⟨f, r, by rw [un, e]; exact e2, h⟩
  | false => obtain ⟨f, r, e2, h⟩ := h2 rfl; exact ⟨f, r, by rw [un, e]; exact e2, h⟩
theorem forM_inv {g : D → Rho → Option Rho} {b : S} (I : Nat → Rho → Prop) : ∀ (xs : List D) (k : Nat) (ρ : Rho), I k ρ →
    (∀ (i : Nat) (x : D), xs[i]? = some x → ∀ ρ, I (k + i) ρ → ∃ ρ1, g x ρ = some ρ1 ∧ ∃ fl ρ2, b ρ1 = some (fl, ρ2) ∧ (fl = .nx ∨ fl = .ct) ∧ I (k + i + 1) ρ2) → ∃ ρ', forM g b xs ρ = some (.nx, ρ') ∧ I (k + xs.length) ρ'
  | [], k, ρ, h, _ => ⟨ρ, rfl, h⟩
  | x :: xs, k, ρ, h, step => by
    obtain ⟨ρ1, e1, fl, ρ2, e2, hf, h2⟩ := step 0 x rfl ρ h
    obtain ⟨ρ', e3, h3⟩ := forM_inv I xs (k + 1) ρ2 h2 fun i y hy ρ h => by
      have := step (i + 1) y (by simpa using hy) ρ (by rw [show k + (i + 1) = k + 1 + i by omega]; exact h)
      rw [show k + (i + 1) + 1 = k + 1 + i + 1 by omega] at this
      exact this
    refine ⟨ρ', ?_, by rw [List.length_cons, show k + (xs.length + 1) = k + 1 + xs.length by omega]; exact h3⟩
    unfold forM
    rw [e1]
    show (b ρ1).bind _ = _
    rw [e2]
    rcases hf with rfl | rfl <;> exact e3
/-- a for that runs through: an invariant by the turn -/
theorem sFor_inv {src : M (List D)} {g : D → Rho → Option Rho} {b : S} {ρ ρ1 : Rho} {xs : List D} (I : Nat → Rho → Prop) (e : src ρ = some (xs, ρ1)) (h0 : I 0 ρ1)
    (step : ∀ (i : Nat) (x : D), xs[i]? = some x → ∀ ρ, I i ρ → ∃ ρ1, g x ρ = some ρ1 ∧ ∃ fl ρ2, b ρ1 = some (fl, ρ2) ∧ (fl = .nx ∨ fl = .ct) ∧ I (i + 1) ρ2) : ∃ ρ', sFor src g b ρ = some (.nx, ρ') ∧ I xs.length ρ' := by
  obtain ⟨ρ', h1, h2⟩ := forM_inv (g := g) (b := b) I xs 0 ρ1 h0 fun i x hx ρ h => by
    rw [Nat.zero_add] at h ⊢
    exact step i x hx ρ h
  rw [Nat.zero_add] at h2
  exact ⟨ρ', by unfold sFor; rw [e]; exact h1, h2⟩
/-- no slot, or one that may not be stored to -/
noncomputable def ioQ : Option Sl → Bool
  | none => true
  | some (.io _) => true
  | some (.iob _) => true
  | _ => false
@[simp] theorem ioQ_no : ioQ (some .no) = false := rfl
@[simp] theorem ioQ_d {x : D} : ioQ (some (.d x)) = false := rfl
@[simp] theorem ioQ_ow {x : List D} : ioQ (some (.ow x)) = false := rfl
section
variable {ρ : Rho} {a b c : M Vl} {ms : M (List Vl)} {t u : M Bool} {s s' : S} {f g : D → D → Option D}
@[simp] theorem r_eC {x : D} : eC x ρ = some (.fz x, ρ) := rfl
@[simp] theorem r_eVar {i : Nat} : eVar i ρ = match ρ[i]? with
  | some (.d x) => some (.fz x, ρ)
  | some (.ow _) => some (.bw i, ρ)
  | some (.io _) => some (.bw i, ρ)
  | _ => none := rfl
@[simp] theorem r_eBin : eBin f a b ρ = (a ρ).bind fun p => (b p.2).bind fun q => (look q.2 (stl p.1)).bind fun x => (look q.2 (stl q.1)).bind fun y => (f x y).bind fun z => some (.fz z, q.2) := rfl
@[simp] theorem r_eUn {h : D → Option D} : eUn h a ρ = (a ρ).bind fun p => (look p.2 (stl p.1)).bind fun x => (h x).bind fun z => some (.fz z, p.2) := rfl
@[simp] theorem r_tE : tE a ρ = (a ρ).bind fun p => match p.1 with
  | .fz (.bl b) => some (b, p.2)
  | _ => none := rfl
@[simp] theorem r_tAnd : tAnd t u ρ = (t ρ).bind fun p => if p.1 = true then u p.2 else some (false, p.2) := rfl
@[simp] theorem r_tOr : tOr t u ρ = (t ρ).bind fun p => if p.1 = true then some (true, p.2) else u p.2 := rfl
@[simp] theorem r_tNot : tNot t ρ = (t ρ).bind fun p => some (!p.1, p.2) := rfl
@[simp] theorem r_eAnd : eAnd a b ρ = (a ρ).bind fun p => match p.1 with
  | .fz (.bl true) => b p.2
  | .fz (.bl false) => some (.fz (.bl false), p.2)
  | _ => none := rfl
@[simp] theorem r_eOr : eOr a b ρ = (a ρ).bind fun p => match p.1 with
  | .fz (.bl false) => b p.2
  | .fz (.bl true) => some (.fz (.bl true), p.2)
  | _ => none := rfl
@[simp] theorem r_eNot : eNot a ρ = (a ρ).bind fun p => match p.1 with
  | .fz (.bl b) => some (.fz (.bl (!b)), p.2)
  | _ => none := rfl
@[simp] theorem r_eIf : eIf t a b ρ = (t ρ).bind fun p => if p.1 = true then a p.2 else b p.2 := rfl
@[simp] theorem r_eChain : eChain f g a b c ρ = (a ρ).bind fun p => (b p.2).bind fun q => (look q.2 (stl p.1)).bind fun x => (look q.2 (stl q.1)).bind fun y => (f x y).bind fun z => match z with
  | .bl true => (c q.2).bind fun p3 => (look p3.2 (stl q.1)).bind fun y2 => (look p3.2 (stl p3.1)).bind fun w => (g y2 w).bind fun z2 => some (.fz z2, p3.2)
  | .bl false => some (.fz (.bl false), q.2)
  | _ => none := rfl
@[simp] theorem r_aNil : aNil ρ = some ([], ρ) := rfl
@[simp] theorem r_aCons : aCons a ms ρ = (a ρ).bind fun p => (ms p.2).bind fun q => some (stl p.1 :: q.1, q.2) := rfl
@[simp] theorem r_eTup : eTup ms ρ = (ms ρ).bind fun p => (frzs p.2 p.1).bind fun q => if q.1.length ≤ lim then some (.fz (.tup q.1), q.2) else none := rfl
@[simp] theorem r_eLst : eLst ms ρ = (ms ρ).bind fun p => (frzs p.2 p.1).bind fun q => if q.1.length ≤ lim then some (.fr q.1, q.2) else none := rfl
@[simp] theorem r_eBlt {h : List D → Option D} : eBlt h ms ρ = (ms ρ).bind fun p => (looks p.2 p.1).bind fun xs => (h xs).bind fun z => some (.fz z, p.2) := rfl
@[simp] theorem r_eMet {h : D → List D → Option D} : eMet h a ms ρ = (a ρ).bind fun p => (ms p.2).bind fun q => (look q.2 (stl p.1)).bind fun x => (looks q.2 q.1).bind fun xs => (h x xs).bind fun z => some (.fz z, q.2) := rfl
@[simp] theorem r_oNo : oNo ρ = some (none, ρ) := rfl
@[simp] theorem r_oSome : oSome a ρ = (a ρ).bind fun p => match p.1 with
  | .fz (.int i) => some (some i, p.2)
  | _ => none := rfl
@[simp] theorem r_eSl {h : D → Option Int → Option Int → Option D} {l o : M (Option Int)} : eSl h a l o ρ = (a ρ).bind fun p => (l p.2).bind fun p1 => (o p1.2).bind fun p2 => (look p2.2 (stl p.1)).bind fun x => (h x p1.1 p2.1).bind fun z => some (.fz z, p2.2) := rfl
@[simp] theorem r_eCall {h : Fn} {fs : List Bool} : eCall h fs ms ρ = (ms ρ).bind fun p => (ag1 fs p.1 p.2).bind fun q => (ag2 q.2 q.1).bind fun gs => if (agI q.1).Nodup then (h gs).bind fun z => match z.1 with
  | .bw _ => none
  | w => some (w, puts q.2 (agI q.1) z.2) else none := rfl
@[simp] theorem r_look1 {x : D} : look ρ (.fz x) = some x := rfl
@[simp] theorem r_look2 {x : List D} : look ρ (.fr x) = some (.lst x) := rfl
@[simp] theorem r_look3 {i : Nat} : look ρ (.bw i) = match ρ[i]? with
  | some (.ow xs) => some (.lst xs)
  | some (.io xs) => some (.lst xs)
  | _ => none := rfl
@[simp] theorem r_frz1 {x : D} : frz ρ (.fz x) = some (x, ρ) := rfl
@[simp] theorem r_frz2 {x : List D} : frz ρ (.fr x) = some (.lst x, ρ) := rfl
@[simp] theorem r_frz3 {i : Nat} : frz ρ (.bw i) = match ρ[i]? with
    | some (.ow xs) => some (.lst xs, ρ.set i (.d (.lst xs)))
    | _ => none := rfl
@[simp] theorem r_stl1 {x : D} : stl (.fz x) = .fz x := rfl
@[simp] theorem r_stl2 {x : List D} : stl (.fr x) = .fz (.lst x) := rfl
@[simp] theorem r_stl3 {x : Nat} : stl (.bw x) = .bw x := rfl
@[simp] theorem r_looks0 : looks ρ [] = some [] := rfl
@[simp] theorem r_looks1 {r : Vl} {rs : List Vl} : looks ρ (r :: rs) = (look ρ r).bind fun x => (looks ρ rs).bind fun xs => some (x :: xs) := rfl
@[simp] theorem r_frzs0 : frzs ρ [] = some ([], ρ) := rfl
@[simp] theorem r_frzs1 {r : Vl} {rs : List Vl} : frzs ρ (r :: rs) = (frz ρ r).bind fun p => (frzs p.2 rs).bind fun q => some (p.1 :: q.1, q.2) := rfl
@[simp] theorem r_sNx : sNx ρ = some (.nx, ρ) := rfl
@[simp] theorem r_sSeq : sSeq s s' ρ = (s ρ).bind fun p => match p.1 with
  | .nx => s' p.2
  | fl => some (fl, p.2) := rfl
@[simp] theorem r_sIf : sIf t s s' ρ = (t ρ).bind fun p => if p.1 = true then s p.2 else s' p.2 := rfl
@[simp] theorem r_sRet : sRet a ρ = (a ρ).bind fun p => match p.1 with
  | .bw i => match p.2[i]? with
    | some (.ow xs) => some (.rt (.fr xs), p.2)
    | _ => none
  | r => some (.rt r, p.2) := rfl
@[simp] theorem r_sDrop : sDrop a ρ = (a ρ).bind fun p => some (.nx, p.2) := rfl
@[simp] theorem r_asg {i : Nat} {r : Vl} : asg i r ρ = if ioQ ρ[i]? = true then none else match r with
    | .fz x => some (ρ.set i (.d x))
    | .fr xs => some (ρ.set i (.ow xs))
    | .bw j => (frz ρ (.bw j)).bind fun p => some (p.2.set i (.d p.1)) := by
  unfold asg
  cases h : ρ[i]? with
  | none => rfl
  | some s => cases s <;> rfl
@[simp] theorem r_sAsg {i : Nat} : sAsg i a ρ = (a ρ).bind fun p => (asg i p.1 p.2).bind fun ρ2 => some (.nx, ρ2) := rfl
@[simp] theorem r_own {i : Nat} : own? ρ i = match ρ[i]? with
  | some (.ow xs) => some xs
  | some (.io xs) => some xs
  | _ => none := rfl
@[simp] theorem r_put {i : Nat} {xs : List D} : put ρ i xs = match ρ[i]? with
  | some (.ow _) => ρ.set i (.ow xs)
  | some (.io _) => ρ.set i (.io xs)
  | _ => ρ := rfl
@[simp] theorem r_puts0 {xs : List (List D)} : puts ρ [] xs = ρ := by unfold puts; rfl
@[simp] theorem r_puts1 {i : Nat} {is : List Nat} {x : List D} {xs : List (List D)} : puts ρ (i :: is) (x :: xs) = puts (put ρ i x) is xs := rfl
@[simp] theorem r_sApp {i : Nat} : sApp i a ρ = (own? ρ i).bind fun _ => (a ρ).bind fun p => (frz p.2 (stl p.1)).bind fun q => (own? q.2 i).bind fun xs => if xs.length < lim then some (.nx, put q.2 i (xs ++ [q.1])) else none := rfl
@[simp] theorem r_sSetI {i : Nat} : sSetI i a b ρ = (b ρ).bind fun p => (frz p.2 (stl p.1)).bind fun p1 => (own? p1.2 i).bind fun _ => (a p1.2).bind fun p2 => match p2.1 with
  | .fz (.int k) => (own? p2.2 i).bind fun xs => (ixN xs.length k).bind fun j => some (.nx, put p2.2 i (xs.set j p1.1))
  | _ => none := rfl
@[simp] theorem r_gN {i : Nat} {x : D} : gN i x ρ = asg i (.fz x) ρ := rfl
@[simp] theorem r_ag0 {fs : List Bool} : ag1 fs [] ρ = some ([], ρ) := by unfold ag1; rfl
@[simp] theorem r_ag1 {fs : List Bool} {r : Vl} {rs : List Vl} : ag1 fs (r :: rs) ρ = if fs.headD false = true then (match r with
    | .bw i => (ag1 fs.tail rs ρ).bind fun p => some (.inr i :: p.1, p.2)
    | _ => none) else (frz ρ r).bind fun p => (ag1 fs.tail rs p.2).bind fun q => some (.inl p.1 :: q.1, q.2) := by
  conv => lhs; unfold ag1
  all_goals rfl
@[simp] theorem r_ag20 : ag2 ρ [] = some [] := rfl
@[simp] theorem r_ag21 {x : D} {r : List (D ⊕ Nat)} : ag2 ρ (.inl x :: r) = (ag2 ρ r).bind fun gs => some (.da x :: gs) := rfl
@[simp] theorem r_ag22 {i : Nat} {r : List (D ⊕ Nat)} : ag2 ρ (.inr i :: r) = (own? ρ i).bind fun xs => (ag2 ρ r).bind fun gs => some (.li xs :: gs) := rfl
@[simp] theorem r_agI0 : agI [] = [] := rfl
@[simp] theorem r_agI1 {x : D} {r : List (D ⊕ Nat)} : agI (.inl x :: r) = agI r := rfl
@[simp] theorem r_agI2 {i : Nat} {r : List (D ⊕ Nat)} : agI (.inr i :: r) = i :: agI r := rfl
@[simp] theorem r_iSq : iSq a ρ = (a ρ).bind fun p => (frz p.2 (stl p.1)).bind fun q => (itemsOf q.1).bind fun xs => some (xs, q.2) := rfl
@[simp] theorem r_iR1 : iR1 ms ρ = (ms ρ).bind fun p => match p.1 with
  | [.fz (.int j)] => if -(2 ^ 62) ≤ j ∧ j < 2 ^ 62 then some (rngL 0 j.toNat, p.2) else none
  | _ => none := rfl
@[simp] theorem r_itm1 {xs : List D} : itemsOf (.lst xs) = some xs := rfl
@[simp] theorem r_itm2 {xs : List D} : itemsOf (.tup xs) = some xs := rfl
@[simp] theorem r_itm3 {xs : List Nat} : itemsOf (.str xs) = some (xs.map fun c => .str [c]) := rfl
@[simp] theorem r_itm4 {xs : List Int} : itemsOf (.scr xs) = some (xs.map .int) := rfl
@[simp] theorem r_slOf1 {x : D} : slOf (.da x) = .d x := rfl
@[simp] theorem r_slOf2 {x : List D} : slOf (.li x) = .io x := rfl
@[simp] theorem r_outs0 {r : Rho} : outsOf [] r = [] := by cases r <;> rfl
@[simp] theorem r_outs1 {x : D} {gs : List Ag} {sl : Sl} {r : Rho} : outsOf (.da x :: gs) (sl :: r) = outsOf gs r := by cases sl <;> rfl
@[simp] theorem r_outs2 {x ys : List D} {gs : List Ag} {r : Rho} : outsOf (.li x :: gs) (.io ys :: r) = ys :: outsOf gs r := rfl
theorem r_fnS {n nl : Nat} {gs : List Ag} (h : gs.length = n) : fnS n nl s gs = (s (gs.map slOf ++ List.replicate (nl - n) .no)).bind fun p => (match p.1 with
  | .nx => some (.fz .non, outsOf gs p.2)
  | .rt (.fz x) => some (.fz x, outsOf gs p.2)
  | .rt (.fr x) => some (.fr x, outsOf gs p.2)
  | _ => none) := by
  unfold fnS
  rw [if_pos h]
  all_goals rfl
@[simp] theorem lim_val : lim = 16777216 := rfl
@[simp] theorem r_add1 {i j : Int} : fAdd (.int i) (.int j) = some (.int (i + j)) := rfl
@[simp] theorem r_add2 {i j : List Nat} : fAdd (.str i) (.str j) = if i.length + j.length ≤ lim then some (.str (i ++ j)) else none := by
  show orF _ _ _ _ = _
  unfold orF fInt fCatS
  dsimp only
  split
  · rename_i h; exact h.symm
  · rename_i h; rw [h]; rfl
@[simp] theorem r_add3 {i j : List D} : fAdd (.lst i) (.lst j) = if i.length + j.length ≤ lim then some (.lst (i ++ j)) else none := by
  show orF _ _ _ _ = _
  unfold orF fInt fCatS fCatL fCatT
  dsimp only
  split
  · rename_i h; exact h.symm
  · rename_i h; rw [h]
@[simp] theorem r_sub {i j : Int} : fSub (.int i) (.int j) = some (.int (i - j)) := rfl
@[simp] theorem r_mul {i j : Int} : fMul (.int i) (.int j) = if cMul i j = true then some (.int (i * j)) else none := by
  show orF _ _ _ _ = _
  unfold orF fMulS fIntC
  by_cases h : cMul i j = true
  · simp [h]
  · simp [h]
@[simp] theorem r_muls {c : Nat} {n : Int} : fMul (.str [c]) (.int n) = if -1000000 ≤ n ∧ n ≤ 1000000 then some (.str (List.replicate n.toNat c)) else none := rfl
@[simp] theorem r_lts {i j : List Nat} : fLt (.str i) (.str j) = some (.bl (decide (i < j))) := rfl
@[simp] theorem r_div {i j : Int} : fDiv (.int i) (.int j) = if 0 < j ∧ j < 1073741824 then some (.int (i / j)) else none := by
  show (if decide _ = true then _ else _) = _
  simp only [decide_eq_true_eq]
@[simp] theorem r_mod {i j : Int} : fMod (.int i) (.int j) = if 0 < j then some (.int (i % j)) else none := by
  show (if decide _ = true then _ else _) = _
  simp only [decide_eq_true_eq]
@[simp] theorem r_pow {i j : Int} : fPow (.int i) (.int j) = if 0 ≤ j ∧ j ≤ 1000000 ∧ i.natAbs < 18446744073709551616 then some (.int (i ^ j.toNat)) else none := by
  show (if decide _ = true then _ else _) = _
  simp only [decide_eq_true_eq]
@[simp] theorem r_lt {i j : Int} : fLt (.int i) (.int j) = some (.bl (decide (i < j))) := rfl
@[simp] theorem r_le {i j : Int} : fLe (.int i) (.int j) = some (.bl (decide (i ≤ j))) := rfl
@[simp] theorem r_gt {i j : Int} : fGt (.int i) (.int j) = some (.bl (decide (j < i))) := rfl
@[simp] theorem r_ge {i j : Int} : fGe (.int i) (.int j) = some (.bl (decide (j ≤ i))) := rfl
@[simp] theorem r_eqi {i j : Int} : fEq (.int i) (.int j) = some (.bl (decide (i = j))) := rfl
@[simp] theorem r_eqs {i j : List Nat} : fEq (.str i) (.str j) = some (.bl (decide (i = j))) := rfl
@[simp] theorem r_eqb {i j : Bool} : fEq (.bl i) (.bl j) = some (.bl (decide (i = j))) := rfl
@[simp] theorem r_nei {i j : Int} : fNe (.int i) (.int j) = some (.bl (!decide (i = j))) := rfl
@[simp] theorem r_nes {i j : List Nat} : fNe (.str i) (.str j) = some (.bl (!decide (i = j))) := rfl
@[simp] theorem r_neb {i j : Bool} : fNe (.bl i) (.bl j) = some (.bl (!decide (i = j))) := rfl
@[simp] theorem r_isb {i j : Bool} : fIs (.bl i) (.bl j) = some (.bl (decide (i = j))) := rfl
@[simp] theorem r_ntb {i j : Bool} : fNt (.bl i) (.bl j) = some (.bl (!decide (i = j))) := rfl
@[simp] theorem r_ins {c : Nat} {z : List Nat} : fIn (.str [c]) (.str z) = some (.bl (decide (c ∈ z))) := rfl
@[simp] theorem r_nis {c : Nat} {z : List Nat} : fNi (.str [c]) (.str z) = some (.bl (!decide (c ∈ z))) := rfl
@[simp] theorem r_ixl {xs : List D} {i : Int} : fIx (.lst xs) (.int i) = atI xs i := by
  show orF _ _ _ _ = _
  unfold orF fIxL fIxT fIxS
  dsimp only
  split
  · rename_i h; exact h.symm
  · rename_i h; rw [h]
@[simp] theorem r_ixt {xs : List D} {i : Int} : fIx (.tup xs) (.int i) = atI xs i := by
  show orF _ _ _ _ = _
  unfold orF fIxL fIxT fIxS
  dsimp only
  split
  · rename_i h; exact h.symm
  · rename_i h; rw [h]
@[simp] theorem r_ixs {xs : List Nat} {i : Int} : fIx (.str xs) (.int i) = if xs.length ≤ lim then (atI xs i).bind fun c => some (.str [c]) else none := by
  show orF _ _ _ _ = _
  unfold orF fIxL fIxT fIxS
  rfl
@[simp] theorem r_sll {xs : List D} {l u : Option Int} : fSl (.lst xs) l u = some (.lst (cutL xs l u)) := rfl
@[simp] theorem r_sls {xs : List Nat} {l u : Option Int} : fSl (.str xs) l u = if xs.length ≤ lim then some (.str (cutL xs l u)) else none := rfl
@[simp] theorem r_neg {i : Int} : fNeg (.int i) = some (.int (-i)) := rfl
@[simp] theorem r_len1 {xs : List Nat} : cLen [.str xs] = if xs.length ≤ lim then some (.int xs.length) else none := rfl
@[simp] theorem r_len2 {xs : List D} : cLen [.lst xs] = some (.int xs.length) := rfl
@[simp] theorem r_len3 {xs : List D} : cLen [.tup xs] = some (.int xs.length) := rfl
@[simp] theorem r_int1 {i : Int} : cInt [.int i] = some (.int i) := rfl
@[simp] theorem atI_zero {α : Type} {x : α} {xs : List α} : atI (x :: xs) 0 = some x := by
  unfold atI ixN
  simp
@[simp] theorem ixN_lit {n k : Nat} : ixN n (no_index (OfNat.ofNat k : Int)) = if k < n then some k else none := by
  unfold ixN
  show (if (0 : Int) ≤ ((k : Nat) : Int) then (if ((k : Nat) : Int) < n then some ((k : Nat) : Int).toNat else none) else _) = _
  rw [if_pos (by omega)]
  by_cases h : k < n
  · rw [if_pos h, if_pos (by omega)]; simp
  · rw [if_neg h, if_neg (by omega)]
@[simp] theorem ixN_zero {n : Nat} : ixN n 0 = if 0 < n then some 0 else none := ixN_lit (k := 0)
@[simp] theorem ixN_one {n : Nat} : ixN n 1 = if 1 < n then some 1 else none := ixN_lit (k := 1)
theorem atI_lit' {α : Type} {xs : List α} {k : Nat} : atI xs ((k : Nat) : Int) = xs[k]? := by
  unfold atI
  have := ixN_lit (n := xs.length) (k := k)
  rw [show ixN xs.length ((k : Nat) : Int) = if k < xs.length then some k else none from this]
  by_cases h : k < xs.length
  · rw [if_pos h]; rfl
  · rw [if_neg h, List.getElem?_eq_none (by omega)]; rfl
@[simp] theorem atI_lit {α : Type} {xs : List α} {k : Nat} : atI xs (no_index (OfNat.ofNat k : Int)) = xs[k]? := atI_lit' (k := k)
@[simp] theorem atI_one {α : Type} {xs : List α} : atI xs (1 : Int) = xs[1]? := atI_lit' (k := 1)
end
noncomputable def lawNextB : S := (sSeq (sAsg 2 (eBin fIx (eVar 0) (eC (.int 0))))
  (sSeq (sIf (tE (eBin fLt (eVar 2) (eBlt cLen (aCons (eBin fIx (eVar 0) (eC (.int 3))) aNil)))) (sSeq (sSetI 0 (eC (.int 0)) (eBin fAdd (eVar 2) (eC (.int 1))))
  (sRet (eBin fMod (eBlt cInt (aCons (eBin fIx (eBin fIx (eVar 0) (eC (.int 3))) (eVar 2)) aNil)) (eVar 1)))) sNx)
  (sSeq (sSetI 0 (eC (.int 1)) (eBin fMod (eBlt cInt (aCons (eBin fAdd (eBin fMul (eBin fIx (eVar 0) (eC (.int 1))) (eC (.int 48271))) (eC (.int 12345))) aNil)) (eC (.int 2147483647))))
  (sSeq (sSetI 0 (eC (.int 2)) (eBin fMod (eBlt cInt (aCons (eBin fAdd (eBin fMul (eBin fIx (eVar 0) (eC (.int 2))) (eC (.int 69621))) (eC (.int 777))) aNil)) (eC (.int 2147483629))))
  (sRet (eBin fMod (eBlt cInt (aCons (eBin fAdd (eBin fDiv (eBin fIx (eVar 0) (eC (.int 1))) (eC (.int 64))) (eBin fDiv (eBin fIx (eVar 0) (eC (.int 2))) (eC (.int 128)))) aNil)) (eVar 1)))))))
noncomputable def lawNext : Fn := fnS 2 3 lawNextB
structure DrE (e : Int) (xs : List D) : Prop where
  ex : ∃ (k a b : Int) (ds : List Int), xs = [.int k, .int a, .int b, .lst (ds.map .int), .int e] ∧ 0 ≤ k
theorem cMul_r {i j : Int} (h : -18446744073709551616 < j ∧ j < 18446744073709551616) : cMul i j = true := by
  unfold cMul
  rw [decide_eq_true h, Bool.or_true]
theorem ixN_nat {n k : Nat} (h : k < n) : ixN n (k : Int) = some k := by
  unfold ixN
  rw [if_pos (by omega), if_pos (by omega)]
  simp
theorem atI_int {α : Type} {xs : List α} {i : Int} (h0 : 0 ≤ i) (h1 : i < xs.length) : atI xs i = some (xs[i.toNat]'(by omega)) := by
  unfold atI
  have : ixN xs.length i = some i.toNat := by
    unfold ixN
    rw [if_pos h0, if_pos h1]
  rw [this]
  simp
theorem next_okE {xs : List D} {m e : Int} (h : DrE e xs) (hm : 0 < m) : ∃ r ys, lawNext [.li xs, .da (.int m)] = some (.fz (.int r), [ys]) ∧ 0 ≤ r ∧ r < m ∧ DrE e ys := by
  obtain ⟨k, a, b, ds, rfl, hk⟩ := h.ex
  by_cases hlt : k < (ds.length : Int)
  · refine ⟨(ds[k.toNat]'(by omega)) % m, [.int (k + 1), .int a, .int b, .lst (ds.map .int), .int e], ?_, Int.emod_nonneg _ (by omega), Int.emod_lt_of_pos _ hm, ⟨_, _, _, _, rfl, by omega⟩⟩
    have e1 : atI (ds.map D.int) k = some (.int (ds[k.toNat]'(by omega))) := by
      rw [atI_int hk (by simpa using hlt)]
      simp
    rw [lawNext, r_fnS (by rfl)]
    simp [lawNextB, hlt, hm, e1]
  · refine ⟨((a * 48271 + 12345) % 2147483647 / 64 + (b * 69621 + 777) % 2147483629 / 128) % m, [.int k, .int ((a * 48271 + 12345) % 2147483647), .int ((b * 69621 + 777) % 2147483629), .lst (ds.map .int), .int e], ?_, Int.emod_nonneg _ (by omega), Int.emod_lt_of_pos _ hm, ⟨_, _, _, _, rfl, hk⟩⟩
    have c1 : cMul a 48271 = true := cMul_r (by decide)
    have c2 : cMul b 69621 = true := cMul_r (by decide)
    rw [lawNext, r_fnS (by rfl)]
    simp [lawNextB, hlt, hm, c1, c2]
noncomputable def lawDrawI : S := (sIf (tE (eBin fGt (eVar 5) (eC (.int 0)))) (sSeq (sApp 1 (eBin fMod (eBlt cInt (aCons (eVar 5) aNil)) (eC (.int 5040))))
  (sAsg 5 (eBin fDiv (eVar 5) (eC (.int 5040))))) sNx)
noncomputable def lawDrawL : S := (sSeq (sAsg 2 (eBin fMod (eBlt cInt (aCons (eBin fAdd (eBin fMul (eVar 2) (eC (.int 48271))) (eVar 4)) aNil)) (eC (.int 2147483647))))
  (sSeq (sAsg 3 (eBin fMod (eBlt cInt (aCons (eBin fAdd (eBin fMul (eVar 3) (eC (.int 69621))) (eBin fDiv (eVar 4) (eC (.int 1009)))) aNil)) (eC (.int 2147483629))))
  (sSeq (sAsg 5 (eVar 4))
  (sSeq (sIf (tE (eBin fLt (eVar 4) (eBin fPow (eC (.int 10)) (eC (.int 18))))) (sAsg 5 (eC (.int 0))) sNx)
  (sFor (iR1 (aCons (eC (.int 60)) aNil)) (gN 6) lawDrawI)))))
noncomputable def lawDrawB : S := (sSeq (sAsg 1 (eLst aNil))
  (sSeq (sAsg 2 (eC (.int 7)))
  (sSeq (sAsg 3 (eC (.int 11)))
  (sSeq (sFor (iSq (eVar 0)) (gN 4) lawDrawL)
  (sRet (eLst (aCons (eC (.int 0)) (aCons (eVar 2) (aCons (eVar 3) (aCons (eVar 1) (aCons (eC (.int 3)) aNil)))))))))))
noncomputable def lawDraw : Fn := fnS 1 7 lawDrawB
theorem rngL_get {lo : Int} {n i : Nat} {x : D} (h : (rngL lo n)[i]? = some x) : i < n ∧ x = .int (lo + i) := by
  unfold rngL at h
  rw [List.getElem?_map] at h
  cases e : (List.range n)[i]? with
  | none => rw [e] at h; cases h
  | some j =>
    rw [e] at h
    obtain ⟨h1, h2⟩ := List.getElem?_eq_some_iff.mp e
    rw [List.length_range] at h1
    rw [List.getElem_range] at h2
    cases h
    exact ⟨h1, by rw [h2]⟩
theorem rngL_len {lo : Int} {n : Nat} : (rngL lo n).length = n := by unfold rngL; simp
theorem draw_okE {ns : List Int} (h : ns.length ≤ 63) : ∃ xs, lawDraw [.da (.scr ns)] = some (.fr xs, []) ∧ DrE 3 xs := by
  have key : Sv lawDrawB [.d (.scr ns), .no, .no, .no, .no, .no, .no] fun fl ρ' => ∃ xs, fl = .rt (.fr xs) ∧ DrE 3 xs := by
    refine sv_seq_eq (ρ1 := [.d (.scr ns), .ow [], .no, .no, .no, .no, .no]) (by simp) ?_
    refine sv_seq_eq (ρ1 := [.d (.scr ns), .ow [], .d (.int 7), .no, .no, .no, .no]) (by simp) ?_
    refine sv_seq_eq (ρ1 := [.d (.scr ns), .ow [], .d (.int 7), .d (.int 11), .no, .no, .no]) (by simp) ?_
    have hl : ∃ ρ', sFor (iSq (eVar 0)) (gN 4) lawDrawL [.d (.scr ns), .ow [], .d (.int 7), .d (.int 11), .no, .no, .no] = some (.nx, ρ') ∧ ∃ (ds : List Int) (a b : Int) (s4 s5 s6 : Sl), ρ' = [.d (.scr ns), .ow (ds.map .int), .d (.int a), .d (.int b), s4, s5, s6] ∧ ds.length ≤ 60 * (ns.map D.int).length ∧ ioQ (some s4) = false ∧ ioQ (some s5) = false ∧ ioQ (some s6) = false := by
      refine sFor_inv (fun i ρ => ∃ (ds : List Int) (a b : Int) (s4 s5 s6 : Sl), ρ = [.d (.scr ns), .ow (ds.map .int), .d (.int a), .d (.int b), s4, s5, s6] ∧ ds.length ≤ 60 * i ∧ ioQ (some s4) = false ∧ ioQ (some s5) = false ∧ ioQ (some s6) = false) (by simp) ⟨[], 7, 11, .no, .no, .no, rfl, by simp, rfl, rfl, rfl⟩ ?_
      rintro i x hx ρ ⟨ds, a, b, s4, s5, s6, rfl, hd, h4, h5, h6⟩
      rw [List.getElem?_map] at hx
      obtain ⟨n, hn, rfl⟩ : ∃ n, ns[i]? = some n ∧ x = .int n := by
        cases e : ns[i]? with
        | none => rw [e] at hx; cases hx
        | some n => rw [e] at hx; cases hx; exact ⟨n, rfl, rfl⟩
      have hi : i < 63 := by
        have := (List.getElem?_eq_some_iff.mp hn).1
        omega
      refine ⟨[.d (.scr ns), .ow (ds.map .int), .d (.int a), .d (.int b), .d (.int n), s5, s6], by simp [h4], ?_⟩
      have c1 : cMul a 48271 = true := cMul_r (by decide)
      have c2 : cMul b 69621 = true := cMul_r (by decide)
      show Sv _ _ fun fl ρ2 => (fl = .nx ∨ fl = .ct) ∧ _
      refine sv_seq_eq (ρ1 := [.d (.scr ns), .ow (ds.map .int), .d (.int ((a * 48271 + n) % 2147483647)), .d (.int b), .d (.int n), s5, s6]) (by simp [c1]) ?_
      refine sv_seq_eq (ρ1 := [.d (.scr ns), .ow (ds.map .int), .d (.int ((a * 48271 + n) % 2147483647)), .d (.int ((b * 69621 + n / 1009) % 2147483629)), .d (.int n), s5, s6]) (by simp [c2]) ?_
      refine sv_seq_eq (ρ1 := [.d (.scr ns), .ow (ds.map .int), .d (.int ((a * 48271 + n) % 2147483647)), .d (.int ((b * 69621 + n / 1009) % 2147483629)), .d (.int n), .d (.int n), s6]) (by simp [h5]) ?_
      refine sv_seq_eq (ρ1 := [.d (.scr ns), .ow (ds.map .int), .d (.int ((a * 48271 + n) % 2147483647)), .d (.int ((b * 69621 + n / 1009) % 2147483629)), .d (.int n), .d (.int (if n < 10 ^ 18 then 0 else n)), s6]) ?_ ?_
      · by_cases q : n < 1000000000000000000
        · simp [q]
        · simp [q]
      generalize (if n < (10 ^ 18 : Int) then 0 else n) = r0
      generalize (a * 48271 + n) % 2147483647 = a1
      generalize (b * 69621 + n / 1009) % 2147483629 = b1
      have hl2 : ∃ ρ', sFor (iR1 (aCons (eC (.int 60)) aNil)) (gN 6) lawDrawI [.d (.scr ns), .ow (ds.map .int), .d (.int a1), .d (.int b1), .d (.int n), .d (.int r0), s6] = some (.nx, ρ') ∧ ∃ (ds' : List Int) (r : Int) (s6 : Sl), ρ' = [.d (.scr ns), .ow (ds'.map .int), .d (.int a1), .d (.int b1), .d (.int n), .d (.int r), s6] ∧ ds'.length ≤ 60 * i + (rngL 0 60).length ∧ ioQ (some s6) = false := by
        refine sFor_inv (fun j ρ => ∃ (ds' : List Int) (r : Int) (s6 : Sl), ρ = [.d (.scr ns), .ow (ds'.map .int), .d (.int a1), .d (.int b1), .d (.int n), .d (.int r), s6] ∧ ds'.length ≤ 60 * i + j ∧ ioQ (some s6) = false) (by simp) ⟨ds, r0, s6, rfl, by omega, h6⟩ ?_
        rintro j x hx ρ ⟨ds', r, s6, rfl, hd', h6⟩
        obtain ⟨hj, rfl⟩ := rngL_get hx
        have hj : j < 60 := hj
        refine ⟨[.d (.scr ns), .ow (ds'.map .int), .d (.int a1), .d (.int b1), .d (.int n), .d (.int r), .d (.int (0 + j))], by simp [h6], ?_⟩
        have hl : (ds'.map D.int).length < lim := by
          rw [List.length_map]
          show _ < 16777216
          omega
        by_cases q : 0 < r
        · refine ⟨.nx, [.d (.scr ns), .ow ((ds' ++ [r % 5040]).map .int), .d (.int a1), .d (.int b1), .d (.int n), .d (.int (r / 5040)), .d (.int (0 + j))], ?_, .inl rfl, ds' ++ [r % 5040], r / 5040, .d (.int (0 + j)), rfl, by rw [List.length_append]; simp; omega, rfl⟩
          rw [List.length_map] at hl
          simp [lawDrawI, q, hl]
        · refine ⟨.nx, [.d (.scr ns), .ow (ds'.map .int), .d (.int a1), .d (.int b1), .d (.int n), .d (.int r), .d (.int (0 + j))], ?_, .inl rfl, ds', r, .d (.int (0 + j)), rfl, by omega, rfl⟩
          simp [lawDrawI, q]
      obtain ⟨ρ', e, ds', r', s6', rfl, hd', h6'⟩ := hl2
      rw [rngL_len] at hd'
      exact ⟨.nx, _, e, .inl rfl, ds', a1, b1, .d (.int n), .d (.int r'), s6', rfl, by omega, rfl, rfl, h6'⟩
    obtain ⟨ρ', e, ds, a, b, s4, s5, s6, rfl, hd, _⟩ := hl
    refine sv_seq_eq e ?_
    exact ⟨_, _, by simp; rfl, _, rfl, ⟨0, a, b, ds, rfl, by decide⟩⟩
  obtain ⟨fl, ρ', e, xs, rfl, hx⟩ := key
  refine ⟨xs, ?_, hx⟩
  rw [lawDraw, r_fnS (by rfl)]
  show (lawDrawB [.d (.scr ns), .no, .no, .no, .no, .no, .no]).bind _ = _
  rw [e]
  cases ρ' <;> rfl
end Sw
namespace Sw
open L2
theorem iR1_ok {ms : M (List Vl)} {ρ ρ' : Rho} {j : Int} (h : ms ρ = some ([.fz (.int j)], ρ')) (h0 : -1000000 ≤ j) (h1 : j ≤ 1000000) : iR1 ms ρ = some (rngL 0 j.toNat, ρ') := by
  have q : -(2 ^ 62) ≤ j ∧ j < 2 ^ 62 := ⟨Int.le_trans (by decide) h0, Int.lt_of_le_of_lt h1 (by decide)⟩
  unfold iR1
  rw [h]
  show (if _ then _ else _) = _
  rw [if_pos q]
theorem outs_dn {x : D} {gs : List Ag} (h : ∀ r, outsOf gs r = []) : ∀ r, outsOf (.da x :: gs) r = []
  | [] => rfl
  | s :: r => by rw [r_outs1]; exact h r
@[simp] theorem outs_d1 {x : D} {r : Rho} : outsOf [.da x] r = [] := outs_dn (fun _ => r_outs0) r
@[simp] theorem outs_d2 {x y : D} {r : Rho} : outsOf [.da x, .da y] r = [] := outs_dn (fun _ => outs_d1) r
@[simp] theorem outs_d3 {x y z : D} {r : Rho} : outsOf [.da x, .da y, .da z] r = [] := outs_dn (fun _ => outs_d2) r
@[simp] theorem outs_d4 {x y z w : D} {r : Rho} : outsOf [.da x, .da y, .da z, .da w] r = [] := outs_dn (fun _ => outs_d3) r
/-- a comprehension whose turns change nothing else -/
theorem lcM_pure {vs : List Nat} {g : D → Rho → Option Rho} {t : M Bool} {e : M Vl} {ρ : Rho} (p : D → Bool) (h : D → D) : ∀ (xs acc : List D),
    (∀ x ∈ xs, ∃ ρ1, g x ρ = some ρ1 ∧ t ρ1 = some (p x, ρ1) ∧ (p x = true → e ρ1 = some (.fz (h x), ρ1)) ∧ wipeR ρ1 vs = ρ) → acc.length + xs.length ≤ lim → lcM vs g t e xs acc ρ = some (acc ++ (xs.filter p).map h, ρ)
  | [], acc, _, _ => by simp [lcM]
  | x :: xs, acc, hx, hl => by
    obtain ⟨ρ1, e1, e2, e3, e4⟩ := hx x List.mem_cons_self
    rw [List.length_cons] at hl
    unfold lcM
    rw [e1]
    show (t ρ1).bind _ = _
    rw [e2]
    show (if p x = true then _ else _) = _
    by_cases q : p x = true
    · rw [if_pos q, e3 q]
      show (if acc.length < lim then _ else _) = _
      rw [if_pos (by omega)]
      show lcM vs g t e xs (acc ++ [h x]) (wipeR ρ1 vs) = _
      rw [e4, lcM_pure p h xs _ (fun y hy => hx y (List.mem_cons_of_mem _ hy)) (by rw [List.length_append, List.length_singleton]; omega), List.filter_cons, if_pos q]
      simp
    · rw [if_neg q]
      show lcM vs g t e xs acc (wipeR ρ1 vs) = _
      rw [e4, lcM_pure p h xs _ (fun y hy => hx y (List.mem_cons_of_mem _ hy)) (by omega), List.filter_cons, if_neg q]
/-- .. and one with an invariant of the slots and of the list so far -/
theorem lcM_inv {vs : List Nat} {g : D → Rho → Option Rho} {t : M Bool} {e : M Vl} (I : Nat → List D → Rho → Prop) : ∀ (xs acc : List D) (k : Nat) (ρ : Rho), I k acc ρ →
    (∀ (i : Nat) (x : D), xs[i]? = some x → ∀ acc ρ, I (k + i) acc ρ → ∃ ρ1, g x ρ = some ρ1 ∧ ∃ b ρ2, t ρ1 = some (b, ρ2) ∧ (if b = true then ∃ r ρ3 z ρ4, e ρ2 = some (r, ρ3) ∧ frz ρ3 (stl r) = some (z, ρ4) ∧ acc.length < lim ∧ I (k + i + 1) (acc ++ [z]) (wipeR ρ4 vs) else I (k + i + 1) acc (wipeR ρ2 vs))) →
    ∃ acc' ρ', lcM vs g t e xs acc ρ = some (acc', ρ') ∧ I (k + xs.length) acc' ρ'
  | [], acc, k, ρ, h, _ => ⟨acc, ρ, rfl, h⟩
  | x :: xs, acc, k, ρ, h, step => by
    obtain ⟨ρ1, e1, b, ρ2, e2, h2⟩ := step 0 x rfl acc ρ h
    have next : ∀ (acc : List D) (ρ : Rho), I (k + 1) acc ρ → ∃ acc' ρ', lcM vs g t e xs acc ρ = some (acc', ρ') ∧ I (k + (x :: xs).length) acc' ρ' := fun acc ρ hI => by
      obtain ⟨acc', ρ', h3, h4⟩ := lcM_inv I xs acc (k + 1) ρ hI fun i y hy acc ρ h => by
        have := step (i + 1) y (by simpa using hy) acc ρ (by rw [show k + (i + 1) = k + 1 + i by omega]; exact h)
        rw [show k + (i + 1) + 1 = k + 1 + i + 1 by omega] at this
        exact this
      exact ⟨acc', ρ', h3, by rw [List.length_cons, show k + (xs.length + 1) = k + 1 + xs.length by omega]; exact h4⟩
    have un : lcM vs g t e (x :: xs) acc ρ = (g x ρ).bind fun ρ1 => (t ρ1).bind fun p => if p.1 = true then (e p.2).bind fun q => (frz q.2 (stl q.1)).bind fun z => if acc.length < lim then lcM vs g t e xs (acc ++ [z.1]) (wipeR z.2 vs) else none else lcM vs g t e xs acc (wipeR p.2 vs) := by
      conv => lhs; unfold lcM
    cases b with
    | true =>
      simp only [if_true] at h2
      obtain ⟨r, ρ3, z, ρ4, e3, e4, hl, h5⟩ := h2
      obtain ⟨acc', ρ', h6, h7⟩ := next _ _ h5
      refine ⟨acc', ρ', ?_, h7⟩
      rw [un, e1]
      show (t ρ1).bind _ = _
      rw [e2]
      show (e ρ2).bind _ = _
      rw [e3]
      show (frz ρ3 (stl r)).bind _ = _
      rw [e4]
      show (if acc.length < lim then _ else _) = _
      rw [if_pos hl]
      exact h6
    | false =>
      simp only [Bool.false_eq_true, if_false] at h2
      obtain ⟨acc', ρ', h6, h7⟩ := next _ _ h2
      refine ⟨acc', ρ', ?_, h7⟩
      rw [un, e1]
      show (t ρ1).bind _ = _
      rw [e2]
      exact h6
@[simp] theorem r_wipeR0 {ρ : Rho} : wipeR ρ [] = ρ := rfl
@[simp] theorem r_wipeR1 {ρ : Rho} {v : Nat} {vs : List Nat} : wipeR ρ (v :: vs) = (wipeR ρ vs).set v .no := rfl
@[simp] theorem r_backR0 {ρ0 ρ : Rho} : backR ρ0 ρ [] = ρ := rfl
@[simp] theorem r_backR1 {ρ0 ρ : Rho} {v : Nat} {vs : List Nat} : backR ρ0 ρ (v :: vs) = (backR ρ0 ρ vs).set v ((ρ0[v]?).getD .no) := rfl
@[simp] theorem r_plain1 : plainSl (some .no) = true := rfl
@[simp] theorem r_plain2 {x : D} : plainSl (some (.d x)) = true := rfl
theorem eLc_of {vs : List Nat} {src : M (List D)} {g : D → Rho → Option Rho} {t : M Bool} {e : M Vl} {ρ ρ1 ρ2 : Rho} {xs acc : List D} (h1 : src ρ = some (xs, ρ1)) (h2 : (vs.all fun v => plainSl ρ1[v]?) = true) (h3 : lcM vs g t e xs [] (wipeR ρ1 vs) = some (acc, ρ2)) : eLc vs src g t e ρ = some (.fr acc, backR ρ1 ρ2 vs) := by
  unfold eLc
  rw [h1]
  show (if _ then _ else _) = _
  rw [if_pos h2, h3]
  rfl
/-- join of a list of one-sign texts -/
theorem strsOf_map (cs : List (List Nat)) : strsOf (cs.map D.str) = some cs := by
  induction cs with
  | nil => rfl
  | cons c cs ih =>
    show (strsOf (cs.map D.str)).bind _ = _
    rw [ih]
    rfl
theorem join_nil : ∀ ys : List (List Nat), TL.joinL [] ys = ys.flatten
  | [] => rfl
  | [y] => by simp [TL.joinL]
  | y :: z :: r => by
    show y ++ ([] ++ TL.joinL [] (z :: r)) = _
    rw [join_nil (z :: r)]
    simp
theorem join_empty {cs : List (List Nat)} (h : (cs.map (·.length)).sum ≤ lim) : fJoin (.str []) [.lst (cs.map D.str)] = some (.str cs.flatten) := by
  unfold fJoin
  dsimp only
  rw [strsOf_map]
  show (if _ then _ else _) = _
  rw [if_pos (by simpa using h), join_nil]
/-- the texts of single signs -/
theorem flat1 : ∀ cs : List Nat, (cs.map fun c => [c]).flatten = cs
  | [] => rfl
  | c :: cs => by rw [List.map_cons, List.flatten_cons, flat1 cs]; rfl
theorem sum1 : ∀ cs : List Nat, ((cs.map fun c => [c]).map (·.length)).sum = cs.length
  | [] => rfl
  | c :: cs => by
    rw [List.map_cons, List.map_cons, List.sum_cons, sum1 cs, List.length_cons]
    show 1 + cs.length = cs.length + 1
    omega
theorem join_signs {cs : List Nat} (h : cs.length ≤ lim) : fJoin (.str []) [.lst (cs.map fun c => D.str [c])] = some (.str cs) := by
  have e : (cs.map fun c => D.str [c]) = (cs.map fun c => [c]).map D.str := by rw [List.map_map]; rfl
  rw [e, join_empty (by rw [sum1]; exact h), flat1]
theorem cnt3 {a b c : Nat} (hab : a ≠ b) (hac : a ≠ c) (hbc : b ≠ c) : ∀ n : Nat, ((List.range n).filter fun k => decide (k = a) || (decide (k = b) || decide (k = c))).length = (if a < n then 1 else 0) + (if b < n then 1 else 0) + (if c < n then 1 else 0)
  | 0 => by simp
  | n + 1 => by
    rw [List.range_succ, List.filter_append, List.length_append, cnt3 hab hac hbc n]
    by_cases q1 : n = a
    · subst q1; simp; (repeat' split) <;> omega
    · by_cases q2 : n = b
      · subst q2; simp [q1]; (repeat' split) <;> omega
      · by_cases q3 : n = c
        · subst q3; simp [q1, q2]; (repeat' split) <;> omega
        · simp [q1, q2, q3]
          (repeat' split) <;> omega
noncomputable def lawT1 : List Nat := [9, 10, 32, 33, 34, 35, 36, 38, 39, 40, 41, 42, 43, 44, 45, 46, 47, 48, 49, 50, 51, 52, 53, 54, 55, 56, 57, 58, 59, 60, 61, 62, 63, 64, 65, 66, 67, 68, 69, 70, 71, 72, 73, 74, 75, 76, 77, 78, 79, 80, 81, 82, 83, 84, 85, 86, 87, 88, 89, 90, 91, 92, 93, 94, 95, 96]
noncomputable def lawT2 : List Nat := [97, 98, 99, 100, 101, 102, 103, 104, 105, 106, 107, 108, 109, 110, 111, 112, 113, 114, 115, 116, 117, 118, 119, 120, 121, 122, 123, 124, 125, 126]
/-- the 96 signs -/
noncomputable def SGN : List Nat := lawT1 ++ lawT2
theorem SGN_len : SGN.length = 96 := by decide
noncomputable def lawSignsB : S := (sSeq (sAsg 0 (eC (.str lawT1)))
  (sRet (eBin fAdd (eVar 0) (eC (.str lawT2)))))
noncomputable def lawSigns : Fn := fnS 0 1 lawSignsB
theorem signs_ok : lawSigns [] = some (.fz (.str SGN), []) := by
  rw [lawSigns, r_fnS (by rfl)]
  simp [lawSignsB, SGN, show lawT1.length + lawT2.length ≤ lim by decide]
noncomputable def lawLetC : M Vl := (eLc [6] (iR1 (aCons (eC (.int 96)) aNil)) (gN 6) (tOr (tE (eBin fEq (eVar 6) (eVar 3))) (tOr (tE (eBin fEq (eVar 6) (eVar 4))) (tE (eBin fEq (eVar 6) (eVar 5))))) (eBin fIx (eVar 2) (eVar 6)))
noncomputable def lawLettersB : S := (sSeq (sAsg 1 (eCall lawNext [true, false] (aCons (eVar 0) (aCons (eC (.int 6)) aNil))))
  (sSeq (sIf (tE (eBin fEq (eVar 1) (eC (.int 0)))) (sRet (eC (.str [10, 97, 98]))) sNx)
  (sSeq (sIf (tE (eBin fEq (eVar 1) (eC (.int 1)))) (sRet (eC (.str [32, 97, 98]))) sNx)
  (sSeq (sIf (tE (eBin fEq (eVar 1) (eC (.int 2)))) (sRet (eC (.str [97, 98, 99]))) sNx)
  (sSeq (sAsg 2 (eCall lawSigns [] aNil))
  (sSeq (sAsg 3 (eCall lawNext [true, false] (aCons (eVar 0) (aCons (eC (.int 96)) aNil))))
  (sSeq (sAsg 4 (eBin fMod (eBlt cInt (aCons (eBin fAdd (eBin fAdd (eVar 3) (eC (.int 1))) (eCall lawNext [true, false] (aCons (eVar 0) (aCons (eC (.int 95)) aNil)))) aNil)) (eC (.int 96))))
  (sSeq (sAsg 5 (eBin fMod (eBlt cInt (aCons (eBin fAdd (eBin fAdd (eVar 3) (eC (.int 1))) (eCall lawNext [true, false] (aCons (eVar 0) (aCons (eC (.int 95)) aNil)))) aNil)) (eC (.int 96))))
  (sSeq (sIf (tE (eBin fEq (eVar 5) (eVar 4))) (sAsg 5 (eBin fMod (eBlt cInt (aCons (eBin fAdd (eVar 5) (eC (.int 1))) aNil)) (eC (.int 96)))) sNx)
  (sSeq (sIf (tE (eBin fEq (eVar 5) (eVar 3))) (sAsg 5 (eBin fMod (eBlt cInt (aCons (eBin fAdd (eVar 5) (eC (.int 1))) aNil)) (eC (.int 96)))) sNx)
  (sRet (eMet fJoin (eC (.str [])) (aCons lawLetC aNil)))))))))))))
noncomputable def lawLetters : Fn := fnS 1 7 lawLettersB
theorem SGN_at {r : Int} (h0 : 0 ≤ r) (h1 : r < 96) : atI SGN r = some (SGN[r.toNat]'(by rw [SGN_len]; omega)) := atI_int h0 (by rw [SGN_len]; omega)
theorem let_comp {f s t : Nat} {io : List D} {c : D} (hf : f < 96) (hs : s < 96) (ht : t < 96) (n1 : f ≠ s) (n2 : f ≠ t) (n3 : s ≠ t) :
    ∃ cs : List Nat, cs.length = 3 ∧ lawLetC [.io io, .d c, .d (.str SGN), .d (.int f), .d (.int s), .d (.int t), .no] = some (.fr (cs.map fun c => .str [c]), [.io io, .d c, .d (.str SGN), .d (.int f), .d (.int s), .d (.int t), .no]) ∧ cs.Sublist SGN := by
  refine ⟨((List.range 96).filter fun k => decide (k = f) || (decide (k = s) || decide (k = t))).map fun k => SGN.getD k 0, ?_, ?_, ?_⟩
  · rw [List.length_map, cnt3 n1 n2 n3]
    simp [hf, hs, ht]
  · have hl := lcM_pure (vs := [6]) (g := gN 6) (t := (tOr (tE (eBin fEq (eVar 6) (eVar 3))) (tOr (tE (eBin fEq (eVar 6) (eVar 4))) (tE (eBin fEq (eVar 6) (eVar 5)))))) (e := (eBin fIx (eVar 2) (eVar 6))) (ρ := [.io io, .d c, .d (.str SGN), .d (.int f), .d (.int s), .d (.int t), .no])
      (fun x => match x with
        | .int k => decide (k = f) || (decide (k = s) || decide (k = t))
        | _ => false) (fun x => match x with
        | .int k => .str [SGN.getD k.toNat 0]
        | _ => .non) (rngL 0 96) [] (fun x hx => ?_) (by rw [rngL_len]; decide)
    · rw [List.nil_append] at hl
      have e := eLc_of (vs := [6]) (src := iR1 (aCons (eC (.int 96)) aNil)) (ρ := [.io io, .d c, .d (.str SGN), .d (.int f), .d (.int s), .d (.int t), .no]) (ρ1 := [.io io, .d c, .d (.str SGN), .d (.int f), .d (.int s), .d (.int t), .no]) (xs := rngL 0 96) (by simp) (by simp) hl
      unfold lawLetC
      rw [e]
      refine congrArg some (Prod.ext (congrArg Vl.fr ?_) rfl)
      unfold rngL
      rw [List.filter_map, List.map_map, List.map_map]
      have e2 : ((fun x : D => match x with
        | .int k => decide (k = f) || (decide (k = s) || decide (k = t))
        | _ => false) ∘ fun i : Nat => D.int (0 + (i : Int))) = fun k => decide (k = f) || (decide (k = s) || decide (k = t)) := by
        funext k
        show (decide ((0 : Int) + k = f) || (decide ((0 : Int) + k = s) || decide ((0 : Int) + k = t))) = _
        congr 1
        · exact decide_eq_decide.mpr (by omega)
        · congr 1
          · exact decide_eq_decide.mpr (by omega)
          · exact decide_eq_decide.mpr (by omega)
      rw [e2]
      apply List.map_congr_left
      intro k _
      show D.str [SGN.getD ((0 : Int) + k).toNat 0] = _
      rw [show ((0 : Int) + k).toNat = k by omega]
      rfl
    · obtain ⟨i, hi⟩ := List.mem_iff_getElem?.mp hx
      obtain ⟨hi96, rfl⟩ := rngL_get hi
      refine ⟨[.io io, .d c, .d (.str SGN), .d (.int f), .d (.int s), .d (.int t), .d (.int (0 + i))], by simp, ?_, fun _ => ?_, by simp⟩
      · generalize (0 : Int) + i = z
        by_cases q1 : z = f
        · simp [q1]
        · by_cases q2 : z = s
          · simp [q1, q2]
          · simp [q1, q2]
      · have e := SGN_at (r := (0 : Int) + i) (by omega) (by omega)
        have hl : SGN.length ≤ lim := by rw [SGN_len]; decide
        simp only [r_eBin, r_eVar, List.getElem?_cons_succ, List.getElem?_cons_zero, Option.bind_some, r_stl1, r_look1, r_ixs, hl, if_true, e]
        rw [List.getD_eq_getElem?_getD, List.getElem?_eq_getElem (by rw [SGN_len]; omega)]
        rfl
  · have e : (List.range 96).map (fun k => SGN.getD k 0) = SGN := by decide
    have := (List.filter_sublist (p := fun k => decide (k = f) || (decide (k = s) || decide (k = t))) (l := List.range 96)).map (fun k => SGN.getD k 0)
    rw [e] at this
    exact this
end Sw
namespace Sw
open PySem PySem.Spec PyProof.Rows L2
noncomputable def tyN : D → String
  | .non => "NoneType"
  | .bl _ => "bool"
  | .int _ => "int"
  | .str _ => "str"
  | .lst _ => "list"
  | .tup _ => "tuple"
  | .scr _ => "list"
  | .obj _ _ _ => "object"
theorem tyx {K : Kx} {H F : Hp} {v : V} {x : D} (no : ∀ c ks xs, x ≠ .obj c ks xs) (s : Same F H) (h : Vw K H F v x) : TyX K H v (.type (tyN x)) := by
  cases x with
  | non => rw [vw_non h]; exact .base .non
  | bl b => rw [vw_bl h]; exact .base (.bl b)
  | int i => rw [vw_int h]; exact .base (.int i)
  | str t => rw [vw_str h]; exact .base (.str _)
  | lst xs => obtain ⟨a, vs, rfl, h1, _⟩ := h; exact .base (.lst h1)
  | tup xs =>
    cases (show Rep K F v (.tup xs) from h) with
    | tup h1 _ =>
      rcases same_t s h1 with (q | ⟨o, q⟩) | ⟨o, its, n, q, c, _⟩
      · exact .base (.tup q)
      · exact .fTuple q
      · exact .kTuple q c
  | scr xs =>
    cases (show Rep K F v (.scr xs) from h) with
    | scr h1 =>
      rcases s.seq h1 with (q | ⟨o, q⟩) | ⟨o, its, n, q, c, _⟩
      · exact .base (.lst q)
      · exact .base (.frz q)
      · exact .kList q c
  | obj c ks xs => exact absurd rfl (no c ks xs)
noncomputable def isO : D → Bool
  | .obj _ _ _ => true
  | _ => false
noncomputable def fIsi (T : String) : D → Option D := fun x => if isO x = true then none else (kitB (tyN x) T).bind fun b => some (.bl b)
theorem fIsi_no {T : String} {x z : D} (h : fIsi T x = some z) : (∀ c ks xs, x ≠ .obj c ks xs) ∧ ((kitB (tyN x) T).bind fun b => some (D.bl b)) = some z := by
  unfold fIsi at h
  split at h
  · cases h
  · rename_i n
    exact ⟨fun c ks xs z => n (by rw [z]; rfl), h⟩
section
variable {X : Cx} {a b c e : Expr} {ma mb mc me : M Vl} {pos p : Pos} {es : List Expr} {ms : M (List Vl)}
theorem se_isi {T : String} {y : Str} {p2 : Pos} (hm : X.mg "isinstance" = none) (hg : Gl X "isinstance") (hm2 : X.mg y = none) (hg2 : Gl X y) (hv : bootBuiltins y = some (.type T)) (ha : SE X a ma) (hn : y ≠ "__name__" := by decide) (hdb : (y == ("__debug__" : Str)) = false := by decide)
    (he : starEach [a, .Name y p2] X.env = (false, eval a X.env) :: starEach [.Name y p2] X.env := by rfl) (he2 : starEach [.Name y p2] X.env = (false, eval (.Name y p2) X.env) :: starEach [] X.env := by rfl) (hpl : (backTo pos (starEach [.Name y p2] X.env)).any (·.1) = false := by rfl) :
    SE X (.Call (.Name "isinstance" p) [a, .Name y p2] [] pos) (eUn (fIsi T) ma) := by
  have pT : PE X (.Name y p2) (tC (.ty T)) := pe_bltn hg2 hm2 hv rfl hn hdb
  refine pe_weak (pe_callB call_isi hg hm (by decide +kernel) (pa_cons ha (pa_cons pT pa_nil he2) he) (by decide) (by decide) he hpl) fun σ H Q ⟨G, ρ, F, r0, ρ', W, hm, q⟩ => ?_
  unfold eUn at hm
  obtain ⟨⟨x, ρ1⟩, e1, hm⟩ := Option.bind_eq_some_iff.mp hm
  obtain ⟨dx, e3, hm⟩ := Option.bind_eq_some_iff.mp hm
  obtain ⟨dz, e5, hm⟩ := Option.bind_eq_some_iff.mp hm
  cases hm
  refine tm_use W e1 fun v H1 F1 s1 R1 => ?_
  obtain ⟨no, e5⟩ := fIsi_no e5
  obtain ⟨bb, e6, e7⟩ := Option.bind_eq_some_iff.mp e5
  cases e7
  exact ⟨v, .ty T, _, _, bb, rfl, .ty T, tyx no s1.wd.sub (vw_of s1.wd R1 e3), kit_ty e6, q _ H1 F1 s1 (.bl bb)⟩
noncomputable def findC (s : List Nat) (c : Nat) : Int := if c ∈ s then (s.idxOf c : Int) else -1
noncomputable def fFind : D → List D → Option D
  | .str s, [.str [c]] => some (.int (findC s c))
  | _, _ => none
theorem find_txt (s : List Nat) (c : Nat) : Txt.find ⟨s.toArray⟩ ⟨#[c]⟩ = findC s c := by
  unfold Txt.find findC
  rcases PySem.StrLaws.occ_head ⟨s.toArray⟩ ⟨#[c]⟩ 1 (Nat.le_refl 1) with ⟨h1, h2⟩ | ⟨i, r, h1, h2, h3⟩
  · rw [h1, if_neg]
    intro hc
    obtain ⟨i, hi⟩ := List.mem_iff_getElem?.mp hc
    exact h2 i ((PySem.StrLaws.subAt_one _ c i).mpr (by simpa using hi))
  · rw [h1]
    have hi := (PySem.StrLaws.subAt_one _ c i).mp h2
    have hi : s[i]? = some c := by simpa using hi
    obtain ⟨hlt, hge⟩ := List.getElem?_eq_some_iff.mp hi
    have hm : c ∈ s := by rw [← hge]; exact List.getElem_mem hlt
    rw [if_pos hm]
    show ((i : Nat) : Int) = _
    have : s.idxOf c = i := by
      have hl : s.idxOf c < s.length := List.idxOf_lt_length_of_mem hm
      have hg : s[s.idxOf c] = c := List.getElem_idxOf hl
      by_cases q : s.idxOf c < i
      · exact absurd ((PySem.StrLaws.subAt_one ⟨s.toArray⟩ c (s.idxOf c)).mpr (by simpa [List.getElem?_eq_getElem hl] using hg)) (h3 _ q)
      · by_cases q2 : i < s.idxOf c
        · have := List.not_of_lt_findIdx (p := fun x => x == c) (xs := s) (i := i) (by simpa [List.idxOf] using q2)
          simp [hge] at this
        · omega
    rw [this]
theorem ms_find {K : Kx} : MetS K (fun x xs H Q => ∃ a b, x = .str a ∧ xs = [.str b] ∧ Q (.int (Txt.find a b)) H) fFind := by
  intro H F v vs x xs z s hx hxs e Q q
  unfold fFind at e
  split at e
  · cases e
    obtain ⟨u, rfl, hu⟩ := vws1 hxs
    rw [vw_str hx, vw_str hu]
    refine ⟨_, _, rfl, rfl, ?_⟩
    rw [find_txt]
    exact q _ H F (Alc.refl s) (.int _)
  · cases e
theorem se_find {o : Expr} {mo : M Vl} {apos cpos : Pos} (ho : SE X o mo) (ha : SA X [e] ms)
    (hbase : attributeBase o "find" X.env (eval o X.env) = eval o X.env := by rfl)
    (hfew : ((backTo cpos (starEach [e] X.env)).all (fun x => !x.1) && (backToKw cpos (keywordEach [] X.env)).all (fun x => x.1.isSome)
      && decide ([e].length + ([] : List Keyword).length + (if ([] : List Keyword).isEmpty then 0 else 1) < 30)) = true := by rfl)
    (hline : (apos.endLine == cpos.line) = true := by rfl) (hs : starEach [e] X.env = (false, eval e X.env) :: starEach [] X.env := by rfl) (hplain : (backTo cpos (starEach [] X.env)).any (·.1) = false := by rfl) :
    SE X (.Call (.Attribute o "find" apos) [e] [] cpos) (eMet fFind mo ms) := se_met PySem.F.slot_str_find PySem.F.type_str_find mt_find (fun x xs z h => by
  unfold fFind at h
  split at h
  · exact ⟨_, rfl⟩
  · cases h) ms_find ho ha hbase hfew hline hs hplain
noncomputable def fRev : D → Option D
  | .lst xs => some (.lst xs.reverse)
  | .str s => if s.length ≤ lim then some (.str s.reverse) else none
  | _ => none
end
section
@[simp] theorem r_fIsi1 {b : Bool} : fIsi "bool" (.bl b) = some (.bl true) := by unfold fIsi; rw [show kitB (tyN (.bl b)) "bool" = some true by show kitB "bool" "bool" = _; decide +kernel]; rfl
@[simp] theorem r_fIsi2 {i : Int} : fIsi "int" (.int i) = some (.bl true) := by unfold fIsi; rw [show kitB (tyN (.int i)) "int" = some true by show kitB "int" "int" = _; decide +kernel]; rfl
@[simp] theorem r_fIsi3 {i : Int} : fIsi "bool" (.int i) = some (.bl false) := by unfold fIsi; rw [show kitB (tyN (.int i)) "bool" = some false by show kitB "int" "bool" = _; decide +kernel]; rfl
@[simp] theorem r_fIsi4 {s : List Nat} : fIsi "str" (.str s) = some (.bl true) := by unfold fIsi; rw [show kitB (tyN (.str s)) "str" = some true by show kitB "str" "str" = _; decide +kernel]; rfl
@[simp] theorem r_fIsi5 {s : List D} : fIsi "list" (.lst s) = some (.bl true) := by unfold fIsi; rw [show kitB (tyN (.lst s)) "list" = some true by show kitB "list" "list" = _; decide +kernel]; rfl
@[simp] theorem r_fIsi6 {s : List D} : fIsi "tuple" (.tup s) = some (.bl true) := by unfold fIsi; rw [show kitB (tyN (.tup s)) "tuple" = some true by show kitB "tuple" "tuple" = _; decide +kernel]; rfl
@[simp] theorem r_fFind {s : List Nat} {c : Nat} : fFind (.str s) [.str [c]] = some (.int (findC s c)) := rfl
@[simp] theorem r_rev1 {xs : List D} : fRev (.lst xs) = some (.lst xs.reverse) := rfl
@[simp] theorem r_rev2 {xs : List Nat} : fRev (.str xs) = if xs.length ≤ lim then some (.str xs.reverse) else none := rfl
end
end Sw
namespace Sw
open L2
noncomputable def Fv (f : Fn) (gs : List Ag) (Q : Vl → List (List D) → Prop) : Prop := ∃ r os, f gs = some (r, os) ∧ Q r os
theorem Fv.mono {f : Fn} {gs : List Ag} {Q Q' : Vl → List (List D) → Prop} (h : Fv f gs Q) (w : ∀ r os, Q r os → Q' r os) : Fv f gs Q' :=
  let ⟨r, os, e, q⟩ := h
  ⟨r, os, e, w r os q⟩
theorem Ev.mono {α : Type} {m : M α} {ρ : Rho} {Q Q' : α → Rho → Prop} (h : Ev m ρ Q) (w : ∀ r ρ', Q r ρ' → Q' r ρ') : Ev m ρ Q' :=
  let ⟨r, os, e, q⟩ := h
  ⟨r, os, e, w r os q⟩
theorem Sv.mono {s : S} {ρ : Rho} {Q Q' : Fl → Rho → Prop} (h : Sv s ρ Q) (w : ∀ r ρ', Q r ρ' → Q' r ρ') : Sv s ρ Q' :=
  let ⟨r, os, e, q⟩ := h
  ⟨r, os, e, w r os q⟩
theorem ev_eq {α : Type} {m : M α} {ρ ρ' : Rho} {r : α} {Q : α → Rho → Prop} (h : m ρ = some (r, ρ')) (q : Q r ρ') : Ev m ρ Q := ⟨r, ρ', h, q⟩
/-- a bool that parts -/
noncomputable def Brn (c : Bool) (A B : Prop) : Prop := (c = true → A) ∧ (c = false → B)
theorem brn_t {A B : Prop} (h : A) : Brn true A B := ⟨fun _ => h, fun z => Bool.noConfusion z⟩
theorem brn_f {A B : Prop} (h : B) : Brn false A B := ⟨fun z => Bool.noConfusion z, fun _ => h⟩
theorem brn_nT {A B : Prop} (h : B) : Brn (!true) A B := brn_f h
theorem brn_nF {A B : Prop} (h : A) : Brn (!false) A B := brn_t h
theorem brn_nn {c : Bool} {A B : Prop} (h : Brn c A B) : Brn (!!c) A B := by rw [Bool.not_not]; exact h
theorem brn_dt {p : Prop} [Decidable p] {A B : Prop} (hp : p) (h : A) : Brn (decide p) A B := ⟨fun _ => h, fun z => absurd hp (of_decide_eq_false z)⟩
theorem brn_df {p : Prop} [Decidable p] {A B : Prop} (hp : ¬ p) (h : B) : Brn (decide p) A B := ⟨fun z => absurd (of_decide_eq_true z) hp, fun _ => h⟩
theorem brn_nt {p : Prop} [Decidable p] {A B : Prop} (hp : ¬ p) (h : A) : Brn (!decide p) A B := by rw [decide_eq_false hp]; exact brn_t h
theorem brn_nf {p : Prop} [Decidable p] {A B : Prop} (hp : p) (h : B) : Brn (!decide p) A B := by rw [decide_eq_true hp]; exact brn_f h
theorem brn_d {p : Prop} [Decidable p] {A B : Prop} (h1 : p → A) (h2 : ¬ p → B) : Brn (decide p) A B := ⟨fun z => h1 (of_decide_eq_true z), fun z => h2 (of_decide_eq_false z)⟩
theorem brn_nd {p : Prop} [Decidable p] {A B : Prop} (h1 : ¬ p → A) (h2 : p → B) : Brn (!decide p) A B := by
  by_cases q : p
  · exact brn_nf q (h2 q)
  · exact brn_nt q (h1 q)
/-- an operation that gives z -/
noncomputable def Giv (o : Option D) (Q : D → Prop) : Prop := ∃ z, o = some z ∧ Q z
theorem giv {o : Option D} {z : D} {Q : D → Prop} (h : o = some z) (q : Q z) : Giv o Q := ⟨z, h, q⟩
section
variable {ρ : Rho} {a b c : M Vl} {ms : M (List Vl)} {t u : M Bool} {s s' s'' : S} {f g : D → D → Option D} {Q : Vl → Rho → Prop} {QB : Bool → Rho → Prop} {QS : Fl → Rho → Prop} {QL : List Vl → Rho → Prop} {i : Nat}
theorem ev_c {x : D} (q : Q (.fz x) ρ) : Ev (eC x) ρ Q := ⟨_, _, rfl, q⟩
theorem ev_vd {x : D} (h : ρ[i]? = some (.d x)) (q : Q (.fz x) ρ) : Ev (eVar i) ρ Q := ⟨_, _, by rw [r_eVar, h], q⟩
theorem ev_vo {x : List D} (h : ρ[i]? = some (.ow x)) (q : Q (.bw i) ρ) : Ev (eVar i) ρ Q := ⟨_, _, by rw [r_eVar, h], q⟩
theorem ev_vi {x : List D} (h : ρ[i]? = some (.io x)) (q : Q (.bw i) ρ) : Ev (eVar i) ρ Q := ⟨_, _, by rw [r_eVar, h], q⟩
/-- two values seen -/
noncomputable def See2 (ρ : Rho) (r r2 : Vl) (P : D → D → Prop) : Prop := ∃ x y, look ρ (stl r) = some x ∧ look ρ (stl r2) = some y ∧ P x y
noncomputable def See1 (ρ : Rho) (r : Vl) (P : D → Prop) : Prop := ∃ x, look ρ (stl r) = some x ∧ P x
noncomputable def Sees (ρ : Rho) (rs : List Vl) (P : List D → Prop) : Prop := ∃ xs, looks ρ rs = some xs ∧ P xs
theorem see2 {r r2 : Vl} {P : D → D → Prop} {x y : D} (h1 : look ρ (stl r) = some x) (h2 : look ρ (stl r2) = some y) (h : P x y) : See2 ρ r r2 P := ⟨x, y, h1, h2, h⟩
theorem see1 {r : Vl} {P : D → Prop} {x : D} (h1 : look ρ (stl r) = some x) (h : P x) : See1 ρ r P := ⟨x, h1, h⟩
theorem sees {rs : List Vl} {P : List D → Prop} {xs : List D} (h1 : looks ρ rs = some xs) (h : P xs) : Sees ρ rs P := ⟨xs, h1, h⟩
theorem ev_bin (h : Ev a ρ fun r ρ1 => Ev b ρ1 fun r2 ρ2 => See2 ρ2 r r2 fun x y => Giv (f x y) fun z => Q (.fz z) ρ2) : Ev (eBin f a b) ρ Q := by
  obtain ⟨r, ρ1, e1, r2, ρ2, e2, x, y, e3, e4, z, e5, q⟩ := h
  exact ⟨_, ρ2, by rw [r_eBin, e1]; simp only [Option.bind_some, e2, e3, e4, e5], q⟩
theorem ev_un {h' : D → Option D} (h : Ev a ρ fun r ρ1 => See1 ρ1 r fun x => Giv (h' x) fun z => Q (.fz z) ρ1) : Ev (eUn h' a) ρ Q := by
  obtain ⟨r, ρ1, e1, x, e3, z, e5, q⟩ := h
  exact ⟨_, ρ1, by rw [r_eUn, e1]; simp only [Option.bind_some, e3, e5], q⟩
theorem ev_anil (q : QL [] ρ) : Ev aNil ρ QL := ⟨_, _, rfl, q⟩
theorem ev_acons (h : Ev a ρ fun r ρ1 => Ev ms ρ1 fun rs ρ2 => QL (stl r :: rs) ρ2) : Ev (aCons a ms) ρ QL := by
  obtain ⟨r, ρ1, e1, r2, ρ2, e2, q⟩ := h
  exact ⟨_, ρ2, by rw [r_aCons, e1]; simp only [Option.bind_some, e2], q⟩
theorem ev_blt {h' : List D → Option D} (h : Ev ms ρ fun rs ρ1 => Sees ρ1 rs fun xs => Giv (h' xs) fun z => Q (.fz z) ρ1) : Ev (eBlt h' ms) ρ Q := by
  obtain ⟨r, ρ1, e1, x, e3, z, e5, q⟩ := h
  exact ⟨_, ρ1, by rw [r_eBlt, e1]; simp only [Option.bind_some, e3, e5], q⟩
theorem ev_met {h' : D → List D → Option D} (h : Ev a ρ fun r ρ1 => Ev ms ρ1 fun rs ρ2 => See1 ρ2 r fun x => Sees ρ2 rs fun xs => Giv (h' x xs) fun z => Q (.fz z) ρ2) : Ev (eMet h' a ms) ρ Q := by
  obtain ⟨r, ρ1, e1, rs, ρ2, e2, x, e3, xs, e4, z, e5, q⟩ := h
  exact ⟨_, ρ2, by rw [r_eMet, e1]; simp only [Option.bind_some, e2, e3, e4, e5], q⟩
theorem ev_ono {Q : Option Int → Rho → Prop} (q : Q none ρ) : Ev oNo ρ Q := ⟨_, _, rfl, q⟩
noncomputable def IsI (r : Vl) (P : Int → Prop) : Prop := ∃ i, r = .fz (.int i) ∧ P i
theorem isI {i : Int} {P : Int → Prop} (h : P i) : IsI (.fz (.int i)) P := ⟨i, rfl, h⟩
theorem ev_osome {Q : Option Int → Rho → Prop} (h : Ev a ρ fun r ρ1 => IsI r fun i => Q (some i) ρ1) : Ev (oSome a) ρ Q := by
  obtain ⟨r, ρ1, e1, i, rfl, q⟩ := h
  exact ⟨_, ρ1, by rw [r_oSome, e1]; rfl, q⟩
theorem ev_sl {h' : D → Option Int → Option Int → Option D} {l o : M (Option Int)} (h : Ev a ρ fun r ρ1 => Ev l ρ1 fun lo ρ2 => Ev o ρ2 fun hi ρ3 => See1 ρ3 r fun x => Giv (h' x lo hi) fun z => Q (.fz z) ρ3) : Ev (eSl h' a l o) ρ Q := by
  obtain ⟨r, ρ1, e1, lo, ρ2, e2, hi, ρ3, e3, x, e4, z, e5, q⟩ := h
  exact ⟨_, ρ3, by rw [r_eSl, e1]; simp only [Option.bind_some, e2, e3, e4, e5], q⟩
noncomputable def Frzs (ρ : Rho) (rs : List Vl) (P : List D → Rho → Prop) : Prop := ∃ xs ρ1, frzs ρ rs = some (xs, ρ1) ∧ P xs ρ1
theorem frzs' {rs : List Vl} {P : List D → Rho → Prop} {xs : List D} {ρ1 : Rho} (h1 : frzs ρ rs = some (xs, ρ1)) (h : P xs ρ1) : Frzs ρ rs P := ⟨xs, ρ1, h1, h⟩
theorem ev_tup (h : Ev ms ρ fun rs ρ1 => Frzs ρ1 rs fun xs ρ2 => xs.length ≤ lim ∧ Q (.fz (.tup xs)) ρ2) : Ev (eTup ms) ρ Q := by
  obtain ⟨rs, ρ1, e1, xs, ρ2, e2, hl, q⟩ := h
  exact ⟨_, ρ2, by rw [r_eTup, e1]; simp only [Option.bind_some, e2, hl, if_true], q⟩
theorem ev_lst (h : Ev ms ρ fun rs ρ1 => Frzs ρ1 rs fun xs ρ2 => xs.length ≤ lim ∧ Q (.fr xs) ρ2) : Ev (eLst ms) ρ Q := by
  obtain ⟨rs, ρ1, e1, xs, ρ2, e2, hl, q⟩ := h
  exact ⟨_, ρ2, by rw [r_eLst, e1]; simp only [Option.bind_some, e2, hl, if_true], q⟩
noncomputable def IsB (r : Vl) (P : Bool → Prop) : Prop := ∃ b, r = .fz (.bl b) ∧ P b
theorem isB {i : Bool} {P : Bool → Prop} (h : P i) : IsB (.fz (.bl i)) P := ⟨i, rfl, h⟩
theorem ev_tE (h : Ev a ρ fun r ρ1 => IsB r fun b => QB b ρ1) : Ev (tE a) ρ QB := by
  obtain ⟨r, ρ1, e1, i, rfl, q⟩ := h
  exact ⟨_, ρ1, by rw [r_tE, e1]; rfl, q⟩
theorem ev_tyes (q : QB true ρ) : Ev tYesM ρ QB := ⟨_, _, rfl, q⟩
theorem ev_tAnd (h : Ev t ρ fun v ρ1 => Brn v (Ev u ρ1 QB) (QB false ρ1)) : Ev (tAnd t u) ρ QB := by
  obtain ⟨v, ρ1, e1, h1, h2⟩ := h
  cases v with
  | true => obtain ⟨r, ρ2, e2, q⟩ := h1 rfl; exact ⟨r, ρ2, by rw [r_tAnd, e1]; exact e2, q⟩
  | false => exact ⟨false, ρ1, by rw [r_tAnd, e1]; rfl, h2 rfl⟩
theorem ev_tOr (h : Ev t ρ fun v ρ1 => Brn v (QB true ρ1) (Ev u ρ1 QB)) : Ev (tOr t u) ρ QB := by
  obtain ⟨v, ρ1, e1, h1, h2⟩ := h
  cases v with
  | false => obtain ⟨r, ρ2, e2, q⟩ := h2 rfl; exact ⟨r, ρ2, by rw [r_tOr, e1]; exact e2, q⟩
  | true => exact ⟨true, ρ1, by rw [r_tOr, e1]; rfl, h1 rfl⟩
theorem ev_tNot (h : Ev t ρ fun v ρ1 => QB (!v) ρ1) : Ev (tNot t) ρ QB := by
  obtain ⟨v, ρ1, e1, q⟩ := h
  exact ⟨!v, ρ1, by rw [r_tNot, e1]; rfl, q⟩
theorem ev_eAnd (h : Ev a ρ fun r ρ1 => IsB r fun v => Brn v (Ev b ρ1 Q) (Q (.fz (.bl false)) ρ1)) : Ev (eAnd a b) ρ Q := by
  obtain ⟨r, ρ1, e1, v, rfl, h1, h2⟩ := h
  cases v with
  | true => obtain ⟨r, ρ2, e2, q⟩ := h1 rfl; exact ⟨r, ρ2, by rw [r_eAnd, e1]; exact e2, q⟩
  | false => exact ⟨_, ρ1, by rw [r_eAnd, e1]; rfl, h2 rfl⟩
theorem ev_eOr (h : Ev a ρ fun r ρ1 => IsB r fun v => Brn v (Q (.fz (.bl true)) ρ1) (Ev b ρ1 Q)) : Ev (eOr a b) ρ Q := by
  obtain ⟨r, ρ1, e1, v, rfl, h1, h2⟩ := h
  cases v with
  | false => obtain ⟨r, ρ2, e2, q⟩ := h2 rfl; exact ⟨r, ρ2, by rw [r_eOr, e1]; exact e2, q⟩
  | true => exact ⟨_, ρ1, by rw [r_eOr, e1]; rfl, h1 rfl⟩
theorem ev_eNot (h : Ev a ρ fun r ρ1 => IsB r fun v => Q (.fz (.bl (!v))) ρ1) : Ev (eNot a) ρ Q := by
  obtain ⟨r, ρ1, e1, v, rfl, q⟩ := h
  exact ⟨_, ρ1, by rw [r_eNot, e1]; rfl, q⟩
theorem ev_eIf (h : Ev t ρ fun v ρ1 => Brn v (Ev a ρ1 Q) (Ev b ρ1 Q)) : Ev (eIf t a b) ρ Q := by
  obtain ⟨v, ρ1, e1, h1, h2⟩ := h
  cases v with
  | true => obtain ⟨r, ρ2, e2, q⟩ := h1 rfl; exact ⟨r, ρ2, by rw [r_eIf, e1]; exact e2, q⟩
  | false => obtain ⟨r, ρ2, e2, q⟩ := h2 rfl; exact ⟨r, ρ2, by rw [r_eIf, e1]; exact e2, q⟩
noncomputable def IsBD (z : D) (P : Bool → Prop) : Prop := ∃ b, z = .bl b ∧ P b
theorem isBD {i : Bool} {P : Bool → Prop} (h : P i) : IsBD (.bl i) P := ⟨i, rfl, h⟩
theorem ev_chain (h : Ev a ρ fun r ρ1 => Ev b ρ1 fun r2 ρ2 => See2 ρ2 r r2 fun x y => Giv (f x y) fun z => IsBD z fun v => Brn v (Ev c ρ2 fun r3 ρ3 => See2 ρ3 r2 r3 fun y2 w => Giv (g y2 w) fun z2 => Q (.fz z2) ρ3) (Q (.fz (.bl false)) ρ2)) : Ev (eChain f g a b c) ρ Q := by
  obtain ⟨r, ρ1, e1, r2, ρ2, e2, x, y, e3, e4, z, e5, v, rfl, h1, h2⟩ := h
  cases v with
  | true =>
    obtain ⟨r3, ρ3, e6, y2, w, e7, e8, z2, e9, q⟩ := h1 rfl
    exact ⟨_, ρ3, by rw [r_eChain, e1]; simp only [Option.bind_some, e2, e3, e4, e5, e6, e7, e8, e9], q⟩
  | false => exact ⟨_, ρ2, by rw [r_eChain, e1]; simp only [Option.bind_some, e2, e3, e4, e5], h2 rfl⟩
noncomputable def Arg (fs : List Bool) (rs : List Vl) (ρ : Rho) (P : List (D ⊕ Nat) → List Ag → Rho → Prop) : Prop := ∃ ts ρ2 gs, ag1 fs rs ρ = some (ts, ρ2) ∧ ag2 ρ2 ts = some gs ∧ (agI ts).Nodup ∧ P ts gs ρ2
theorem arg {fs : List Bool} {rs : List Vl} {P : List (D ⊕ Nat) → List Ag → Rho → Prop} {ts : List (D ⊕ Nat)} {ρ2 : Rho} {gs : List Ag} (h1 : ag1 fs rs ρ = some (ts, ρ2)) (h2 : ag2 ρ2 ts = some gs) (h3 : (agI ts).Nodup) (h : P ts gs ρ2) : Arg fs rs ρ P := ⟨ts, ρ2, gs, h1, h2, h3, h⟩
noncomputable def noBw : Vl → Prop
  | .bw _ => False
  | _ => True
theorem ev_call {h' : Fn} {fs : List Bool} (h : Ev ms ρ fun rs ρ1 => Arg fs rs ρ1 fun ts gs ρ2 => Fv h' gs fun r os => noBw r ∧ Q r (puts ρ2 (agI ts) os)) : Ev (eCall h' fs ms) ρ Q := by
  obtain ⟨rs, ρ1, e1, ts, ρ2, gs, e2, e3, hn, r, os, e4, nb, q⟩ := h
  refine ⟨r, _, ?_, q⟩
  rw [r_eCall, e1]
  simp only [Option.bind_some, e2, e3, if_pos hn, e4]
  cases r with
  | bw j => exact nb.elim
  | fz x => rfl
  | fr x => rfl
theorem sv_asg_s {i : Nat} (h : Ev a ρ fun r ρ1 => ∃ ρ2, asg i r ρ1 = some ρ2 ∧ Sv s ρ2 QS) : Sv (sSeq (sAsg i a) s) ρ QS := by
  obtain ⟨r, ρ1, e1, ρ2, e2, h⟩ := h
  exact sv_seq_eq (ρ1 := ρ2) (by rw [r_sAsg, e1]; simp only [Option.bind_some, e2]) h
theorem sv_asg_l {i : Nat} (h : Ev a ρ fun r ρ1 => ∃ ρ2, asg i r ρ1 = some ρ2 ∧ QS .nx ρ2) : Sv (sAsg i a) ρ QS := by
  obtain ⟨r, ρ1, e1, ρ2, e2, h⟩ := h
  exact ⟨.nx, ρ2, by rw [r_sAsg, e1]; simp only [Option.bind_some, e2], h⟩
theorem asg_z {i : Nat} {x : D} (h : ioQ ρ[i]? = false) : asg i (.fz x) ρ = some (ρ.set i (.d x)) := by
  unfold asg
  cases e : ρ[i]? with
  | none => rw [e] at h; cases h
  | some s => cases s with
    | io xs => rw [e] at h; cases h
    | iob xs => rw [e] at h; cases h
    | _ => rfl
theorem asg_r {i : Nat} {x : List D} (h : ioQ ρ[i]? = false) : asg i (.fr x) ρ = some (ρ.set i (.ow x)) := by
  unfold asg
  cases e : ρ[i]? with
  | none => rw [e] at h; cases h
  | some s => cases s with
    | io xs => rw [e] at h; cases h
    | iob xs => rw [e] at h; cases h
    | _ => rfl
theorem ex_asg {i : Nat} {x : D} {P : Rho → Prop} (h : ioQ ρ[i]? = false) (q : P (ρ.set i (.d x))) : ∃ ρ2, asg i (.fz x) ρ = some ρ2 ∧ P ρ2 := ⟨_, asg_z h, q⟩
theorem ex_asg' {i : Nat} {x : List D} {P : Rho → Prop} (h : ioQ ρ[i]? = false) (q : P (ρ.set i (.ow x))) : ∃ ρ2, asg i (.fr x) ρ = some ρ2 ∧ P ρ2 := ⟨_, asg_r h, q⟩
theorem ex_asg'' {i j : Nat} {P : Rho → Prop} {ρ2 : Rho} (h : asg i (.bw j) ρ = some ρ2) (q : P ρ2) : ∃ ρ2, asg i (.bw j) ρ = some ρ2 ∧ P ρ2 := ⟨_, h, q⟩
theorem sv_if_s (h : Ev t ρ fun v ρ1 => Brn v (Sv (sSeq s s'') ρ1 QS) (Sv (sSeq s' s'') ρ1 QS)) : Sv (sSeq (sIf t s s') s'') ρ QS := by
  obtain ⟨v, ρ1, e1, h1, h2⟩ := h
  have e : ∀ x, sSeq (sIf t s s') s'' ρ = x ↔ (sSeq (if v = true then s else s') s'') ρ1 = x := fun x => by
    rw [r_sSeq, r_sSeq, r_sIf, e1]
    cases v <;> rfl
  cases v with
  | true => obtain ⟨fl, ρ2, e2, q⟩ := h1 rfl; exact ⟨fl, ρ2, (e _).mpr e2, q⟩
  | false => obtain ⟨fl, ρ2, e2, q⟩ := h2 rfl; exact ⟨fl, ρ2, (e _).mpr e2, q⟩
theorem sv_if_l (h : Ev t ρ fun v ρ1 => Brn v (Sv s ρ1 QS) (Sv s' ρ1 QS)) : Sv (sIf t s s') ρ QS := by
  obtain ⟨v, ρ1, e1, h1, h2⟩ := h
  exact sv_if e1 h1 h2
theorem sv_nx_s (h : Sv s ρ QS) : Sv (sSeq sNx s) ρ QS := sv_seq_eq rfl h
theorem sv_seq_s (h : Sv (sSeq s (sSeq s' s'')) ρ QS) : Sv (sSeq (sSeq s s') s'') ρ QS := by
  obtain ⟨fl, ρ2, e2, q⟩ := h
  refine ⟨fl, ρ2, ?_, q⟩
  rw [r_sSeq] at e2
  rw [r_sSeq, r_sSeq]
  cases e : s ρ with
  | none => rw [e] at e2; cases e2
  | some p =>
    rw [e] at e2
    obtain ⟨f1, ρ1⟩ := p
    cases f1 with
    | nx => exact e2
    | bk => exact e2
    | ct => exact e2
    | rt v => exact e2
    | ex x => exact e2
noncomputable def Ret (r : Vl) (ρ : Rho) (P : Vl → Prop) : Prop := match r with
  | .fz x => P (.fz x)
  | .fr x => P (.fr x)
  | .bw i => ∃ xs, ρ[i]? = some (.ow xs) ∧ P (.fr xs)
theorem sv_ret_l (h : Ev a ρ fun r ρ1 => Ret r ρ1 fun v => QS (.rt v) ρ1) : Sv (sRet a) ρ QS := by
  obtain ⟨r, ρ1, e1, q⟩ := h
  cases r with
  | fz x => exact ⟨_, ρ1, by rw [r_sRet, e1]; rfl, q⟩
  | fr x => exact ⟨_, ρ1, by rw [r_sRet, e1]; rfl, q⟩
  | bw i => obtain ⟨xs, e2, q⟩ := q; exact ⟨_, ρ1, by rw [r_sRet, e1]; simp only [Option.bind_some, e2], q⟩
theorem sv_ret_s (h : Ev a ρ fun r ρ1 => Ret r ρ1 fun v => QS (.rt v) ρ1) : Sv (sSeq (sRet a) s) ρ QS := sv_seq (sv_ret_l h)
theorem sv_drop_s (h : Ev a ρ fun r ρ1 => Sv s ρ1 QS) : Sv (sSeq (sDrop a) s) ρ QS := by
  obtain ⟨r, ρ1, e1, q⟩ := h
  exact sv_seq_eq (ρ1 := ρ1) (by show (a ρ).bind _ = _; rw [e1]; rfl) q
noncomputable def App (ρ : Rho) (i : Nat) (r : Vl) (P : Rho → Prop) : Prop := ∃ z ρ1 xs, frz ρ (stl r) = some (z, ρ1) ∧ own? ρ1 i = some xs ∧ xs.length < lim ∧ P (put ρ1 i (xs ++ [z]))
theorem app {r : Vl} {P : Rho → Prop} {z : D} {ρ1 : Rho} {xs : List D} (h1 : frz ρ (stl r) = some (z, ρ1)) (h2 : own? ρ1 i = some xs) (h3 : xs.length < lim) (h : P (put ρ1 i (xs ++ [z]))) : App ρ i r P := ⟨z, ρ1, xs, h1, h2, h3, h⟩
theorem sv_app_l (h0 : (own? ρ i).isSome = true) (h : Ev a ρ fun r ρ1 => App ρ1 i r fun ρ2 => QS .nx ρ2) : Sv (sApp i a) ρ QS := by
  obtain ⟨r, ρ1, e1, z, ρ2, xs, e2, e3, hl, q⟩ := h
  obtain ⟨y, ey⟩ := Option.isSome_iff_exists.mp h0
  refine ⟨.nx, _, ?_, q⟩
  show (own? ρ i).bind _ = _
  rw [ey]
  simp only [Option.bind_some, e1, e2, e3, hl, if_true]
theorem sv_app_s (h0 : (own? ρ i).isSome = true) (h : Ev a ρ fun r ρ1 => App ρ1 i r fun ρ2 => Sv s ρ2 QS) : Sv (sSeq (sApp i a) s) ρ QS := sv_seq (sv_app_l h0 h)
/-- a function's body -/
noncomputable def FEnd (Q : Vl → List (List D) → Prop) (gs : List Ag) : Fl → Rho → Prop
  | .nx, ρ => Q (.fz .non) (outsOf gs ρ)
  | .rt (.fz x), ρ => Q (.fz x) (outsOf gs ρ)
  | .rt (.fr x), ρ => Q (.fr x) (outsOf gs ρ)
  | _, _ => False
theorem fv_fn {n nl : Nat} {gs : List Ag} {Q : Vl → List (List D) → Prop} (hn : gs.length = n) (h : Sv s (gs.map slOf ++ List.replicate (nl - n) .no) (FEnd Q gs)) : Fv (fnS n nl s) gs Q := by
  obtain ⟨fl, ρ', e, q⟩ := h
  have un : fnS n nl s gs = if gs.length = n then (s (gs.map slOf ++ List.replicate (nl - n) .no)).bind fun p => (match p.1 with
  | .nx => some (.fz .non, outsOf gs p.2)
  | .rt (.fz x) => some (.fz x, outsOf gs p.2)
  | .rt (.fr x) => some (.fr x, outsOf gs p.2)
  | _ => none) else none := rfl
  unfold Fv
  rw [un, if_pos hn, e]
  cases fl with
  | nx => exact ⟨_, _, rfl, q⟩
  | bk => exact q.elim
  | ct => exact q.elim
  | ex x => exact q.elim
  | rt v => cases v with
    | fz x => exact ⟨_, _, rfl, q⟩
    | fr x => exact ⟨_, _, rfl, q⟩
    | bw j => exact q.elim
theorem ev_isq {QD : List D → Rho → Prop} (h : Ev a ρ fun r ρ1 => ∃ z ρ2 xs, frz ρ1 (stl r) = some (z, ρ2) ∧ itemsOf z = some xs ∧ QD xs ρ2) : Ev (iSq a) ρ QD := by
  obtain ⟨r, ρ1, e1, z, ρ2, xs, e2, e3, q⟩ := h
  exact ⟨xs, ρ2, by show (a ρ).bind _ = _; rw [e1]; simp only [Option.bind_some, e2, e3], q⟩
theorem ev_ir1 {QD : List D → Rho → Prop} (h : Ev ms ρ fun rs ρ1 => ∃ j, rs = [.fz (.int j)] ∧ -1000000 ≤ j ∧ j ≤ 1000000 ∧ QD (rngL 0 j.toNat) ρ1) : Ev (iR1 ms) ρ QD := by
  obtain ⟨r, ρ1, e1, j, rfl, h0, h1, q⟩ := h
  exact ⟨_, ρ1, iR1_ok e1 h0 h1, q⟩
/-- a for whose turns may return early: I by the turn, else E -/
theorem forM_sv {g : D → Rho → Option Rho} {b : S} (I : Nat → Rho → Prop) : ∀ (xs : List D) (k : Nat) (ρ : Rho), I k ρ →
    (∀ (i : Nat) (x : D), xs[i]? = some x → ∀ ρ, I (k + i) ρ → ∃ ρ1, g x ρ = some ρ1 ∧ Sv b ρ1 fun fl ρ2 => match fl with
      | .nx => I (k + i + 1) ρ2
      | .ct => I (k + i + 1) ρ2
      | .bk => QS .nx ρ2
      | .rt v => QS (.rt v) ρ2
      | .ex x => QS (.ex x) ρ2) → (∀ ρ', I (k + xs.length) ρ' → QS .nx ρ') → Sv (forM g b xs) ρ QS
  | [], k, ρ, h, _, q => ⟨.nx, ρ, rfl, q ρ h⟩
  | x :: xs, k, ρ, h, step, q => by
    obtain ⟨ρ1, e1, fl, ρ2, e2, hf⟩ := step 0 x rfl ρ h
    have go : I (k + 1) ρ2 → Sv (forM g b xs) ρ2 QS := fun hI => forM_sv I xs (k + 1) ρ2 hI (fun i y hy ρ h => by
      have := step (i + 1) y (by simpa using hy) ρ (by rw [show k + (i + 1) = k + 1 + i by omega]; exact h)
      rw [show k + (i + 1) + 1 = k + 1 + i + 1 by omega] at this
      exact this) fun ρ' h => q ρ' (by rw [List.length_cons, show k + (xs.length + 1) = k + 1 + xs.length by omega]; exact h)
    have un : forM g b (x :: xs) ρ = (g x ρ).bind fun ρ1 => (b ρ1).bind fun p => match p.1 with
      | .nx => forM g b xs p.2
      | .ct => forM g b xs p.2
      | .bk => some (.nx, p.2)
      | .rt v => some (.rt v, p.2)
      | .ex x => some (.ex x, p.2) := rfl
    unfold Sv at go ⊢
    rw [un, e1]
    simp only [Option.bind_some, e2]
    cases fl with
    | nx => exact go hf
    | ct => exact go hf
    | bk => exact ⟨_, _, rfl, hf⟩
    | rt v => exact ⟨_, _, rfl, hf⟩
    | ex x => exact ⟨_, _, rfl, hf⟩
theorem sv_for {src : M (List D)} {g : D → Rho → Option Rho} {b : S} (I : Nat → Rho → Prop) (h : Ev src ρ fun xs ρ1 => I 0 ρ1 ∧
    (∀ (i : Nat) (x : D), xs[i]? = some x → ∀ ρ, I i ρ → ∃ ρ1, g x ρ = some ρ1 ∧ Sv b ρ1 fun fl ρ2 => match fl with
      | .nx => I (i + 1) ρ2
      | .ct => I (i + 1) ρ2
      | .bk => QS .nx ρ2
      | .rt v => QS (.rt v) ρ2
      | .ex x => QS (.ex x) ρ2) ∧ ∀ ρ', I xs.length ρ' → QS .nx ρ') : Sv (sFor src g b) ρ QS := by
  obtain ⟨xs, ρ1, e, h0, step, q⟩ := h
  obtain ⟨fl, ρ2, e2, h2⟩ := forM_sv (QS := QS) I xs 0 ρ1 h0 (fun i x hx ρ h => by
    rw [Nat.zero_add] at h ⊢
    exact step i x hx ρ h) fun ρ' h => q ρ' (by rw [Nat.zero_add] at h; exact h)
  exact ⟨fl, ρ2, by show (src ρ).bind _ = _; rw [e]; exact e2, h2⟩
end
/-- a list comprehension by an invariant -/
theorem ev_lc {ρ : Rho} {vs : List Nat} {src : M (List D)} {g : D → Rho → Option Rho} {t : M Bool} {e : M Vl} {Q : Vl → Rho → Prop} (I : Nat → List D → Rho → Prop) (h : Ev src ρ fun xs ρ1 => (vs.all fun v => plainSl ρ1[v]?) = true ∧ I 0 [] (wipeR ρ1 vs) ∧
    (∀ (i : Nat) (x : D), xs[i]? = some x → ∀ acc ρ, I i acc ρ → ∃ ρ1, g x ρ = some ρ1 ∧ Ev t ρ1 fun b ρ2 => Brn b (Ev e ρ2 fun r ρ3 => ∃ z ρ4, frz ρ3 (stl r) = some (z, ρ4) ∧ acc.length < lim ∧ I (i + 1) (acc ++ [z]) (wipeR ρ4 vs)) (I (i + 1) acc (wipeR ρ2 vs))) ∧
    ∀ acc ρ', I xs.length acc ρ' → Q (.fr acc) (backR ρ1 ρ' vs)) : Ev (eLc vs src g t e) ρ Q := by
  obtain ⟨xs, ρ1, e1, hp, h0, step, q⟩ := h
  obtain ⟨acc, ρ', e2, h2⟩ := lcM_inv (vs := vs) (g := g) (t := t) (e := e) I xs [] 0 (wipeR ρ1 vs) h0 fun i x hx acc ρ hI => by
    rw [Nat.zero_add] at hI ⊢
    obtain ⟨ρ2, e3, b, ρ3, e4, h1, h2⟩ := step i x hx acc ρ hI
    refine ⟨ρ2, e3, b, ρ3, e4, ?_⟩
    cases b with
    | true =>
      rw [if_pos rfl]
      obtain ⟨r, ρ4, e5, z, ρ5, e6, hl, hI⟩ := h1 rfl
      exact ⟨r, ρ4, z, ρ5, e5, e6, hl, hI⟩
    | false =>
      rw [if_neg (by decide)]
      exact h2 rfl
  rw [Nat.zero_add] at h2
  exact ⟨_, _, eLc_of e1 hp e2, q acc ρ' h2⟩
/-- a while by an invariant that goes down -/
theorem sv_while {t : M Bool} {b : S} {QS : Fl → Rho → Prop} (I : Nat → Rho → Prop) (step : ∀ n ρ, I n ρ → Ev t ρ fun v ρ1 => Brn v (Sv b ρ1 fun fl ρ2 => match fl with
      | .nx => ∃ m, m < n ∧ I m ρ2
      | .ct => ∃ m, m < n ∧ I m ρ2
      | .bk => QS .nx ρ2
      | .rt v => QS (.rt v) ρ2
      | .ex x => QS (.ex x) ρ2) (QS .nx ρ1)) : ∀ n ρ, I n ρ → Sv (sWhile t b) ρ QS := by
  have key : ∀ (k n : Nat), n ≤ k → ∀ ρ, I n ρ → ∃ fl ρ', wh t b (k + 1) ρ = some (fl, ρ') ∧ QS fl ρ' := by
    intro k
    induction k with
    | zero =>
      intro n hn ρ hI
      obtain ⟨v, ρ1, e1, h1, h2⟩ := step n ρ hI
      unfold wh
      rw [e1]
      cases v with
      | false => exact ⟨.nx, ρ1, rfl, h2 rfl⟩
      | true =>
        obtain ⟨fl, ρ2, e2, h⟩ := h1 rfl
        simp only [Option.bind_some, if_true, e2]
        cases fl with
        | nx => obtain ⟨m, hm, _⟩ := h; omega
        | ct => obtain ⟨m, hm, _⟩ := h; omega
        | bk => exact ⟨_, _, rfl, h⟩
        | rt v => exact ⟨_, _, rfl, h⟩
        | ex x => exact ⟨_, _, rfl, h⟩
    | succ k ih =>
      intro n hn ρ hI
      obtain ⟨v, ρ1, e1, h1, h2⟩ := step n ρ hI
      unfold wh
      rw [e1]
      cases v with
      | false => exact ⟨.nx, ρ1, rfl, h2 rfl⟩
      | true =>
        obtain ⟨fl, ρ2, e2, h⟩ := h1 rfl
        simp only [Option.bind_some, if_true, e2]
        cases fl with
        | nx => obtain ⟨m, hm, hI⟩ := h; exact ih m (by omega) ρ2 hI
        | ct => obtain ⟨m, hm, hI⟩ := h; exact ih m (by omega) ρ2 hI
        | bk => exact ⟨_, _, rfl, h⟩
        | rt v => exact ⟨_, _, rfl, h⟩
        | ex x => exact ⟨_, _, rfl, h⟩
  intro n ρ hI
  obtain ⟨fl, ρ', e, q⟩ := key n n (Nat.le_refl n) ρ hI
  exact ⟨fl, ρ', sWhile_of e, q⟩
/-- a statement ahead of others: what it leaves, by itself -/
theorem sv_then {ρ : Rho} {s s' : S} {QS : Fl → Rho → Prop} (R : Rho → Prop) (h : Sv s ρ fun fl ρ1 => match fl with
      | .nx => R ρ1
      | fl => QS fl ρ1) (q : ∀ ρ1, R ρ1 → Sv s' ρ1 QS) : Sv (sSeq s s') ρ QS := by
  obtain ⟨fl, ρ1, e, h⟩ := h
  refine sv_seq ⟨fl, ρ1, e, ?_⟩
  cases fl with
  | nx => exact q ρ1 h
  | bk => exact h
  | ct => exact h
  | rt v => exact h
  | ex x => exact h
theorem fv_signs {Q : Vl → List (List D) → Prop} (q : Q (.fz (.str SGN)) []) : Fv lawSigns [] Q := ⟨_, _, signs_ok, q⟩
theorem giv_mod {i j : Int} {Q : D → Prop} (h : 0 < j) (q : Q (.int (i % j))) : Giv (fMod (.int i) (.int j)) Q := ⟨_, by rw [r_mod, if_pos h], q⟩
theorem giv_div {i j : Int} {Q : D → Prop} (h : 0 < j ∧ j < 1073741824) (q : Q (.int (i / j))) : Giv (fDiv (.int i) (.int j)) Q := ⟨_, by rw [r_div, if_pos h], q⟩
theorem giv_mul {i j : Int} {Q : D → Prop} (h : cMul i j = true) (q : Q (.int (i * j))) : Giv (fMul (.int i) (.int j)) Q := ⟨_, by rw [r_mul, if_pos h], q⟩
theorem giv_muls {c : Nat} {n : Int} {Q : D → Prop} (h : -1000000 ≤ n ∧ n ≤ 1000000) (q : Q (.str (List.replicate n.toNat c))) : Giv (fMul (.str [c]) (.int n)) Q := ⟨_, by rw [r_muls, if_pos h], q⟩
theorem giv_adds {i j : List Nat} {Q : D → Prop} (h : i.length + j.length ≤ lim) (q : Q (.str (i ++ j))) : Giv (fAdd (.str i) (.str j)) Q := ⟨_, by rw [r_add2, if_pos h], q⟩
theorem giv_addl {i j : List D} {Q : D → Prop} (h : i.length + j.length ≤ lim) (q : Q (.lst (i ++ j))) : Giv (fAdd (.lst i) (.lst j)) Q := ⟨_, by rw [r_add3, if_pos h], q⟩
theorem giv_ixl {xs : List D} {i : Int} {z : D} {Q : D → Prop} (h : atI xs i = some z) (q : Q z) : Giv (fIx (.lst xs) (.int i)) Q := ⟨_, by rw [r_ixl, h], q⟩
theorem giv_ixt {xs : List D} {i : Int} {z : D} {Q : D → Prop} (h : atI xs i = some z) (q : Q z) : Giv (fIx (.tup xs) (.int i)) Q := ⟨_, by rw [r_ixt, h], q⟩
theorem giv_ixs {xs : List Nat} {i : Int} {c : Nat} {Q : D → Prop} (hl : xs.length ≤ lim) (h : atI xs i = some c) (q : Q (.str [c])) : Giv (fIx (.str xs) (.int i)) Q := ⟨_, by rw [r_ixs, if_pos hl, h]; rfl, q⟩
theorem giv_sls {xs : List Nat} {l u : Option Int} {Q : D → Prop} (hl : xs.length ≤ lim) (q : Q (.str (cutL xs l u))) : Giv (fSl (.str xs) l u) Q := ⟨_, by rw [r_sls, if_pos hl], q⟩
theorem giv_sll {xs : List D} {l u : Option Int} {Q : D → Prop} (q : Q (.lst (cutL xs l u))) : Giv (fSl (.lst xs) l u) Q := ⟨_, rfl, q⟩
theorem giv_lens {xs : List Nat} {Q : D → Prop} (hl : xs.length ≤ lim) (q : Q (.int xs.length)) : Giv (cLen [.str xs]) Q := ⟨_, by rw [r_len1, if_pos hl], q⟩
theorem giv_revs {xs : List Nat} {Q : D → Prop} (hl : xs.length ≤ lim) (q : Q (.str xs.reverse)) : Giv (fRev (.str xs)) Q := ⟨_, by rw [r_rev2, if_pos hl], q⟩
theorem ret_z {x : D} {ρ : Rho} {P : Vl → Prop} (h : P (.fz x)) : Ret (.fz x) ρ P := h
theorem ret_r {x : List D} {ρ : Rho} {P : Vl → Prop} (h : P (.fr x)) : Ret (.fr x) ρ P := h
theorem ret_b {i : Nat} {xs : List D} {ρ : Rho} {P : Vl → Prop} (e : ρ[i]? = some (.ow xs)) (h : P (.fr xs)) : Ret (.bw i) ρ P := ⟨xs, e, h⟩
theorem sv_asgT_l {m : M Vl} {g : D → Rho → Option Rho} {ρ : Rho} {QS : Fl → Rho → Prop} (h : Ev m ρ fun r ρ1 => ∃ ρ2, (match r with
    | .fz x => g x ρ1
    | _ => none) = some ρ2 ∧ QS .nx ρ2) : Sv (sAsgT m g) ρ QS := by
  obtain ⟨r, ρ1, e1, ρ2, e2, q⟩ := h
  refine ⟨.nx, ρ2, ?_, q⟩
  show (m ρ).bind _ = _
  rw [e1]
  cases r with
  | fz x => simp only [Option.bind_some]; rw [show g x ρ1 = some ρ2 from e2]; rfl
  | fr x => cases e2
  | bw i => cases e2
theorem sv_asgT_s {m : M Vl} {g : D → Rho → Option Rho} {s : S} {ρ : Rho} {QS : Fl → Rho → Prop} (h : Ev m ρ fun r ρ1 => ∃ ρ2, (match r with
    | .fz x => g x ρ1
    | _ => none) = some ρ2 ∧ Sv s ρ2 QS) : Sv (sSeq (sAsgT m g) s) ρ QS := sv_seq (sv_asgT_l h)
theorem ex_asgT {g : Rho → Option Rho} {P : Rho → Prop} {ρ ρ2 : Rho} (h : g ρ = some ρ2) (q : P ρ2) : ∃ ρ2, g ρ = some ρ2 ∧ P ρ2 := ⟨_, h, q⟩
theorem nodup1 {α : Type} {a : α} : [a].Nodup := by simp
theorem nbw_z {x : D} {P : Prop} (h : P) : noBw (.fz x) ∧ P := ⟨trivial, h⟩
theorem nbw_r {x : List D} {P : Prop} (h : P) : noBw (.fr x) ∧ P := ⟨trivial, h⟩
structure Wr (R : Prop) : Prop where
  out : R
/-- one step at the head -/
theorem go1 {R P : Prop} (q : R) (h : Wr R → P := by
    intro k
    (first
    | with_reducible refine ev_c ?_
    | ((with_reducible refine' ev_vd ?s0 ?_); (case s0 => (rfl)))
    | ((with_reducible refine' ev_vo ?s0 ?_); (case s0 => (rfl)))
    | ((with_reducible refine' ev_vi ?s0 ?_); (case s0 => (rfl)))
    | with_reducible refine ev_bin ?_
    | with_reducible refine ev_un ?_
    | with_reducible refine ev_anil ?_
    | with_reducible refine ev_acons ?_
    | with_reducible refine ev_blt ?_
    | with_reducible refine ev_met ?_
    | with_reducible refine ev_ono ?_
    | with_reducible refine ev_osome ?_
    | with_reducible refine ev_sl ?_
    | with_reducible refine ev_tup ?_
    | with_reducible refine ev_lst ?_
    | with_reducible refine ev_tE ?_
    | with_reducible refine ev_tyes ?_
    | with_reducible refine ev_tAnd ?_
    | with_reducible refine ev_tOr ?_
    | with_reducible refine ev_tNot ?_
    | with_reducible refine ev_eAnd ?_
    | with_reducible refine ev_eOr ?_
    | with_reducible refine ev_eNot ?_
    | with_reducible refine ev_eIf ?_
    | with_reducible refine ev_chain ?_
    | with_reducible refine ev_call ?_
    | with_reducible refine sv_asg_s ?_
    | with_reducible refine sv_nx_s ?_
    | with_reducible refine sv_if_s ?_
    | with_reducible refine sv_ret_s ?_
    | with_reducible refine sv_seq_s ?_
    | with_reducible refine sv_drop_s ?_
    | ((with_reducible refine' sv_app_s ?s0 ?_); (case s0 => (rfl)))
    | ((with_reducible refine' sv_app_l ?s0 ?_); (case s0 => (rfl)))
    | with_reducible refine sv_asg_l ?_
    | with_reducible refine sv_if_l ?_
    | with_reducible refine sv_ret_l ?_
    | with_reducible refine sv_nx ?_
    | with_reducible refine sv_asgT_s ?_
    | with_reducible refine sv_asgT_l ?_
    | with_reducible refine ret_z ?_
    | with_reducible refine ret_r ?_
    | ((with_reducible refine' ret_b ?s0 ?_); (case s0 => (rfl)))
    | ((with_reducible refine' see2 ?s0 ?s1 ?_); (case s0 => (rfl)); (case s1 => (rfl)))
    | ((with_reducible refine' see1 ?s0 ?_); (case s0 => (rfl)))
    | ((with_reducible refine' sees ?s0 ?_); (case s0 => (rfl)))
    | with_reducible refine isI ?_
    | with_reducible refine isB ?_
    | with_reducible refine isBD ?_
    | with_reducible refine brn_t ?_
    | with_reducible refine brn_f ?_
    | with_reducible refine brn_nT ?_
    | with_reducible refine brn_nF ?_
    | with_reducible refine brn_nn ?_
    | ((with_reducible refine' frzs' ?s0 (And.intro ?s1 ?_)); (case s0 => rfl); (case s1 => (first | decide | simp)); (try dsimp only [puts, put, agI, outsOf, slOf, List.set_cons_zero, List.set_cons_succ, List.getElem?_cons_zero, List.getElem?_cons_succ, wipeR, backR, Option.getD_some, stl]))
    | ((with_reducible refine' arg ?s0 ?s1 ?s2 ?_); (case s0 => (rfl)); (case s1 => (rfl)); (case s2 => (first | exact List.nodup_nil | exact nodup1 | simp [agI])); (try dsimp only [puts, put, agI, outsOf, slOf, List.set_cons_zero, List.set_cons_succ, List.getElem?_cons_zero, List.getElem?_cons_succ, wipeR, backR, Option.getD_some, stl]))
    | ((with_reducible refine' ex_asg ?s0 ?_); (case s0 => (first | rfl | assumption)); (try dsimp only [puts, put, agI, outsOf, slOf, List.set_cons_zero, List.set_cons_succ, List.getElem?_cons_zero, List.getElem?_cons_succ, wipeR, backR, Option.getD_some, stl]))
    | ((with_reducible refine' ex_asg' ?s0 ?_); (case s0 => (first | rfl | assumption)); (try dsimp only [puts, put, agI, outsOf, slOf, List.set_cons_zero, List.set_cons_succ, List.getElem?_cons_zero, List.getElem?_cons_succ, wipeR, backR, Option.getD_some, stl]))
    | ((with_reducible refine' ex_asg'' ?s0 ?_); (case s0 => (rfl)); (try dsimp only [puts, put, agI, outsOf, slOf, List.set_cons_zero, List.set_cons_succ, List.getElem?_cons_zero, List.getElem?_cons_succ, wipeR, backR, Option.getD_some, stl]))
    | ((with_reducible refine' ex_asgT ?s0 ?_); (case s0 => (rfl)); (try dsimp only [puts, put, agI, outsOf, slOf, List.set_cons_zero, List.set_cons_succ, List.getElem?_cons_zero, List.getElem?_cons_succ, wipeR, backR, Option.getD_some, stl]))
    | ((with_reducible refine' nbw_z ?_); (try dsimp only [puts, put, agI, outsOf, slOf, List.set_cons_zero, List.set_cons_succ, List.getElem?_cons_zero, List.getElem?_cons_succ, wipeR, backR, Option.getD_some, stl]))
    | ((with_reducible refine' nbw_r ?_); (try dsimp only [puts, put, agI, outsOf, slOf, List.set_cons_zero, List.set_cons_succ, List.getElem?_cons_zero, List.getElem?_cons_succ, wipeR, backR, Option.getD_some, stl]))
    | ((with_reducible refine' giv_mod ?s0 ?_); (case s0 => (first | assumption | decide | omega | (show _ ≤ 16777216; omega) | (show _ < 16777216; omega) | (simp only [List.length_append, List.length_cons, List.length_nil, List.length_replicate]; show _ ≤ 16777216; omega))))
    | ((with_reducible refine' giv_div ?s0 ?_); (case s0 => (first | assumption | decide | omega | (show _ ≤ 16777216; omega) | (show _ < 16777216; omega) | (simp only [List.length_append, List.length_cons, List.length_nil, List.length_replicate]; show _ ≤ 16777216; omega))))
    | ((with_reducible refine' giv_mul ?s0 ?_); (case s0 => (first | assumption | exact cMul_r (by decide) | exact cMul_r (by omega))))
    | ((with_reducible refine' giv_muls ?s0 ?_); (case s0 => (first | assumption | decide | omega | (show _ ≤ 16777216; omega) | (show _ < 16777216; omega) | (simp only [List.length_append, List.length_cons, List.length_nil, List.length_replicate]; show _ ≤ 16777216; omega))))
    | ((with_reducible refine' giv_adds ?s0 ?_); (case s0 => (first | assumption | decide | omega | (show _ ≤ 16777216; omega) | (show _ < 16777216; omega) | (simp only [List.length_append, List.length_cons, List.length_nil, List.length_replicate]; show _ ≤ 16777216; omega))))
    | ((with_reducible refine' giv_addl ?s0 ?_); (case s0 => (first | assumption | decide | omega | (show _ ≤ 16777216; omega) | (show _ < 16777216; omega) | (simp only [List.length_append, List.length_cons, List.length_nil, List.length_replicate]; show _ ≤ 16777216; omega))))
    | ((with_reducible refine' giv_ixl ?s0 ?_); (case s0 => (first | assumption | rfl)))
    | ((with_reducible refine' giv_ixt ?s0 ?_); (case s0 => (first | assumption | rfl)))
    | ((with_reducible refine' giv_ixs ?s0 ?s1 ?_); (case s0 => (first | assumption | decide | omega | (show _ ≤ 16777216; omega) | (show _ < 16777216; omega) | (simp only [List.length_append, List.length_cons, List.length_nil, List.length_replicate]; show _ ≤ 16777216; omega))); (case s1 => (first | assumption | rfl)))
    | ((with_reducible refine' giv_sls ?s0 ?_); (case s0 => (first | assumption | decide | omega | (show _ ≤ 16777216; omega) | (show _ < 16777216; omega) | (simp only [List.length_append, List.length_cons, List.length_nil, List.length_replicate]; show _ ≤ 16777216; omega))))
    | with_reducible refine giv_sll ?_
    | ((with_reducible refine' giv_lens ?s0 ?_); (case s0 => (first | assumption | decide | omega | (show _ ≤ 16777216; omega) | (show _ < 16777216; omega) | (simp only [List.length_append, List.length_cons, List.length_nil, List.length_replicate]; show _ ≤ 16777216; omega))))
    | ((with_reducible refine' giv_revs ?s0 ?_); (case s0 => (first | assumption | decide | omega | (show _ ≤ 16777216; omega) | (show _ < 16777216; omega) | (simp only [List.length_append, List.length_cons, List.length_nil, List.length_replicate]; show _ ≤ 16777216; omega))))
    | with_reducible refine giv r_add1 ?_
    | with_reducible refine giv r_sub ?_
    | with_reducible refine giv r_lt ?_
    | with_reducible refine giv r_lts ?_
    | with_reducible refine giv r_le ?_
    | with_reducible refine giv r_gt ?_
    | with_reducible refine giv r_ge ?_
    | with_reducible refine giv r_eqi ?_
    | with_reducible refine giv r_eqs ?_
    | with_reducible refine giv r_eqb ?_
    | with_reducible refine giv r_nei ?_
    | with_reducible refine giv r_nes ?_
    | with_reducible refine giv r_neb ?_
    | with_reducible refine giv r_isb ?_
    | with_reducible refine giv r_ntb ?_
    | with_reducible refine giv r_ins ?_
    | with_reducible refine giv r_nis ?_
    | with_reducible refine giv r_neg ?_
    | with_reducible refine giv r_len2 ?_
    | with_reducible refine giv r_len3 ?_
    | with_reducible refine giv r_int1 ?_
    | with_reducible refine giv r_fFind ?_
    | with_reducible refine giv r_rev1 ?_
    | with_reducible refine giv r_fIsi1 ?_
    | with_reducible refine giv r_fIsi2 ?_
    | with_reducible refine giv r_fIsi3 ?_
    | with_reducible refine giv r_fIsi4 ?_
    | with_reducible refine giv r_fIsi5 ?_
    | with_reducible refine giv r_fIsi6 ?_)
    exact k.out) : P := h ⟨q⟩
/-- steps at the head as far as they go -/
theorem go {R P : Prop} (q : R) (h : Wr R → P := by
    intro k
    repeat (first
    | with_reducible refine ev_c ?_
    | ((with_reducible refine' ev_vd ?s0 ?_); (case s0 => (rfl)))
    | ((with_reducible refine' ev_vo ?s0 ?_); (case s0 => (rfl)))
    | ((with_reducible refine' ev_vi ?s0 ?_); (case s0 => (rfl)))
    | with_reducible refine ev_bin ?_
    | with_reducible refine ev_un ?_
    | with_reducible refine ev_anil ?_
    | with_reducible refine ev_acons ?_
    | with_reducible refine ev_blt ?_
    | with_reducible refine ev_met ?_
    | with_reducible refine ev_ono ?_
    | with_reducible refine ev_osome ?_
    | with_reducible refine ev_sl ?_
    | with_reducible refine ev_tup ?_
    | with_reducible refine ev_lst ?_
    | with_reducible refine ev_tE ?_
    | with_reducible refine ev_tyes ?_
    | with_reducible refine ev_tAnd ?_
    | with_reducible refine ev_tOr ?_
    | with_reducible refine ev_tNot ?_
    | with_reducible refine ev_eAnd ?_
    | with_reducible refine ev_eOr ?_
    | with_reducible refine ev_eNot ?_
    | with_reducible refine ev_eIf ?_
    | with_reducible refine ev_chain ?_
    | with_reducible refine ev_call ?_
    | with_reducible refine sv_asg_s ?_
    | with_reducible refine sv_nx_s ?_
    | with_reducible refine sv_if_s ?_
    | with_reducible refine sv_ret_s ?_
    | with_reducible refine sv_seq_s ?_
    | with_reducible refine sv_drop_s ?_
    | ((with_reducible refine' sv_app_s ?s0 ?_); (case s0 => (rfl)))
    | ((with_reducible refine' sv_app_l ?s0 ?_); (case s0 => (rfl)))
    | with_reducible refine sv_asg_l ?_
    | with_reducible refine sv_if_l ?_
    | with_reducible refine sv_ret_l ?_
    | with_reducible refine sv_nx ?_
    | with_reducible refine sv_asgT_s ?_
    | with_reducible refine sv_asgT_l ?_
    | with_reducible refine ret_z ?_
    | with_reducible refine ret_r ?_
    | ((with_reducible refine' ret_b ?s0 ?_); (case s0 => (rfl)))
    | ((with_reducible refine' see2 ?s0 ?s1 ?_); (case s0 => (rfl)); (case s1 => (rfl)))
    | ((with_reducible refine' see1 ?s0 ?_); (case s0 => (rfl)))
    | ((with_reducible refine' sees ?s0 ?_); (case s0 => (rfl)))
    | with_reducible refine isI ?_
    | with_reducible refine isB ?_
    | with_reducible refine isBD ?_
    | with_reducible refine brn_t ?_
    | with_reducible refine brn_f ?_
    | with_reducible refine brn_nT ?_
    | with_reducible refine brn_nF ?_
    | with_reducible refine brn_nn ?_
    | ((with_reducible refine' frzs' ?s0 (And.intro ?s1 ?_)); (case s0 => rfl); (case s1 => (first | decide | simp)); (try dsimp only [puts, put, agI, outsOf, slOf, List.set_cons_zero, List.set_cons_succ, List.getElem?_cons_zero, List.getElem?_cons_succ, wipeR, backR, Option.getD_some, stl]))
    | ((with_reducible refine' arg ?s0 ?s1 ?s2 ?_); (case s0 => (rfl)); (case s1 => (rfl)); (case s2 => (first | exact List.nodup_nil | exact nodup1 | simp [agI])); (try dsimp only [puts, put, agI, outsOf, slOf, List.set_cons_zero, List.set_cons_succ, List.getElem?_cons_zero, List.getElem?_cons_succ, wipeR, backR, Option.getD_some, stl]))
    | ((with_reducible refine' ex_asg ?s0 ?_); (case s0 => (first | rfl | assumption)); (try dsimp only [puts, put, agI, outsOf, slOf, List.set_cons_zero, List.set_cons_succ, List.getElem?_cons_zero, List.getElem?_cons_succ, wipeR, backR, Option.getD_some, stl]))
    | ((with_reducible refine' ex_asg' ?s0 ?_); (case s0 => (first | rfl | assumption)); (try dsimp only [puts, put, agI, outsOf, slOf, List.set_cons_zero, List.set_cons_succ, List.getElem?_cons_zero, List.getElem?_cons_succ, wipeR, backR, Option.getD_some, stl]))
    | ((with_reducible refine' ex_asg'' ?s0 ?_); (case s0 => (rfl)); (try dsimp only [puts, put, agI, outsOf, slOf, List.set_cons_zero, List.set_cons_succ, List.getElem?_cons_zero, List.getElem?_cons_succ, wipeR, backR, Option.getD_some, stl]))
    | ((with_reducible refine' ex_asgT ?s0 ?_); (case s0 => (rfl)); (try dsimp only [puts, put, agI, outsOf, slOf, List.set_cons_zero, List.set_cons_succ, List.getElem?_cons_zero, List.getElem?_cons_succ, wipeR, backR, Option.getD_some, stl]))
    | ((with_reducible refine' nbw_z ?_); (try dsimp only [puts, put, agI, outsOf, slOf, List.set_cons_zero, List.set_cons_succ, List.getElem?_cons_zero, List.getElem?_cons_succ, wipeR, backR, Option.getD_some, stl]))
    | ((with_reducible refine' nbw_r ?_); (try dsimp only [puts, put, agI, outsOf, slOf, List.set_cons_zero, List.set_cons_succ, List.getElem?_cons_zero, List.getElem?_cons_succ, wipeR, backR, Option.getD_some, stl]))
    | ((with_reducible refine' giv_mod ?s0 ?_); (case s0 => (first | assumption | decide | omega | (show _ ≤ 16777216; omega) | (show _ < 16777216; omega) | (simp only [List.length_append, List.length_cons, List.length_nil, List.length_replicate]; show _ ≤ 16777216; omega))))
    | ((with_reducible refine' giv_div ?s0 ?_); (case s0 => (first | assumption | decide | omega | (show _ ≤ 16777216; omega) | (show _ < 16777216; omega) | (simp only [List.length_append, List.length_cons, List.length_nil, List.length_replicate]; show _ ≤ 16777216; omega))))
    | ((with_reducible refine' giv_mul ?s0 ?_); (case s0 => (first | assumption | exact cMul_r (by decide) | exact cMul_r (by omega))))
    | ((with_reducible refine' giv_muls ?s0 ?_); (case s0 => (first | assumption | decide | omega | (show _ ≤ 16777216; omega) | (show _ < 16777216; omega) | (simp only [List.length_append, List.length_cons, List.length_nil, List.length_replicate]; show _ ≤ 16777216; omega))))
    | ((with_reducible refine' giv_adds ?s0 ?_); (case s0 => (first | assumption | decide | omega | (show _ ≤ 16777216; omega) | (show _ < 16777216; omega) | (simp only [List.length_append, List.length_cons, List.length_nil, List.length_replicate]; show _ ≤ 16777216; omega))))
    | ((with_reducible refine' giv_addl ?s0 ?_); (case s0 => (first | assumption | decide | omega | (show _ ≤ 16777216; omega) | (show _ < 16777216; omega) | (simp only [List.length_append, List.length_cons, List.length_nil, List.length_replicate]; show _ ≤ 16777216; omega))))
    | ((with_reducible refine' giv_ixl ?s0 ?_); (case s0 => (first | assumption | rfl)))
    | ((with_reducible refine' giv_ixt ?s0 ?_); (case s0 => (first | assumption | rfl)))
    | ((with_reducible refine' giv_ixs ?s0 ?s1 ?_); (case s0 => (first | assumption | decide | omega | (show _ ≤ 16777216; omega) | (show _ < 16777216; omega) | (simp only [List.length_append, List.length_cons, List.length_nil, List.length_replicate]; show _ ≤ 16777216; omega))); (case s1 => (first | assumption | rfl)))
    | ((with_reducible refine' giv_sls ?s0 ?_); (case s0 => (first | assumption | decide | omega | (show _ ≤ 16777216; omega) | (show _ < 16777216; omega) | (simp only [List.length_append, List.length_cons, List.length_nil, List.length_replicate]; show _ ≤ 16777216; omega))))
    | with_reducible refine giv_sll ?_
    | ((with_reducible refine' giv_lens ?s0 ?_); (case s0 => (first | assumption | decide | omega | (show _ ≤ 16777216; omega) | (show _ < 16777216; omega) | (simp only [List.length_append, List.length_cons, List.length_nil, List.length_replicate]; show _ ≤ 16777216; omega))))
    | ((with_reducible refine' giv_revs ?s0 ?_); (case s0 => (first | assumption | decide | omega | (show _ ≤ 16777216; omega) | (show _ < 16777216; omega) | (simp only [List.length_append, List.length_cons, List.length_nil, List.length_replicate]; show _ ≤ 16777216; omega))))
    | with_reducible refine giv r_add1 ?_
    | with_reducible refine giv r_sub ?_
    | with_reducible refine giv r_lt ?_
    | with_reducible refine giv r_lts ?_
    | with_reducible refine giv r_le ?_
    | with_reducible refine giv r_gt ?_
    | with_reducible refine giv r_ge ?_
    | with_reducible refine giv r_eqi ?_
    | with_reducible refine giv r_eqs ?_
    | with_reducible refine giv r_eqb ?_
    | with_reducible refine giv r_nei ?_
    | with_reducible refine giv r_nes ?_
    | with_reducible refine giv r_neb ?_
    | with_reducible refine giv r_isb ?_
    | with_reducible refine giv r_ntb ?_
    | with_reducible refine giv r_ins ?_
    | with_reducible refine giv r_nis ?_
    | with_reducible refine giv r_neg ?_
    | with_reducible refine giv r_len2 ?_
    | with_reducible refine giv r_len3 ?_
    | with_reducible refine giv r_int1 ?_
    | with_reducible refine giv r_fFind ?_
    | with_reducible refine giv r_rev1 ?_
    | with_reducible refine giv r_fIsi1 ?_
    | with_reducible refine giv r_fIsi2 ?_
    | with_reducible refine giv r_fIsi3 ?_
    | with_reducible refine giv r_fIsi4 ?_
    | with_reducible refine giv r_fIsi5 ?_
    | with_reducible refine giv r_fIsi6 ?_)
    exact k.out) : P := h ⟨q⟩
end Sw
namespace Sw
open PySem PySem.Spec PyProof.Rows L2
section
variable {X : Cx} {a b c e : Expr} {ma mb mc me : M Vl} {pos p : Pos} {es : List Expr} {ms : M (List Vl)} {K : Kx}
/-- the decimals of an int -/
noncomputable def decS (i : Int) : List Nat := (Str.ofString (toString i)).cps.toList
noncomputable def cMin : List D → Option D
  | [.int i, .int j] => some (.int (if j < i then j else i))
  | _ => none
noncomputable def cMax : List D → Option D
  | [.int i, .int j] => some (.int (if j > i then j else i))
  | _ => none
theorem cs_min : CallS K (fun xs H Q => ∃ i j, xs = [.int i, .int j] ∧ Q (.int (if j < i then j else i)) H) cMin := by
  intro H F vs xs z s hx e Q q
  unfold cMin at e
  split at e
  · cases e
    obtain ⟨v, u, rfl, hv, hu⟩ := vws2 hx
    rw [vw_int hv, vw_int hu]
    exact ⟨_, _, rfl, q _ H F (Alc.refl s) (.int _)⟩
  · cases e
theorem se_min2 (hm : X.mg "min" = none) (hg : Gl X "min") (hc : X.calm = true) (ha : SA X [a, b] ms) (he : starEach [a, b] X.env = (false, eval a X.env) :: starEach [b] X.env := by rfl) (hpl : (backTo pos (starEach [b] X.env)).any (·.1) = false := by rfl) : SE X (.Call (.Name "min" p) [a, b] [] pos) (eBlt cMin ms) :=
  se_blt (call_min2 hc) cs_min hg hm (by decide +kernel) ha (by decide) (by decide) he hpl
noncomputable def cTup : List D → Option D
  | [.lst xs] => some (.tup xs)
  | [.tup xs] => some (.tup xs)
  | _ => none
theorem cs_tup : CallS K (fun xs H Q => ∃ p ys, xs = [.ref p] ∧ ((SqL K H p ys ∧ ∀ l, H l = none → Q (.ref l) (upd H l (.tup ys))) ∨ (SqT K H p ys ∧ Q (.ref p) H))) cTup := by
  intro H F vs xs z s hx e Q q
  unfold cTup at e
  split at e
  · cases e
    obtain ⟨v, rfl, a, us, rfl, h1, h2⟩ := vws1 hx
    refine ⟨a, us, rfl, .inl ⟨SqL.of h1, fun l hl => ?_⟩⟩
    have A := Alc.new (o := HO.tup us) s hl
    exact q _ _ _ A (.tup (SqT.of upd_same) (h2.mono A.ff))
  · cases e
    obtain ⟨v, rfl, hv⟩ := vws1 hx
    cases (show Rep K F v (.tup _) from hv) with
    | @tup a us _ h1 h2 => exact ⟨a, us, rfl, .inr ⟨same_t s h1, q _ H F (Alc.refl s) (.tup h1 h2)⟩⟩
  · cases e
theorem se_totup (hm : X.mg "tuple" = none) (hg : Gl X "tuple") (ha : SA X [e] ms) (he : starEach [e] X.env = (false, eval e X.env) :: starEach [] X.env := by rfl) (hpl : (backTo pos (starEach [] X.env)).any (·.1) = false := by rfl) : SE X (.Call (.Name "tuple" p) [e] [] pos) (eBlt cTup ms) :=
  se_ty call_tuple_of cs_tup hg hm (by decide +kernel) ha (by decide) (by decide) he hpl
end
end Sw
namespace Sw
open L2
theorem mapS_get {t : List (List Nat)} {i : Nat} {x : D} (h : (t.map D.str)[i]? = some x) : ∃ c, t[i]? = some c ∧ x = .str c := by
  rw [List.getElem?_map] at h
  cases e : t[i]? with
  | none => rw [e] at h; cases h
  | some c => rw [e] at h; cases h; exact ⟨c, rfl, rfl⟩
theorem take_s {α : Type} {t : List α} {i : Nat} {c : α} (h : t[i]? = some c) : t.take (i + 1) = t.take i ++ [c] := by rw [List.take_add_one, h]; rfl
theorem findC_in {s : List Nat} {c : Nat} (h : c ∈ s) : findC s c = (s.idxOf c : Int) := if_pos h
theorem atI_lastD {xs : List D} {x : D} : atI (xs ++ [x]) (-1) = some x := by
  unfold atI ixN
  rw [if_neg (by decide), if_pos (by rw [List.length_append, List.length_singleton]; omega)]
  show (xs ++ [x])[_]? = _
  rw [show (-1 + ((xs ++ [x]).length : Int)).toNat = xs.length by rw [List.length_append, List.length_singleton]; omega]
  simp
section
variable {ρ : Rho} {a b : M Vl} {s : S} {QS : Fl → Rho → Prop} {i : Nat}
theorem sv_seti_l (h : Ev b ρ fun r ρ1 => ∃ z ρ2, frz ρ1 (stl r) = some (z, ρ2) ∧ (own? ρ2 i).isSome = true ∧ Ev a ρ2 fun r2 ρ3 => IsI r2 fun k => ∃ xs j, own? ρ3 i = some xs ∧ ixN xs.length k = some j ∧ QS .nx (put ρ3 i (xs.set j z))) : Sv (sSetI i a b) ρ QS := by
  obtain ⟨r, ρ1, e1, z, ρ2, e2, e3, r2, ρ3, e4, k, rfl, xs, j, e5, e6, q⟩ := h
  obtain ⟨y, ey⟩ := Option.isSome_iff_exists.mp e3
  refine ⟨.nx, _, ?_, q⟩
  show (b ρ).bind _ = _
  rw [e1]
  simp only [Option.bind_some, e2, ey, e4, e5, e6]
theorem sv_seti_s (h : Ev b ρ fun r ρ1 => ∃ z ρ2, frz ρ1 (stl r) = some (z, ρ2) ∧ (own? ρ2 i).isSome = true ∧ Ev a ρ2 fun r2 ρ3 => IsI r2 fun k => ∃ xs j, own? ρ3 i = some xs ∧ ixN xs.length k = some j ∧ Sv s (put ρ3 i (xs.set j z)) QS) : Sv (sSeq (sSetI i a b) s) ρ QS := sv_seq (sv_seti_l h)
end
end Sw
namespace Sw
open L2 PySem
mutual
theorem eqv_refl : ∀ d : PyData, d.canLay0 = true → PyData.eqv d d = true
  | .none, _ => by simp [PyData.eqv]
  | .bool b, _ => by simp [PyData.eqv]
  | .int i, _ => by simp [PyData.eqv]
  | .str x, _ => by simp [PyData.eqv]
  | .list xs, h => by simp only [PyData.eqv]; exact eqvAll_refl xs (by simpa [PyData.canLay0] using h)
  | .tuple xs, h => by simp only [PyData.eqv]; exact eqvAll_refl xs (by simpa [PyData.canLay0] using h)
  | .dict _, h => by simp [PyData.canLay0] at h
theorem eqvAll_refl : ∀ ds : List PyData, PyData.canLayAll0 ds = true → PyData.eqvAll ds ds = true
  | [], _ => by simp [PyData.eqvAll]
  | d :: ds, h => by
    simp only [PyData.canLayAll0, Bool.and_eq_true] at h
    simp only [PyData.eqvAll, Bool.and_eq_true]
    exact ⟨eqv_refl d h.1, eqvAll_refl ds h.2⟩
end
theorem eqD_same {x : D} (h : shD x = true) : fEqD x x = some (.bl true) := by
  unfold fEqD
  rw [h]
  show (if true = true then _ else _) = _
  rw [if_pos rfl, eqv_refl _ (can_shap (shD_sh h))]
theorem eq_tup {xs : List D} (h : shD (.tup xs) = true) : fEq (.tup xs) (.tup xs) = some (.bl true) := by
  show orF fEqS fEqD _ _ = _
  unfold orF
  rw [show fEqS (.tup xs) (.tup xs) = none from rfl]
  exact eqD_same h
mutual
noncomputable def okD : D → Bool
  | .str s => s.all fun c => decide (c < 55296)
  | .lst xs => okDs xs
  | .tup xs => okDs xs
  | .obj _ _ _ => false
  | _ => true
noncomputable def okDs : List D → Bool
  | [] => true
  | x :: xs => okD x && okDs xs
end
mutual
noncomputable def dpD : D → Nat
  | .lst xs => dpDs xs + 1
  | .tup xs => dpDs xs + 1
  | .scr _ => 1
  | _ => 0
noncomputable def dpDs : List D → Nat
  | [] => 0
  | x :: xs => max (dpD x) (dpDs xs)
end
theorem ints_can : ∀ xs : List Int, PyData.canLayAll0 (xs.map PyData.int) = true
  | [] => by simp [PyData.canLayAll0]
  | i :: xs => by simp only [List.map_cons, PyData.canLayAll0, PyData.canLay0, Bool.true_and]; exact ints_can xs
theorem ints_dp : ∀ xs : List Int, PyData.depthAll (xs.map PyData.int) = 0
  | [] => by simp [PyData.depthAll]
  | i :: xs => by simp only [List.map_cons, PyData.depthAll, PyData.depth, ints_dp xs]; rfl
mutual
theorem can_of : ∀ x : D, okD x = true → (toP x).canLay0 = true
  | .non, _ => by simp [toP, PyData.canLay0]
  | .bl b, _ => by simp [toP, PyData.canLay0]
  | .int i, _ => by simp [toP, PyData.canLay0]
  | .str t, h => by
    simp only [okD, List.all_eq_true, decide_eq_true_eq] at h
    simp only [toP, PyData.canLay0, PyData.strOk, List.all_toArray, List.all_eq_true, decide_eq_true_eq]
    intro c hc
    have := h c hc
    omega
  | .lst xs, h => by simp only [toP, PyData.canLay0]; exact cans_of xs (by simpa [okD] using h)
  | .tup xs, h => by simp only [toP, PyData.canLay0]; exact cans_of xs (by simpa [okD] using h)
  | .scr xs, _ => by simp only [toP, PyData.canLay0]; exact ints_can xs
  | .obj _ _ _, h => by simp [okD] at h
theorem cans_of : ∀ xs : List D, okDs xs = true → PyData.canLayAll0 (toPs xs) = true
  | [], _ => by simp [toPs, PyData.canLayAll0]
  | x :: xs, h => by
    simp only [okDs, Bool.and_eq_true] at h
    simp only [toPs, PyData.canLayAll0, Bool.and_eq_true]
    exact ⟨can_of x h.1, cans_of xs h.2⟩
end
mutual
theorem dep_of : ∀ x : D, (toP x).depth = dpD x
  | .non => by simp [toP, PyData.depth, dpD]
  | .bl b => by simp [toP, PyData.depth, dpD]
  | .int i => by simp [toP, PyData.depth, dpD]
  | .str t => by simp [toP, PyData.depth, dpD]
  | .lst xs => by simp only [toP, PyData.depth, dpD, deps_of xs]
  | .tup xs => by simp only [toP, PyData.depth, dpD, deps_of xs]
  | .scr xs => by simp only [toP, PyData.depth, dpD, ints_dp xs]
  | .obj _ _ _ => by simp [toP, PyData.depth, dpD]
theorem deps_of : ∀ xs : List D, PyData.depthAll (toPs xs) = dpDs xs
  | [] => by simp [toPs, PyData.depthAll, dpDs]
  | x :: xs => by simp only [toPs, PyData.depthAll, dpDs, dep_of x, deps_of xs]
end
mutual
theorem pln_of : ∀ x : D, okD x = true → plnD x = true
  | .non, _ => rfl
  | .bl b, _ => rfl
  | .int i, _ => rfl
  | .str t, _ => rfl
  | .lst xs, h => by unfold okD at h; unfold plnD; exact plns_of xs h
  | .tup xs, h => by unfold okD at h; unfold plnD; exact plns_of xs h
  | .scr xs, _ => rfl
  | .obj _ _ _, h => by simp [okD] at h
theorem plns_of : ∀ xs : List D, okDs xs = true → plnDs xs = true
  | [], _ => rfl
  | x :: xs, h => by
    unfold okDs at h
    rw [Bool.and_eq_true] at h
    unfold plnDs
    rw [pln_of x h.1, plns_of xs h.2]; rfl
end
theorem shD_of2 {x : D} (h : okD x = true) (hd : dpD x ≤ 180) : shD x = true := by
  unfold shD shap
  rw [pln_of x h, can_of x h, dep_of x, decide_eq_true hd]
  rfl
theorem shD_of {x : D} (h : okD x = true) (hd : dpD x ≤ 64) : shD x = true := shD_of2 h (Nat.le_trans hd (by decide))
end Sw
namespace Sw
open PySem PySem.Spec PyProof.Rows L2
section
variable {X : Cx} {a b c e : Expr} {pos p : Pos} {es : List Expr} {ms : M (List Vl)} {K : Kx}
noncomputable def cMin3 : List D → Option D
  | [.int i, .int j, .int k] => some (.int (min (min i j) k))
  | _ => none
theorem min_if (i j : Int) : (if j < i then j else i) = min i j := by
  split <;> omega
@[simp] theorem r_min2 {i j : Int} : cMin [.int i, .int j] = some (.int (min i j)) := by show some (D.int _) = _; rw [min_if]
theorem max_if (i j : Int) : (if j > i then j else i) = max i j := by
  split <;> omega
@[simp] theorem r_max2 {i j : Int} : cMax [.int i, .int j] = some (.int (max i j)) := by show some (D.int _) = _; rw [max_if]
@[simp] theorem r_min3 {i j k : Int} : cMin3 [.int i, .int j, .int k] = some (.int (min (min i j) k)) := rfl
noncomputable def cStrA : List D → Option D
  | [.int i] => if -1000000000 < i ∧ i < 1000000000 then some (.str (decS i)) else none
  | [.str s] => some (.str s)
  | [.bl b] => some (.str (if b then [84, 114, 117, 101] else [70, 97, 108, 115, 101]))
  | [.non] => some (.str [78, 111, 110, 101])
  | _ => none
end
end Sw
namespace Sw
open L2
theorem fv_nextE {xs : List D} {m e : Int} {Q : Vl → List (List D) → Prop} (h : DrE e xs) (hm : 0 < m) (q : ∀ r ys, 0 ≤ r → r < m → DrE e ys → Q (.fz (.int r)) [ys]) : Fv lawNext [.li xs, .da (.int m)] Q := by
  obtain ⟨r, ys, e, h1, h2, h3⟩ := next_okE h hm
  exact ⟨_, _, e, q r ys h1 h2 h3⟩
theorem fv_drawE {ns : List Int} {Q : Vl → List (List D) → Prop} (h : ns.length ≤ 63) (q : ∀ xs, DrE 3 xs → Q (.fr xs) []) : Fv lawDraw [.da (.scr ns)] Q := by
  obtain ⟨xs, e, h⟩ := draw_okE h
  exact ⟨_, _, e, q xs h⟩
theorem atI_mem {α : Type} {xs : List α} {r : Int} (h0 : 0 ≤ r) (h1 : r < xs.length) : ∃ x, x ∈ xs ∧ atI xs r = some x := ⟨_, List.getElem_mem _, atI_int h0 h1⟩
theorem giv_ixl_all {xs : List D} {r : Int} {Q : D → Prop} (h0 : 0 ≤ r) (h1 : r < xs.length) (q : ∀ x ∈ xs, Q x) : Giv (fIx (.lst xs) (.int r)) Q := by
  obtain ⟨x, hx, e⟩ := atI_mem h0 h1
  exact giv_ixl e (q x hx)
theorem giv_ixs_all {xs : List Nat} {r : Int} {Q : D → Prop} (hl : xs.length ≤ lim) (h0 : 0 ≤ r) (h1 : r < xs.length) (q : ∀ c ∈ xs, Q (.str [c])) : Giv (fIx (.str xs) (.int r)) Q := by
  obtain ⟨x, hx, e⟩ := atI_mem h0 h1
  exact giv_ixs hl e (q x hx)
theorem all_nil {α : Type} {Q : α → Prop} : ∀ x ∈ ([] : List α), Q x := fun _ h => by cases h
theorem all_cons {α : Type} {Q : α → Prop} {a : α} {xs : List α} (h : Q a) (t : ∀ x ∈ xs, Q x) : ∀ x ∈ a :: xs, Q x := fun x hx => by
  rcases List.mem_cons.mp hx with rfl | hx
  · exact h
  · exact t x hx
theorem giv_dr4 {xs : List D} {e : Int} {Q : D → Prop} (h : DrE e xs) (q : Q (.int e)) : Giv (fIx (.lst xs) (.int 4)) Q := by
  obtain ⟨k, a, b, ds, rfl, hk⟩ := h.ex
  exact giv_ixl rfl q
theorem DrE.set4 {xs : List D} {e : Int} (h : DrE e xs) (e' : Int) : xs.length = 5 ∧ DrE e' (xs.set 4 (.int e')) := by
  obtain ⟨k, a, b, ds, rfl, hk⟩ := h.ex
  exact ⟨rfl, ⟨k, a, b, ds, rfl, hk⟩⟩
section
variable {ρ : Rho} {b : M Vl} {s : S} {QS : Fl → Rho → Prop} {i : Nat}
/-- the fifth cell is stored -/
theorem sv_set4_s (h : Ev b ρ fun r ρ1 => IsI r fun e' => ∃ xs, own? ρ1 i = some xs ∧ (∃ e, DrE e xs) ∧ ∀ ys, DrE e' ys → Sv s (put ρ1 i ys) QS) : Sv (sSeq (sSetI i (eC (.int 4)) b) s) ρ QS := by
  obtain ⟨r, ρ1, e1, e', rfl, xs, e5, ⟨e, hd⟩, q⟩ := h
  refine sv_seti_s ⟨_, ρ1, e1, .int e', ρ1, rfl, by rw [e5]; rfl, ?_⟩
  exact ev_c (isI ⟨xs, 4, e5, by rw [(hd.set4 e').1]; rfl, q _ (hd.set4 e').2⟩)
end
theorem own_at {ρ : Rho} {i : Nat} {xs : List D} {P : List D → Prop} (h : own? ρ i = some xs) (q : P xs) : ∃ xs, own? ρ i = some xs ∧ P xs := ⟨xs, h, q⟩
theorem giv_tup {xs : List D} {Q : D → Prop} (q : Q (.tup xs)) : Giv (cTup [.lst xs]) Q := ⟨_, rfl, q⟩
theorem giv_tupt {xs : List D} {Q : D → Prop} (q : Q (.tup xs)) : Giv (cTup [.tup xs]) Q := ⟨_, rfl, q⟩
theorem giv_str {i : Int} {Q : D → Prop} (h : -1000000000 < i ∧ i < 1000000000) (q : Q (.str (decS i))) : Giv (cStrA [.int i]) Q := ⟨_, by show (if _ then _ else _) = _; rw [if_pos h], q⟩
theorem giv_strN {Q : D → Prop} (q : Q (.str [78, 111, 110, 101])) : Giv (cStrA [.non]) Q := ⟨_, rfl, q⟩
theorem giv_strS {s : List Nat} {Q : D → Prop} (q : Q (.str s)) : Giv (cStrA [.str s]) Q := ⟨_, rfl, q⟩
@[simp] theorem r_isn1 {i : Int} : fIs (.int i) .non = some (.bl false) := rfl
@[simp] theorem r_isn2 : fIs .non .non = some (.bl true) := rfl
@[simp] theorem r_isn3 {s : List Nat} : fIs (.str s) .non = some (.bl false) := rfl
@[simp] theorem r_isn4 {s : List D} : fIs (.tup s) .non = some (.bl false) := rfl
@[simp] theorem r_isn5 {s : List D} : fIs (.lst s) .non = some (.bl false) := rfl
@[simp] theorem r_ntn1 {i : Int} : fNt (.int i) .non = some (.bl true) := rfl
@[simp] theorem r_ntn2 : fNt .non .non = some (.bl false) := rfl
@[simp] theorem r_ntn3 {s : List Nat} : fNt (.str s) .non = some (.bl true) := rfl
@[simp] theorem r_ntn4 {s : List D} : fNt (.tup s) .non = some (.bl true) := rfl
@[simp] theorem r_ntn5 {s : List D} : fNt (.lst s) .non = some (.bl true) := rfl
@[simp] theorem r_eqn1 {i : Int} : fEq (.int i) .non = some (.bl false) := rfl
@[simp] theorem r_eqn2 {i : Int} : fEq .non (.int i) = some (.bl false) := rfl
theorem gEv {α : Type} {m : M α} {ρ : Rho} {Q : α → Rho → Prop} (h : Ev m ρ Q) : Ev m ρ Q := h
theorem gSv {s : S} {ρ : Rho} {Q : Fl → Rho → Prop} (h : Sv s ρ Q) : Sv s ρ Q := h
theorem gGiv {o : Option D} {Q : D → Prop} (h : Giv o Q) : Giv o Q := h
theorem gFv {f : Fn} {gs : List Ag} {Q : Vl → List (List D) → Prop} (h : Fv f gs Q) : Fv f gs Q := h
theorem gBrn {c : Bool} {A B : Prop} (h : Brn c A B) : Brn c A B := h
theorem brn_c {c : Bool} {A B : Prop} (h1 : c = true → A) (h2 : c = false → B) : Brn c A B := ⟨h1, h2⟩
theorem set_back {ρ : Rho} {v : Nat} (hv : plainSl ρ[v]? = true) : (ρ.set v .no).set v ((ρ[v]?).getD .no) = ρ := by
  rw [List.set_set]
  cases e : ρ[v]? with
  | none => rw [e] at hv; cases hv
  | some s =>
    obtain ⟨h, rfl⟩ := List.getElem?_eq_some_iff.mp e
    exact List.set_getElem_self h
theorem plain_io {ρ : Rho} {v : Nat} (hv : plainSl ρ[v]? = true) : v < ρ.length := by
  cases e : ρ[v]? with
  | none => rw [e] at hv; cases hv
  | some s => exact (List.getElem?_eq_some_iff.mp e).1
theorem ev_lcf {α : Type} {ρ : Rho} {v : Nat} {src : M (List D)} {t : M Bool} {e : M Vl} {Q : Vl → Rho → Prop} (xs : List α) (d : α → D) (p : α → Bool) (h : α → D)
    (hv : plainSl ρ[v]? = true) (hl : xs.length ≤ lim) (hs : ∀ {Q' : List D → Rho → Prop}, Q' (xs.map d) ρ → Ev src ρ Q')
    (ht : ∀ x ∈ xs, ∀ {Q' : Bool → Rho → Prop}, Q' (p x) (ρ.set v (.d (d x))) → Ev t (ρ.set v (.d (d x))) Q')
    (he : ∀ x ∈ xs, p x = true → ∀ {Q' : Vl → Rho → Prop}, Q' (.fz (h x)) (ρ.set v (.d (d x))) → Ev e (ρ.set v (.d (d x))) Q')
    (q : Q (.fr ((xs.filter p).map h)) ρ) : Ev (eLc [v] src (gN v) t e) ρ Q := by
  have hvl := plain_io hv
  refine ev_lc (fun i acc ρ' => acc = ((xs.take i).filter p).map h ∧ ρ' = ρ.set v .no) (hs ?_)
  refine ⟨by simp only [List.all_cons, hv, List.all_nil]; rfl, ⟨by simp, rfl⟩, ?_, ?_⟩
  · rintro i y hy acc ρ' ⟨rfl, rfl⟩
    rw [List.getElem?_map] at hy
    cases hi : xs[i]? with
    | none => rw [hi] at hy; cases hy
    | some x =>
      rw [hi] at hy
      cases hy
      have hx := List.mem_of_getElem? hi
      have hi' : i < xs.length := (List.getElem?_eq_some_iff.mp hi).1
      refine ⟨ρ.set v (.d (d x)), ?_, ht x hx ?_⟩
      · show asg v (.fz (d x)) _ = _
        rw [asg_z (by rw [List.getElem?_set_self hvl]; rfl), List.set_set]
      · refine ⟨fun hp => he x hx hp ⟨h x, _, rfl, ?_, ?_, ?_⟩, fun hp => ⟨?_, ?_⟩⟩
        · rw [List.length_map]
          have := List.length_filter_le p (xs.take i)
          rw [List.length_take] at this
          omega
        · rw [take_s hi, List.filter_append, List.map_append]; simp [hp]
        · show (ρ.set v (.d (d x))).set v .no = _
          rw [List.set_set]
        · rw [take_s hi, List.filter_append, List.map_append]; simp [hp]
        · show (ρ.set v (.d (d x))).set v .no = _
          rw [List.set_set]
  · rintro acc ρ' ⟨rfl, rfl⟩
    rw [List.length_map, List.take_length]
    show Q _ ((ρ.set v .no).set v ((ρ[v]?).getD .no))
    rw [set_back hv]
    exact q
theorem ev_lcm {α : Type} {ρ : Rho} {v : Nat} {src : M (List D)} {e : M Vl} {Q : Vl → Rho → Prop} (xs : List α) (d : α → D) (h : α → D)
    (hv : plainSl ρ[v]? = true) (hl : xs.length ≤ lim) (hs : ∀ {Q' : List D → Rho → Prop}, Q' (xs.map d) ρ → Ev src ρ Q')
    (he : ∀ x ∈ xs, ∀ {Q' : Vl → Rho → Prop}, Q' (.fz (h x)) (ρ.set v (.d (d x))) → Ev e (ρ.set v (.d (d x))) Q')
    (q : Q (.fr (xs.map h)) ρ) : Ev (eLc [v] src (gN v) tYesM e) ρ Q :=
  ev_lcf xs d (fun _ => true) h hv hl hs (fun x _ Q' q => ev_tyes q) (fun x hx _ => he x hx) (by rw [List.filter_eq_self.mpr (fun _ _ => rfl)]; exact q)
theorem sIx_ge {n d : Nat} {r : Int} (h : 0 ≤ r) : HT.sIx n d (some r) = min r.toNat n := by
  obtain ⟨k, rfl⟩ := Int.eq_ofNat_of_zero_le h
  rw [HT.sIx_nat]; rfl
theorem cut_take {α : Type} {xs : List α} {r : Int} (h : 0 ≤ r) : cutL xs none (some r) = xs.take r.toNat := by
  unfold cutL
  rw [sIx_ge h]
  show (xs.drop 0).take (min r.toNat xs.length - 0) = _
  rw [List.drop_zero, Nat.sub_zero, Nat.min_comm, ← List.take_take]
  rw [List.take_take, Nat.min_comm]
  by_cases hl : r.toNat ≤ xs.length
  · rw [Nat.min_eq_left hl]
  · rw [Nat.min_eq_right (by omega), List.take_length, List.take_of_length_le (by omega)]
theorem cut_drop {α : Type} {xs : List α} {r : Int} (h : 0 ≤ r) : cutL xs (some r) none = xs.drop r.toNat := by
  unfold cutL
  rw [sIx_ge h]
  show (xs.drop (min r.toNat xs.length)).take (xs.length - min r.toNat xs.length) = _
  by_cases hl : r.toNat ≤ xs.length
  · rw [Nat.min_eq_left hl, List.take_of_length_le (by rw [List.length_drop]; omega)]
  · rw [Nat.min_eq_right (by omega), List.drop_length, List.drop_of_length_le (by omega), List.take_nil]
theorem cut_mid {α : Type} {xs : List α} {r u : Int} (h : 0 ≤ r) (h2 : 0 ≤ u) : cutL xs (some r) (some u) = (xs.drop r.toNat).take (u.toNat - r.toNat) := by
  unfold cutL
  rw [sIx_ge h, sIx_ge h2]
  by_cases hl : r.toNat ≤ xs.length
  · rw [Nat.min_eq_left hl]
    by_cases hu : u.toNat ≤ xs.length
    · rw [Nat.min_eq_left hu]
    · rw [Nat.min_eq_right (by omega), List.take_of_length_le (by rw [List.length_drop]; omega), List.take_of_length_le (by rw [List.length_drop]; omega)]
  · rw [show min r.toNat xs.length = xs.length by omega, List.drop_length, List.drop_of_length_le (by omega), List.take_nil, List.take_nil]
theorem cut_m1 {α : Type} {xs : List α} : cutL xs none (some (-1)) = xs.dropLast := by
  unfold cutL
  have e : HT.sIx xs.length xs.length (some (-1)) = xs.length - 1 := by
    unfold HT.sIx
    simp
    omega
  rw [e]
  show (xs.drop 0).take (xs.length - 1 - 0) = _
  rw [List.drop_zero, Nat.sub_zero, List.dropLast_eq_take]
theorem giv_slt {xs : List Nat} {r : Int} {Q : D → Prop} (hl : xs.length ≤ lim) (h : 0 ≤ r) (q : Q (.str (xs.take r.toNat))) : Giv (fSl (.str xs) none (some r)) Q := giv_sls hl (by rw [cut_take h]; exact q)
theorem giv_sld {xs : List Nat} {r : Int} {Q : D → Prop} (hl : xs.length ≤ lim) (h : 0 ≤ r) (q : Q (.str (xs.drop r.toNat))) : Giv (fSl (.str xs) (some r) none) Q := giv_sls hl (by rw [cut_drop h]; exact q)
theorem giv_slm {xs : List Nat} {r u : Int} {Q : D → Prop} (hl : xs.length ≤ lim) (h : 0 ≤ r) (h2 : 0 ≤ u) (q : Q (.str ((xs.drop r.toNat).take (u.toNat - r.toNat)))) : Giv (fSl (.str xs) (some r) (some u)) Q := giv_sls hl (by rw [cut_mid h h2]; exact q)
theorem giv_slm1 {xs : List Nat} {Q : D → Prop} (hl : xs.length ≤ lim) (q : Q (.str xs.dropLast)) : Giv (fSl (.str xs) none (some (-1))) Q := giv_sls hl (by rw [cut_m1]; exact q)
theorem giv_sltl {xs : List D} {r : Int} {Q : D → Prop} (h : 0 ≤ r) (q : Q (.lst (xs.take r.toNat))) : Giv (fSl (.lst xs) none (some r)) Q := giv_sll (by rw [cut_take h]; exact q)
theorem giv_sldl {xs : List D} {r : Int} {Q : D → Prop} (h : 0 ≤ r) (q : Q (.lst (xs.drop r.toNat))) : Giv (fSl (.lst xs) (some r) none) Q := giv_sll (by rw [cut_drop h]; exact q)
theorem ev_tAnd_d {t u : M Bool} {ρ : Rho} {QB : Bool → Rho → Prop} {p q : Prop} {ip : Decidable p} {iq : Decidable q} (ht : ∀ Q : Bool → Rho → Prop, Q (@decide p ip) ρ → Ev t ρ Q) (hu : p → ∀ Q : Bool → Rho → Prop, Q (@decide q iq) ρ → Ev u ρ Q) (h : QB (decide (p ∧ q)) ρ) : Ev (tAnd t u) ρ QB := by
  refine ev_tAnd (ht _ ?_)
  refine brn_d (fun hp => hu hp _ ?_) (fun hp => ?_)
  · rw [show decide q = decide (p ∧ q) by simp [hp]]; exact h
  · rw [show false = decide (p ∧ q) by simp [hp]]; exact h
theorem ev_tOr_d {t u : M Bool} {ρ : Rho} {QB : Bool → Rho → Prop} {p q : Prop} {ip : Decidable p} {iq : Decidable q} (ht : ∀ Q : Bool → Rho → Prop, Q (@decide p ip) ρ → Ev t ρ Q) (hu : ¬ p → ∀ Q : Bool → Rho → Prop, Q (@decide q iq) ρ → Ev u ρ Q) (h : QB (decide (p ∨ q)) ρ) : Ev (tOr t u) ρ QB := by
  refine ev_tOr (ht _ ?_)
  refine brn_d (fun hp => ?_) (fun hp => hu hp _ ?_)
  · rw [show true = decide (p ∨ q) by simp [hp]]; exact h
  · rw [show decide q = decide (p ∨ q) by simp [hp]]; exact h
theorem toD_t {Q : Bool → Rho → Prop} {ρ : Rho} (q : Q (decide ((0 : Int) = 0)) ρ) : Q true ρ := q
theorem toD_f {Q : Bool → Rho → Prop} {ρ : Rho} (q : Q (decide ((0 : Int) = 1)) ρ) : Q false ρ := q
theorem toD_b {Q : Bool → Rho → Prop} {ρ : Rho} {o : Bool} (q : Q (decide (o = true)) ρ) : Q o ρ := by rw [Bool.decide_eq_true] at q; exact q
theorem toD_n {Q : Bool → Rho → Prop} {ρ : Rho} {p : Prop} {ip : Decidable p} (q : Q (decide (¬ p)) ρ) : Q (!@decide p ip) ρ := by rw [decide_not] at q; exact q
end Sw
namespace Sw
open PySem PySem.Spec PyProof.Rows L2
section
variable {X : Cx} {a b c e : Expr} {pos p : Pos} {es : List Expr} {ms : M (List Vl)} {me : M Vl} {K : Kx}
noncomputable def bools : List D → Option (List Bool)
  | [] => some []
  | .bl b :: xs => (bools xs).bind fun r => some (b :: r)
  | _ => none
noncomputable def intsD : List D → Option (List Int)
  | [] => some []
  | .int i :: xs => (intsD xs).bind fun r => some (i :: r)
  | _ => none
theorem bools_ok {F : Hp} : ∀ {vs : List V} {xs : List D} {bs : List Bool}, Reps K F vs xs → bools xs = some bs → vs = bs.map V.bl
  | _, _, _, .nil, e => by cases e; rfl
  | _, _, _, .cons r t, e => by
    cases r with
    | bl b =>
      unfold bools at e
      obtain ⟨zs, e1, e⟩ := Option.bind_eq_some_iff.mp e
      cases e
      rw [bools_ok t e1]; rfl
    | _ => cases e
theorem intsD_ok {F : Hp} : ∀ {vs : List V} {xs : List D} {bs : List Int}, Reps K F vs xs → intsD xs = some bs → vs = bs.map V.int
  | _, _, _, .nil, e => by cases e; rfl
  | _, _, _, .cons r t, e => by
    cases r with
    | int b =>
      unfold intsD at e
      obtain ⟨zs, e1, e⟩ := Option.bind_eq_some_iff.mp e
      cases e
      rw [intsD_ok t e1]; rfl
    | _ => cases e
theorem bools_map : ∀ bs : List Bool, bools (bs.map D.bl) = some bs
  | [] => rfl
  | b :: bs => by rw [List.map_cons, bools, bools_map bs]; rfl
theorem intsD_map : ∀ bs : List Int, intsD (bs.map D.int) = some bs
  | [] => rfl
  | b :: bs => by rw [List.map_cons, intsD, intsD_map bs]; rfl
noncomputable def cAny : List D → Option D
  | [.lst xs] => (bools xs).bind fun bs => some (.bl (bs.any id))
  | _ => none
theorem cs_any : CallS K (rAny K) cAny := by
  intro H F vs xs z s hx e Q q
  unfold cAny at e
  split at e
  · obtain ⟨bs, e1, e⟩ := Option.bind_eq_some_iff.mp e
    cases e
    obtain ⟨v, rfl, a, us, rfl, h1, h2⟩ := vws1 hx
    refine ⟨a, bs, rfl, ?_, q _ H F (Alc.refl s) (.bl _)⟩
    rw [← bools_ok h2 e1]; exact SqL.of h1
  · cases e
theorem se_any (hm : X.mg "any" = none) (hg : Gl X "any") (hc : X.calm = true) (ha : SA X [e] ms) (he : starEach [e] X.env = (false, eval e X.env) :: starEach [] X.env := by rfl) (hpl : (backTo pos (starEach [] X.env)).any (·.1) = false := by rfl) : SE X (.Call (.Name "any" p) [e] [] pos) (eBlt cAny ms) :=
  se_blt (cr_any hc) cs_any hg hm (by decide +kernel) ha (by decide) (by decide) he hpl
end
end Sw
namespace Sw
open PySem PySem.Spec PyProof.Rows L2
end Sw
namespace Sw
open PySem PySem.Spec PyProof.Rows L2
end Sw
namespace Sw
open PySem PySem.Spec PyProof.Rows L2
section
variable {X : Cx} {a b e : Expr} {ma mb me : M Vl} {pos : Pos} {K : Kx}
/-- a part of a tuple that is not the whole one -/
noncomputable def fSlT : D → Option Int → Option Int → Option D
  | .tup s, lo, hi => if HT.sIx s.length 0 lo ≠ 0 ∨ HT.sIx s.length s.length hi ≠ s.length then some (.tup (cutL s lo hi)) else none
  | _, _, _ => none
theorem sls_tup : SlS K (rSlT K) fSlT := by
  intro H F v x z lo hi s hx e Q q
  unfold fSlT at e
  split at e
  · split at e
    · rename_i hc
      cases e
      cases (show Rep K F v (.tup _) from hx) with
      | @tup a vs _ h1 h2 =>
        refine ⟨a, vs, rfl, same_t s h1, ?_, fun p hp => ?_⟩
        · rw [h2.len]; rintro ⟨z1, z2⟩; rcases hc with hc | hc
          · exact hc z1
          · exact hc z2
        · have A := Alc.new (o := HO.tup (cutV vs lo hi)) s hp
          exact q _ _ _ A (.tup (SqT.of upd_same) ((cutV_reps h2).mono A.ff))
    · cases e
  · cases e
noncomputable def fSlA : D → Option Int → Option Int → Option D := orSl (orSl fSlL fSlS) fSlT
theorem oSlA : ∃ r, L2.SlR X r ∧ SlS X.kx r fSlA := ⟨_, (sl_list.or sl_str).or sl_tup, (sls_list.or sls_str).or sls_tup⟩
theorem se_slcA {lo hi : Option Expr} {ml mu : M (Option Int)} {p2 : Pos} (he : SE X e me) (hl : SO X lo ml) (hu : SO X hi mu) : SE X (.Subscript e (.Slice lo hi none p2) pos) (eSl fSlA me ml mu) := by
  obtain ⟨r, h1, h2⟩ := oSlA (X := X)
  exact se_sl h1 h2 he hl hu
theorem giv_A {x : D} {l u : Option Int} {Q : D → Prop} (h : Giv (fSl x l u) Q) : Giv (fSlA x l u) Q := by
  obtain ⟨z, h, q⟩ := h
  refine ⟨z, ?_, q⟩
  show (match fSl x l u with | some z => some z | none => fSlT x l u) = _
  rw [h]
theorem giv_tA {xs : List D} {l u : Option Int} {Q : D → Prop} (hc : HT.sIx xs.length 0 l ≠ 0 ∨ HT.sIx xs.length xs.length u ≠ xs.length) (q : Q (.tup (cutL xs l u))) : Giv (fSlA (.tup xs) l u) Q := by
  refine ⟨_, ?_, q⟩
  show (if HT.sIx xs.length 0 l ≠ 0 ∨ HT.sIx xs.length xs.length u ≠ xs.length then some (D.tup (cutL xs l u)) else none) = _
  rw [if_pos hc]
theorem giv_sldT {xs : List D} {r : Int} {Q : D → Prop} (h : 0 < r) (h2 : 0 < xs.length) (q : Q (.tup (xs.drop r.toNat))) : Giv (fSlA (.tup xs) (some r) none) Q := by
  refine giv_tA (.inl ?_) (by rw [cut_drop (by omega)]; exact q)
  rw [sIx_ge (by omega)]; omega
theorem giv_sltT {xs : List D} {r : Int} {Q : D → Prop} (h : 0 ≤ r) (h2 : r < xs.length) (q : Q (.tup (xs.take r.toNat))) : Giv (fSlA (.tup xs) none (some r)) Q := by
  refine giv_tA (.inr ?_) (by rw [cut_take h]; exact q)
  rw [sIx_ge h]; omega
noncomputable def addV (x y : D) : Option Vl := match x, y with
  | .lst xs, .lst ys => if xs.length + ys.length ≤ lim then some (.fr (xs ++ ys)) else none
  | x, y => (fAdd x y).bind fun z => some (.fz z)
noncomputable def eAdd (a b : M Vl) : M Vl := fun ρ => (a ρ).bind fun p => (b p.2).bind fun q => (look q.2 (stl p.1)).bind fun x => (look q.2 (stl q.1)).bind fun y => (addV x y).bind fun z => some (z, q.2)
theorem addV_cases {x y : D} {z : Vl} (h : addV x y = some z) : (∃ xs ys, x = .lst xs ∧ y = .lst ys ∧ xs.length + ys.length ≤ lim ∧ z = .fr (xs ++ ys)) ∨ ∃ w, fAdd x y = some w ∧ z = .fz w := by
  unfold addV at h
  split at h
  · split at h
    · rename_i hl; cases h; exact .inl ⟨_, _, rfl, rfl, hl, rfl⟩
    · cases h
  · obtain ⟨w, e1, e2⟩ := Option.bind_eq_some_iff.mp h
    cases e2
    exact .inr ⟨w, e1, rfl⟩
theorem se_add (ha : SE X a ma) (hb : SE X b mb) : SE X (.BinOp a .Add b pos) (eAdd ma mb) := by
  obtain ⟨r, h1, h2⟩ := oAdd (X := X)
  refine pe_weak (pe_op (op_cat.or h1) ha hb) fun σ H Q ⟨G, ρ, F, r0, ρ', W, hm, q⟩ => ?_
  unfold eAdd at hm
  obtain ⟨⟨x, ρ1⟩, e1, hm⟩ := Option.bind_eq_some_iff.mp hm
  obtain ⟨⟨y, ρ2⟩, e2, hm⟩ := Option.bind_eq_some_iff.mp hm
  obtain ⟨dx, e3, hm⟩ := Option.bind_eq_some_iff.mp hm
  obtain ⟨dy, e4, hm⟩ := Option.bind_eq_some_iff.mp hm
  obtain ⟨dz, e5, hm⟩ := Option.bind_eq_some_iff.mp hm
  cases hm
  refine tm_use W e1 fun v H1 F1 s1 R1 => ?_
  refine tm_use s1.wd e2 fun u H2 F2 s2 R2 => ?_
  have V1 := vw_of s2.wd (R1.ste s2) e3
  have V2 := vw_of s2.wd R2 e4
  have s12 := s1.trans s2
  rcases addV_cases e5 with ⟨xs, ys, rfl, rfl, hl, rfl⟩ | ⟨w, ew, rfl⟩
  · obtain ⟨c, vs, rfl, g1, g2⟩ := V1
    obtain ⟨d, us, rfl, g3, g4⟩ := V2
    refine .inl ⟨c, d, vs, us, rfl, rfl, g1, g3, lim_of (by rw [g2.len, g4.len]; exact hl), fun p hp => ?_⟩
    have A : Alc F2 H2 F2 (upd H2 p (.lst (vs ++ us))) := ⟨Same.refl _, s2.wd.sub.trans (same_upd hp), same_upd hp, fun _ h => .inl h⟩
    refine q _ _ _ (s12.trans (s2.wd.alc A)) ⟨p, vs ++ us, rfl, upd_same, g2.append g4, s2.wd.sub.free hp, s12.back p hp, s12.wd.not_ow hp (same_upd hp)⟩
  · refine .inr (h2 H2 F2 v u dx dy w s2.wd.sub V1 V2 ew Q fun w' H' F' A R => ?_)
    exact q w' H' F' (s12.trans (s2.wd.alc A)) R
noncomputable def Add2 (x y : D) (P : Vl → Prop) : Prop := ∃ z, addV x y = some z ∧ P z
theorem ev_add {ρ : Rho} {m1 m2 : M Vl} {Q : Vl → Rho → Prop} (h : Ev m1 ρ fun r ρ1 => Ev m2 ρ1 fun r2 ρ2 => See2 ρ2 r r2 fun x y => Add2 x y fun v => Q v ρ2) : Ev (eAdd m1 m2) ρ Q := by
  obtain ⟨r, ρ1, e1, r2, ρ2, e2, x, y, e3, e4, z, e5, q⟩ := h
  refine ⟨_, ρ2, ?_, q⟩
  show (m1 ρ).bind _ = _
  rw [e1]
  simp only [Option.bind_some, e2, e3, e4, e5]
theorem add2_i {i j : Int} {P : Vl → Prop} (q : P (.fz (.int (i + j)))) : Add2 (.int i) (.int j) P := ⟨_, rfl, q⟩
theorem add2_s {s t : List Nat} {P : Vl → Prop} (h : s.length + t.length ≤ lim) (q : P (.fz (.str (s ++ t)))) : Add2 (.str s) (.str t) P := by
  refine ⟨_, ?_, q⟩
  show (fAdd (.str s) (.str t)).bind _ = _
  rw [r_add2, if_pos h]; rfl
theorem add2_l {xs ys : List D} {P : Vl → Prop} (h : xs.length + ys.length ≤ lim) (q : P (.fr (xs ++ ys))) : Add2 (.lst xs) (.lst ys) P := by
  refine ⟨_, ?_, q⟩
  show (if _ then _ else _) = _
  rw [if_pos h]
theorem add2_t {xs ys : List D} {P : Vl → Prop} (h : xs.length + ys.length ≤ lim) (q : P (.fz (.tup (xs ++ ys)))) : Add2 (.tup xs) (.tup ys) P := by
  refine ⟨_, ?_, q⟩
  have e : fAdd (.tup xs) (.tup ys) = some (.tup (xs ++ ys)) := by
    show (if xs.length + ys.length ≤ lim then some (D.tup (xs ++ ys)) else none) = _
    rw [if_pos h]
  show (fAdd (.tup xs) (.tup ys)).bind _ = _
  rw [e]; rfl
end
end Sw
namespace Sw
open L2
theorem q_isi_tuple_non : fIsi "tuple" .non = some (.bl false) := by unfold fIsi; rw [show kitB (tyN .non) "tuple" = some false by show kitB "NoneType" "tuple" = _; decide +kernel]; rfl
theorem q_isi_tuple_bl {b : Bool} : fIsi "tuple" (.bl b) = some (.bl false) := by unfold fIsi; rw [show kitB (tyN (.bl b)) "tuple" = some false by show kitB "bool" "tuple" = _; decide +kernel]; rfl
theorem q_isi_tuple_int {i : Int} : fIsi "tuple" (.int i) = some (.bl false) := by unfold fIsi; rw [show kitB (tyN (.int i)) "tuple" = some false by show kitB "int" "tuple" = _; decide +kernel]; rfl
theorem q_isi_tuple_str {s : List Nat} : fIsi "tuple" (.str s) = some (.bl false) := by unfold fIsi; rw [show kitB (tyN (.str s)) "tuple" = some false by show kitB "str" "tuple" = _; decide +kernel]; rfl
theorem q_isi_tuple_lst {l : List D} : fIsi "tuple" (.lst l) = some (.bl false) := by unfold fIsi; rw [show kitB (tyN (.lst l)) "tuple" = some false by show kitB "list" "tuple" = _; decide +kernel]; rfl
theorem q_isi_tuple_tup {l : List D} : fIsi "tuple" (.tup l) = some (.bl true) := by unfold fIsi; rw [show kitB (tyN (.tup l)) "tuple" = some true by show kitB "tuple" "tuple" = _; decide +kernel]; rfl
theorem q_isi_list_non : fIsi "list" .non = some (.bl false) := by unfold fIsi; rw [show kitB (tyN .non) "list" = some false by show kitB "NoneType" "list" = _; decide +kernel]; rfl
theorem q_isi_list_bl {b : Bool} : fIsi "list" (.bl b) = some (.bl false) := by unfold fIsi; rw [show kitB (tyN (.bl b)) "list" = some false by show kitB "bool" "list" = _; decide +kernel]; rfl
theorem q_isi_list_int {i : Int} : fIsi "list" (.int i) = some (.bl false) := by unfold fIsi; rw [show kitB (tyN (.int i)) "list" = some false by show kitB "int" "list" = _; decide +kernel]; rfl
theorem q_isi_list_str {s : List Nat} : fIsi "list" (.str s) = some (.bl false) := by unfold fIsi; rw [show kitB (tyN (.str s)) "list" = some false by show kitB "str" "list" = _; decide +kernel]; rfl
theorem q_isi_list_lst {l : List D} : fIsi "list" (.lst l) = some (.bl true) := by unfold fIsi; rw [show kitB (tyN (.lst l)) "list" = some true by show kitB "list" "list" = _; decide +kernel]; rfl
theorem q_isi_list_tup {l : List D} : fIsi "list" (.tup l) = some (.bl false) := by unfold fIsi; rw [show kitB (tyN (.tup l)) "list" = some false by show kitB "tuple" "list" = _; decide +kernel]; rfl
theorem q_isi_str_non : fIsi "str" .non = some (.bl false) := by unfold fIsi; rw [show kitB (tyN .non) "str" = some false by show kitB "NoneType" "str" = _; decide +kernel]; rfl
theorem q_isi_str_bl {b : Bool} : fIsi "str" (.bl b) = some (.bl false) := by unfold fIsi; rw [show kitB (tyN (.bl b)) "str" = some false by show kitB "bool" "str" = _; decide +kernel]; rfl
theorem q_isi_str_int {i : Int} : fIsi "str" (.int i) = some (.bl false) := by unfold fIsi; rw [show kitB (tyN (.int i)) "str" = some false by show kitB "int" "str" = _; decide +kernel]; rfl
theorem q_isi_str_str {s : List Nat} : fIsi "str" (.str s) = some (.bl true) := by unfold fIsi; rw [show kitB (tyN (.str s)) "str" = some true by show kitB "str" "str" = _; decide +kernel]; rfl
theorem q_isi_str_lst {l : List D} : fIsi "str" (.lst l) = some (.bl false) := by unfold fIsi; rw [show kitB (tyN (.lst l)) "str" = some false by show kitB "list" "str" = _; decide +kernel]; rfl
theorem q_isi_str_tup {l : List D} : fIsi "str" (.tup l) = some (.bl false) := by unfold fIsi; rw [show kitB (tyN (.tup l)) "str" = some false by show kitB "tuple" "str" = _; decide +kernel]; rfl
theorem q_isi_int_non : fIsi "int" .non = some (.bl false) := by unfold fIsi; rw [show kitB (tyN .non) "int" = some false by show kitB "NoneType" "int" = _; decide +kernel]; rfl
theorem q_isi_int_bl {b : Bool} : fIsi "int" (.bl b) = some (.bl true) := by unfold fIsi; rw [show kitB (tyN (.bl b)) "int" = some true by show kitB "bool" "int" = _; decide +kernel]; rfl
theorem q_isi_int_int {i : Int} : fIsi "int" (.int i) = some (.bl true) := by unfold fIsi; rw [show kitB (tyN (.int i)) "int" = some true by show kitB "int" "int" = _; decide +kernel]; rfl
theorem q_isi_int_str {s : List Nat} : fIsi "int" (.str s) = some (.bl false) := by unfold fIsi; rw [show kitB (tyN (.str s)) "int" = some false by show kitB "str" "int" = _; decide +kernel]; rfl
theorem q_isi_int_lst {l : List D} : fIsi "int" (.lst l) = some (.bl false) := by unfold fIsi; rw [show kitB (tyN (.lst l)) "int" = some false by show kitB "list" "int" = _; decide +kernel]; rfl
theorem q_isi_int_tup {l : List D} : fIsi "int" (.tup l) = some (.bl false) := by unfold fIsi; rw [show kitB (tyN (.tup l)) "int" = some false by show kitB "tuple" "int" = _; decide +kernel]; rfl
theorem q_isi_bool_non : fIsi "bool" .non = some (.bl false) := by unfold fIsi; rw [show kitB (tyN .non) "bool" = some false by show kitB "NoneType" "bool" = _; decide +kernel]; rfl
theorem q_isi_bool_bl {b : Bool} : fIsi "bool" (.bl b) = some (.bl true) := by unfold fIsi; rw [show kitB (tyN (.bl b)) "bool" = some true by show kitB "bool" "bool" = _; decide +kernel]; rfl
theorem q_isi_bool_int {i : Int} : fIsi "bool" (.int i) = some (.bl false) := by unfold fIsi; rw [show kitB (tyN (.int i)) "bool" = some false by show kitB "int" "bool" = _; decide +kernel]; rfl
theorem q_isi_bool_str {s : List Nat} : fIsi "bool" (.str s) = some (.bl false) := by unfold fIsi; rw [show kitB (tyN (.str s)) "bool" = some false by show kitB "str" "bool" = _; decide +kernel]; rfl
theorem q_isi_bool_lst {l : List D} : fIsi "bool" (.lst l) = some (.bl false) := by unfold fIsi; rw [show kitB (tyN (.lst l)) "bool" = some false by show kitB "list" "bool" = _; decide +kernel]; rfl
theorem q_isi_bool_tup {l : List D} : fIsi "bool" (.tup l) = some (.bl false) := by unfold fIsi; rw [show kitB (tyN (.tup l)) "bool" = some false by show kitB "tuple" "bool" = _; decide +kernel]; rfl
end Sw
namespace Sw
open PySem PySem.Spec PyProof.Rows L2
noncomputable def fAt (c f : PySem.Str) : D → Option D
  | .obj c' ks xs => if c' = c then (ks.zip xs).lookup f else none
  | _ => none
theorem Reps.lookup {K : Kx} {F : Hp} {f : PySem.Str} : ∀ {ks : List PySem.Str} {vs : List V} {xs : List D} {d : D}, Reps K F vs xs → (ks.zip xs).lookup f = some d → ∃ v, (ks.zip vs).lookup f = some v ∧ Rep K F v d
  | [], _, _, _, _, h => by simp at h
  | k :: ks, _, _, _, .nil, h => by simp at h
  | k :: ks, _, _, d, .cons (v := v) (d := x) (vs := vs) (ds := xs) r t, h => by
    rw [List.zip_cons_cons, List.lookup_cons] at h ⊢
    cases e : f == k with
    | true => rw [e] at h; cases h; exact ⟨v, rfl, r⟩
    | false => rw [e] at h; exact Reps.lookup t h
section
variable {X : Cx} {e : Expr} {me : M Vl} {pos p : Pos} {es : List Expr} {ms : M (List Vl)}
theorem se_fld {c f : PySem.Str} {C : Addr} (hC : ClsN X.kx c C) (cl : Cls X.kx C) (na : NoAttr X.kx C f) (he : SE X e me) (hb : attributeBase e f X.env (eval e X.env) = eval e X.env) : SE X (.Attribute e f pos) (eUn (fAt c f) me) := by
  refine pe_weak (pe_fld he hb) fun σ H Q ⟨G, ρ, F, r0, ρ', W, hm, q⟩ => ?_
  unfold eUn at hm
  obtain ⟨⟨x, ρ1⟩, e1, hm⟩ := Option.bind_eq_some_iff.mp hm
  obtain ⟨dx, e3, hm⟩ := Option.bind_eq_some_iff.mp hm
  obtain ⟨dz, e5, hm⟩ := Option.bind_eq_some_iff.mp hm
  cases hm
  refine tm_use W e1 fun v H1 F1 s1 R1 => ?_
  have hv := vw_of s1.wd R1 e3
  cases dx with
  | obj c' ks xs =>
    cases (show Rep X.kx F1 v (.obj c' ks xs) from hv) with
    | obj h1 h2 h3 h4 =>
      have e6 : (if c' = c then (ks.zip xs).lookup f else none) = some dz := e5
      split at e6
      · rename_i ec
        subst ec
        obtain ⟨w, l1, l2⟩ := h4.lookup e6
        have := hC.uniq h1
        subst this
        exact ⟨_, _, _, _, w, rfl, s1.wd.sub _ _ h2, cl, na, l1, q _ H1 F1 s1 l2⟩
      · cases e6
  | _ => cases e5
end
noncomputable def eMake (c : PySem.Str) (g : List D → Option (List PySem.Str × List D)) (ms : M (List Vl)) : M Vl := fun ρ => (ms ρ).bind fun p => (frzs p.2 p.1).bind fun q => (g q.1).bind fun z => some (.fz (.obj c z.1 z.2), q.2)
/-- the promise of an __init__ that stores the attributes ks with the values xs -/
noncomputable def spI (K : Kx) (C : Addr) (n : Nat) (g : List D → Option (List PySem.Str × List D)) : Sp := fun vs H Q _ => vs.length = n + 1 ∧ ∃ (F : Hp) (x dx : Addr) (us : List V) (ds : List D) (ks : List PySem.Str) (xs : List D),
  vs = .ref x :: us ∧ Same F H ∧ F x = none ∧ H x = some (.ins C dx []) ∧ Reps K F us ds ∧ g ds = some (ks, xs) ∧ ∀ H' F' ws, Same F F' → Same F' H' → (∀ b o, H b = some o → b ≠ x → H' b = some o) → (∀ b, F' b ≠ none → F b ≠ none ∨ H b = none) →
    F' x = none → H' x = some (.ins C dx (ks.zip ws)) → ws.length = ks.length → Reps K F' ws xs → Q .non H'
section
variable {X : Cx} {e : Expr} {pos p : Pos} {es : List Expr} {ms : M (List Vl)} {c x : PySem.Str} {C fi : Addr} {fd : FuncData} {ps : List Str} {n k : Nat} {g : List D → Option (List PySem.Str × List D)}
theorem tmake_of {K : Kx} {E : XK} (hC : ClsN K c C) (hn : ∀ ds z, g ds = some z → ds.length = n) {σ : L2.St} {H : Hp} {Q : VK} (h : tM K (eMake c g ms) σ H Q) : tMake C (spI K C n g) [] E (tMA K ms) σ H Q := by
  obtain ⟨G, ρ, F, r0, ρ', W, hm, q⟩ := h
  unfold eMake at hm
  obtain ⟨⟨rs, ρ1⟩, e1, hm⟩ := Option.bind_eq_some_iff.mp hm
  obtain ⟨⟨ds, ρ2⟩, e2, hm⟩ := Option.bind_eq_some_iff.mp hm
  obtain ⟨⟨ks, xs⟩, e3, hm⟩ := Option.bind_eq_some_iff.mp hm
  cases hm
  refine ⟨G, ρ, F, rs, ρ1, W, e1, fun vs H1 F1 s1 R1 => ?_⟩
  obtain ⟨F2, s2, R2⟩ := frzs_ok s1.wd R1 e2
  intro y dy hy hdy hne
  rw [List.append_nil]
  have sub2 := s2.wd.sub
  have fy : F2 y = none := sub2.free hy
  have k1 : ∀ b o, H1 b = some o → upd (upd H1 dy (.own y)) y (.ins C dy []) b = some o := fun b o hb => by
    have n1 : b ≠ y := fun z => by rw [z, hy] at hb; cases hb
    have n2 : b ≠ dy := fun z => by rw [z, hdy] at hb; cases hb
    rw [upd_ne n1, upd_ne n2]; exact hb
  refine ⟨by rw [List.length_cons, R2.len, hn _ _ e3], F2, y, dy, vs, ds, ks, xs, rfl, fun b o hb => k1 b o (sub2 _ _ hb), fy, upd_same, R2, e3, fun H' F' ws ff sub kp nf fy' hx hl R => ⟨rfl, ?_⟩⟩
  have A : Alc F2 H1 (upd F' y (.ins C dy (ks.zip ws))) H' := by
    refine ⟨fun b o hb => ?_, fun b o hb => ?_, fun b o hb => ?_, fun b hb => ?_⟩
    · have : b ≠ y := fun z => by rw [z, fy] at hb; cases hb
      rw [upd_ne this]; exact ff _ _ hb
    · by_cases z : b = y
      · subst z; rw [upd_same] at hb; cases hb; exact hx
      · rw [upd_ne z] at hb; exact sub _ _ hb
    · exact kp b o (k1 b o hb) fun z => by rw [z, hy] at hb; cases hb
    · by_cases z : b = y
      · subst z; exact .inr hy
      · rw [upd_ne z] at hb
        rcases nf b hb with h | h
        · exact .inl h
        · cases e : H1 b with
          | none => exact .inr rfl
          | some o => rw [k1 b o e] at h; cases h
  have sF : Same F' (upd F' y (.ins C dy (ks.zip ws))) := same_upd fy'
  exact q _ H' _ ((s1.trans s2).trans (s2.wd.alc A)) (Rep.obj hC upd_same hl (R.mono sF))
theorem se_make (M : Mk X.kx C fi) (hC : ClsN X.kx c C) (F : FnOk X.prog X.w X.kx X.mg X.base CX0 k fi fd ps (spI X.kx C n g)) (hn : ∀ ds z, g ds = some z → ds.length = n) (hr : Room (k + 1) X.A) (hg : Gl X x) (hm : X.mg x = some (.ref C)) (hb : Binds X.kx fd ps [])
    (ha : SA X (e :: es) ms) (hdb : (x == ("__debug__" : Str)) = false := by decide) (he : starEach (e :: es) X.env = (false, eval e X.env) :: starEach es X.env := by rfl) (hpl : (backTo pos (starEach es X.env)).any (·.1) = false := by rfl) :
    SE X (.Call (.Name x p) (e :: es) [] pos) (eMake c g ms) := pe_weak (pe_make M F hr hg hm hb .nil pass0 ha hdb he hpl) fun _ _ _ h => tmake_of hC hn h
end
noncomputable abbrev SI0 := Rho × List PySem.Str × List D → Option (Rho × List PySem.Str × List D)
noncomputable def iNx : SI0 := fun r => some r
noncomputable def iSeq (a b : SI0) : SI0 := fun r => (a r).bind b
/-- self.f = e -/
noncomputable def iFld (f : PySem.Str) (m : M Vl) : SI0 := fun r => (m r.1).bind fun p => (frz p.2 (stl p.1)).bind fun q => if r.2.1.contains f = false ∧ r.2.1.length < 100 then some (q.2, r.2.1 ++ [f], r.2.2 ++ [q.1]) else none
structure Mid (K : Kx) (G : Gd) (C y dy : Addr) (r : Rho × List PySem.Str × List D) (σ : L2.St) (H F : Hp) : Prop where
  wd : Wd K G r.1 σ H F
  s0 : σ[0]? = some (some (.ref y))
  h0 : G.H0 y = none
  fy : F y = none
  no : ∀ i, ¬ Ow K H F r.1 σ i y
  at_ : ∃ ws, H y = some (.ins C dy (r.2.1.zip ws)) ∧ ws.length = r.2.1.length ∧ Reps K F ws r.2.2
noncomputable def tIn (K : Kx) (C : Addr) (m : SI0) : TS := fun D σ H => ∃ G y dy r F r', Mid K G C y dy r σ H F ∧ m r = some r' ∧ ∀ σ' H' F', Mid K G C y dy r' σ' H' F' → Same F F' → D.nx σ' H'
theorem putF_new {f : PySem.Str} {v : V} : ∀ {ks : List PySem.Str} {ws : List V}, ws.length = ks.length → ks.contains f = false → putF f v (ks.zip ws) = (ks ++ [f]).zip (ws ++ [v])
  | [], [], _, _ => rfl
  | k :: ks, [], h, _ => by simp at h
  | [], w :: ws, h, _ => by simp at h
  | k :: ks, w :: ws, h, n => by
    rw [List.contains_cons, Bool.or_eq_false_iff] at n
    have nk : k ≠ f := fun e => by have := n.1; rw [e, beq_self_eq_true] at this; cases this
    rw [List.zip_cons_cons, List.cons_append, List.cons_append, List.zip_cons_cons]
    show (if k = f then _ else _) = _
    rw [if_neg nk, putF_new (by simpa using h) n.2]
theorem Wd.updx {K : Kx} {G : Gd} {ρ : Rho} {σ : L2.St} {H F : Hp} {y C dy : Addr} {fs : List (Str × V)} {o : HO} (W : Wd K G ρ σ H F) (hy : H y = some (.ins C dy fs)) (fy : F y = none) (h0 : G.H0 y = none) (no : ∀ i, ¬ Ow K H F ρ σ i y) : Wd K G ρ σ (upd H y o) F := by
  refine ⟨W.len, W.gl, fun b x e => ?_, W.f0, fun b x e h h2 => ?_, W.nw, fun b h => ?_, fun i s h => ?_, fun i j b o1 o2 => W.ap i j b (W.upd_ow no o1) (W.upd_ow no o2), W.ai, W.ao⟩
  · rw [upd_ne (fun z => by rw [z, fy] at e; cases e)]; exact W.sub _ _ e
  · rw [upd_ne (fun z => by rw [z, h0] at e; cases e)]; exact W.kp b x e h h2
  · by_cases z : b = y
    · subst z; rw [upd_same]; exact fun z => by cases z
    · rw [upd_ne z]; exact W.it b h
  · have q := W.sl i s h
    cases s with
    | no => trivial
    | xa b dx f => exact q
    | d x => exact q
    | ow xs => obtain ⟨a, vs, e, h1, h2⟩ := q; exact ⟨a, vs, e, by rw [upd_ne (fun z => by rw [z, hy] at h1; cases h1)]; exact h1, h2⟩
    | io xs => obtain ⟨a, vs, e, h1, h2⟩ := q; exact ⟨a, vs, e, by rw [upd_ne (fun z => by rw [z, hy] at h1; cases h1)]; exact h1, h2⟩
    | dc xs => obtain ⟨a, vs, e, h1, h2⟩ := q; exact ⟨a, vs, e, by rw [upd_ne (fun z => by rw [z, hy] at h1; cases h1)]; exact h1, h2⟩
    | ob t => obtain ⟨u, L, e, r, p⟩ := q; exact ⟨u, L, e, r.frame (Same.refl _) fun b hb x hx => by
        rw [upd_ne (fun z => no i (.inr ⟨t, u, L, .inl h, e, r, by rw [← z]; exact hb⟩))]; exact hx, p⟩
    | iob t => obtain ⟨u, L, e, r, p⟩ := q; exact ⟨u, L, e, r.frame (Same.refl _) fun b hb x hx => by
        rw [upd_ne (fun z => no i (.inr ⟨t, u, L, .inr h, e, r, by rw [← z]; exact hb⟩))]; exact hx, p⟩
section
variable {X : Cx} {e o : Expr} {me : M Vl} {pos p pos' : Pos} {st : Stmt} {rest : List Stmt} {C : Addr} {m1 m2 : SI0} {f : PySem.Str}
theorem si0_nil : PSs X [] (tIn X.kx C iNx) := pss_weak pss_nil fun D σ H ⟨G, y, dy, r, F, r', I, hm, q⟩ => by
  cases hm
  exact q σ H F I (Same.refl _)
theorem si0_cons (h1 : PS X st (tIn X.kx C m1)) (h2 : PSs X rest (tIn X.kx C m2)) : PSs X (st :: rest) (tIn X.kx C (iSeq m1 m2)) := by
  refine pss_weak (pss_cons h1 h2) fun D σ H ⟨G, y, dy, r, F, r', I, hm, q⟩ => ?_
  unfold iSeq at hm
  obtain ⟨r1, e1, hm⟩ := Option.bind_eq_some_iff.mp hm
  exact ⟨G, y, dy, r, F, r1, I, e1, fun σ' H' F' I' ff => ⟨G, y, dy, r1, F', r', I', hm, fun σ2 H2 F2 I2 f2 => q σ2 H2 F2 I2 (ff.trans f2)⟩⟩
theorem si0_fld (cl : Cls X.kx C) (na : NoAttr X.kx C f) (ho : PE X o (tVar 0)) (he : SE X e me) (hs : swapsWith e (some (.Attribute o f pos')) pos.line X.env = pure false) : PS X (.Assign [.Attribute o f pos'] e pos) (tIn X.kx C (iFld f me)) := by
  refine ps_weak (ps_fld ho he hs) fun D σ H ⟨G, y, dy, ⟨ρ, ks, xs⟩, F, r', I, hm, q⟩ => ?_
  unfold iFld at hm
  obtain ⟨⟨r, ρ1⟩, e1, hm⟩ := Option.bind_eq_some_iff.mp hm
  obtain ⟨⟨z, ρ2⟩, e2, hm⟩ := Option.bind_eq_some_iff.mp hm
  split at hm
  · rename_i hc
    cases hm
    refine tm_use I.wd e1 fun v H1 F1 s1 R1 => ?_
    obtain ⟨F2, s2, R2⟩ := frz_ok s1.wd R1 e2
    have s12 := s1.trans s2
    obtain ⟨ws, a1, a2, a3⟩ := I.at_
    have now : ∀ i, ¬ Ow X.kx H F ρ σ i y := I.no
    have hy := s12.kk y _ a1 now
    have fy2 : F2 y = none := by
      cases e : F2 y with
      | none => rfl
      | some o =>
        rcases s12.nf y (by rw [e]; simp) with h | h | ⟨i, h⟩
        · exact absurd I.fy h
        · rw [a1] at h; cases h
        · exact absurd h (now i)
    refine ⟨.ref y, I.s0, y, C, dy, _, rfl, hy, cl, na, ?_, ?_⟩
    · rw [List.length_zip]
      have := hc.2
      dsimp only at this
      omega
    · rw [putF_new a2 hc.1]
      have no2 : ∀ i, ¬ Ow X.kx H1 F2 ρ2 σ i y := fun i o => (s12.oo i y o).elim (now i) fun z => by rw [a1] at z; cases z
      refine q σ _ F2 ⟨s12.wd.updx hy fy2 I.h0 no2, I.s0, I.h0, fy2, fun i o => no2 i (s12.wd.upd_ow no2 o), ⟨ws ++ [v], upd_same, by simp [a2], (a3.mono s12.ff).append (.cons R2 .nil)⟩⟩ s12.ff
  · cases hm
end
theorem fn_init {P : Program} {w : World} {K : PySem.W.Frag} {mg : Str → Option Value} {base : Heap} {x qual : Str} {st : Stmt} {f C : Addr} {fd : FuncData} {N ps : List Str} {k n nl : Nat} {m : SI0} (Fu : FunG K x qual st f fd) (Sc : FnScope N ps (defScope st)) (hn : ps.length = n + 1) (hl : N.length = nl) (hle : n + 1 ≤ nl)
    (hb : ∀ (cdv : Value) (A : Around) (outer : List Env) (s : Shared) (H : Hp) (E : XK), Room k (A.deeper (envOfC qual (defScope st) s.heap.objs.size f cdv)) → PSs (cxOf CX0 P w K mg base N qual (defScope st) f cdv A outer s H E).nox (defBody st) (tIn ⟨K, w⟩ C m)) :
    FnOk P w K mg base CX0 (k + 1) f fd ps (spI ⟨K, w⟩ C n fun ds => if ds.length = n then (m (.no :: (ds.map .d ++ List.replicate (nl - (n + 1)) .no), [], [])).bind fun r => some r.2 else none) := by
  refine Fu.ok Sc (fun vs H Q E h => by rw [h.1, hn]) (fun cdv A outer s H vs Q E hr h => ?_)
  obtain ⟨hv, F, y, dy, us, ds, ks, xs, rfl, sub, fy, hy, R, hg, q⟩ := h
  refine ⟨_, hb cdv A outer s H E hr, ?_⟩
  dsimp only at hg
  split at hg
  · rename_i hd
    obtain ⟨⟨ρ', ks', xs'⟩, e1, hg⟩ := Option.bind_eq_some_iff.mp hg
    cases hg
    have lu : us.length = n := by rw [R.len, hd]
    have get : ∀ (i : Nat) (s : Sl), (Sl.no :: (ds.map Sl.d ++ List.replicate (nl - (n + 1)) Sl.no))[i]? = some s → s = .no ∨ ∃ j d v, i = j + 1 ∧ ds[j]? = some d ∧ us[j]? = some v ∧ s = .d d ∧ Rep ⟨K, w⟩ F v d := fun i s h => by
      cases i with
      | zero => left; simpa using h.symm
      | succ j =>
        rw [List.getElem?_cons_succ] at h
        by_cases hj : j < n
        · rw [List.getElem?_append_left (by rw [List.length_map, hd]; exact hj), List.getElem?_map] at h
          cases e : ds[j]? with
          | none => rw [e] at h; cases h
          | some d =>
            rw [e] at h; cases h
            obtain ⟨v, e2, r⟩ := R.get' e
            exact .inr ⟨j, d, v, rfl, e, e2, rfl, r⟩
        · rw [List.getElem?_append_right (by rw [List.length_map, hd]; omega), List.getElem?_replicate] at h
          split at h
          · cases h; exact .inl rfl
          · cases h
    have no : ∀ i a, ¬ Ow ⟨K, w⟩ H F (Sl.no :: (ds.map Sl.d ++ List.replicate (nl - (n + 1)) Sl.no)) (start N (.ref y :: us)) i a := fun i a o => by
      rcases o with ⟨⟨zs, o1 | o1 | ⟨ws, o1⟩⟩, _⟩ | ⟨t, u, L, o1 | o1, _⟩
      rotate_right 2
      · rcases get i _ o1 with e | ⟨_, _, _, _, _, _, e, _⟩ <;> cases e
      · rcases get i _ o1 with e | ⟨_, _, _, _, _, _, e, _⟩ <;> cases e
      · rcases get i _ o1 with e | ⟨_, _, _, _, _, _, e, _⟩ <;> cases e
      · rcases get i _ o1 with e | ⟨_, _, _, _, _, _, e, _⟩ <;> cases e
      · rcases get i _ o1 with e | ⟨_, _, _, _, _, _, e, _⟩ <;> cases e
    have lst : (start N (.ref y :: us)).length = nl := by
      unfold L2.start
      rw [List.length_append, List.length_map, List.length_replicate, List.length_cons, lu, hl]
      omega
    have W : Wd ⟨K, w⟩ ⟨fun b => if b = y then none else H b, F, [], nl, [], []⟩ (Sl.no :: (ds.map Sl.d ++ List.replicate (nl - (n + 1)) Sl.no)) (start N (.ref y :: us)) H F := by
      refine ⟨?_, lst, sub, Same.refl _, fun b o h _ _ => ?_, fun b h => .inl h, fun b h => h.elim (fun z => absurd z List.not_mem_nil) fun z => absurd z List.not_mem_nil, fun i s h => ?_, fun i j a o1 o2 => absurd o1 (no i a), fun i a h => absurd h List.not_mem_nil, fun i a h => absurd h List.not_mem_nil⟩
      · rw [lst, List.length_cons, List.length_append, List.length_map, List.length_replicate, hd]; omega
      · dsimp only at h
        split at h
        · cases h
        · exact h
      · rcases get i s h with rfl | ⟨j, d, v, rfl, _, e2, rfl, r⟩
        · trivial
        · refine ⟨v, ?_, r⟩
          unfold L2.start
          rw [List.map_cons, List.cons_append, List.getElem?_cons_succ, List.getElem?_append_left (by rw [List.length_map]; exact (List.getElem?_eq_some_iff.mp e2).1), List.getElem?_map, e2]
          rfl
    refine ⟨_, y, dy, (_, [], []), F, _, ⟨W, rfl, by simp, fy, fun i => no i y, ⟨[], hy, rfl, .nil⟩⟩, e1, fun σ' H' F' I ff => ?_⟩
    obtain ⟨ws, a1, a2, a3⟩ := I.at_
    refine q H' F' ws ff I.wd.sub (fun b o h hb => I.wd.kp b o ?_ (fun z => absurd z List.not_mem_nil) (fun z => absurd z List.not_mem_nil)) (fun b h => ?_) I.fy a1 a2 a3
    · dsimp only
      rw [if_neg hb]; exact h
    · rcases I.wd.nw b h with h1 | h1
      · exact .inl h1
      · dsimp only at h1
        split at h1
        · rename_i hb
          subst hb
          exact absurd I.fy h
        · exact .inr h1
  · cases hg
end Sw
namespace Sw
open PySem PySem.Spec PyProof.Rows L2
theorem ltc_asymm : ∀ a b : List Nat, ltCps b a = false → ltCps a b = false → a = b
  | [], [], _, _ => rfl
  | [], _ :: _, _, h => by cases h
  | _ :: _, [], h, _ => by cases h
  | a :: r, b :: t, h, h' => by
    simp only [ltCps, Bool.or_eq_false_iff, decide_eq_false_iff_not, Bool.and_eq_false_iff, beq_eq_false_iff_ne] at h h'
    have e : a = b := by omega
    subst e
    rw [ltc_asymm r t (h.2.resolve_left (by simp)) (h'.2.resolve_left (by simp))]
theorem ltc_total : ∀ a b : List Nat, ltCps b a = true → ltCps a b = false
  | [], [], h => by cases h
  | [], _ :: _, h => by cases h
  | _ :: _, [], h => rfl
  | a :: r, b :: t, h => by
    simp only [ltCps, Bool.or_eq_true, decide_eq_true_eq, Bool.and_eq_true, beq_iff_eq] at h
    simp only [ltCps, Bool.or_eq_false_iff, decide_eq_false_iff_not, Bool.and_eq_false_iff, beq_eq_false_iff_ne]
    rcases h with h | ⟨h1, h2⟩
    · exact ⟨by omega, .inl (by omega)⟩
    · exact ⟨by omega, .inr (ltc_total r t h2)⟩
theorem ltc_trans : ∀ a b c : List Nat, ltCps b a = false → ltCps c b = false → ltCps c a = false
  | [], _, [], _, _ => rfl
  | [], _, _ :: _, _, _ => rfl
  | _ :: _, [], _, h, _ => by cases h
  | _ :: _, _ :: _, [], _, h => by cases h
  | a :: r, b :: t, c :: u, h, h' => by
    simp only [ltCps, Bool.or_eq_false_iff, decide_eq_false_iff_not, Bool.and_eq_false_iff, beq_eq_false_iff_ne] at h h' ⊢
    refine ⟨by omega, ?_⟩
    by_cases e : c = a
    · right
      have e1 : b = a := by omega
      have e2 : c = b := by omega
      exact ltc_trans r t u (h.2.resolve_left (fun z => z e1)) (h'.2.resolve_left (fun z => z e2))
    · exact .inl e
noncomputable def leT (a b : List Nat) : Bool := !ltCps b a
noncomputable def sortT (xs : List (List Nat)) : List (List Nat) := xs.mergeSort leT
theorem leT_trans (a b c : List Nat) (h : leT a b = true) (h' : leT b c = true) : leT a c = true := by
  unfold leT at *
  rw [Bool.not_eq_true'] at *
  exact ltc_trans a b c h h'
theorem leT_total (a b : List Nat) : (leT a b || leT b a) = true := by
  unfold leT
  cases h : ltCps b a with
  | false => rfl
  | true => rw [ltc_total a b h]; rfl
theorem sortT_perm (xs : List (List Nat)) : (sortT xs).Perm xs := List.mergeSort_perm _ _
theorem sortT_pair (xs : List (List Nat)) : (sortT xs).Pairwise fun a b => leT a b = true := List.pairwise_mergeSort leT_trans leT_total xs
theorem rising_pair : ∀ (p : Str) (l : List Str), risingS p l = true → (∀ x ∈ l, leT p.cps.toList x.cps.toList = true) ∧ (l.map fun s : Str => s.cps.toList).Pairwise fun a b => leT a b = true
  | p, [], _ => ⟨fun _ h => absurd h List.not_mem_nil, List.Pairwise.nil⟩
  | p, x :: r, h => by
    unfold risingS at h
    rw [Bool.and_eq_true, Bool.not_eq_true'] at h
    obtain ⟨h1, h2⟩ := rising_pair x r h.2
    have px : leT p.cps.toList x.cps.toList = true := by unfold leT; rw [h.1]; rfl
    refine ⟨fun y hy => ?_, ?_⟩
    · rcases List.mem_cons.mp hy with rfl | hy
      · exact px
      · exact leT_trans _ _ _ px (h1 y hy)
    · rw [List.map_cons, List.pairwise_cons]
      refine ⟨fun y hy => ?_, h2⟩
      obtain ⟨z, hz, rfl⟩ := List.mem_map.mp hy
      exact h1 z hz
theorem sorted_pair : ∀ (l : List Str), sortedS l = true → (l.map fun s : Str => s.cps.toList).Pairwise fun a b => leT a b = true
  | [], _ => List.Pairwise.nil
  | x :: r, h => by
    obtain ⟨h1, h2⟩ := rising_pair x r h
    rw [List.map_cons, List.pairwise_cons]
    refine ⟨fun y hy => ?_, h2⟩
    obtain ⟨z, hz, rfl⟩ := List.mem_map.mp hy
    exact h1 z hz
theorem sortT_uniq {xs ys : List (List Nat)} (hp : ys.Perm xs) (hs : ys.Pairwise fun a b => leT a b = true) : ys = sortT xs := by
  refine List.Perm.eq_of_pairwise (le := fun a b => leT a b = true) (fun a b _ _ h h' => ?_) hs (sortT_pair xs) (hp.trans (sortT_perm xs).symm)
  unfold leT at h h'
  rw [Bool.not_eq_true'] at h h'
  exact ltc_asymm a b h h'
noncomputable def sortI (xs : List Int) : List Int := xs.mergeSort fun a b => decide (a ≤ b)
theorem sortI_perm (xs : List Int) : (sortI xs).Perm xs := List.mergeSort_perm _ _
theorem sortI_pair (xs : List Int) : (sortI xs).Pairwise fun a b => a ≤ b := by
  have := List.pairwise_mergeSort (le := fun a b : Int => decide (a ≤ b)) (fun a b c h h' => by simp only [decide_eq_true_eq] at *; omega) (fun a b => by simp only [Bool.or_eq_true, decide_eq_true_eq]; omega) xs
  exact this.imp fun h => of_decide_eq_true h
theorem sortI_uniq {xs ys : List Int} (hp : ys.Perm xs) (hs : ys.Pairwise fun a b => a ≤ b) : ys = sortI xs :=
  List.Perm.eq_of_pairwise (le := fun a b : Int => a ≤ b) (fun a b _ _ h h' => by omega) hs (sortI_pair xs) (hp.trans (sortI_perm xs).symm)
noncomputable def sortD (xs : List D) : Option (List D) := match intsD xs with
  | some ns => some ((sortI ns).map .int)
  | none => (strsOf xs).bind fun ts => if ts.length < 64 then some ((sortT ts).map .str) else none
noncomputable def eSorted (ms : M (List Vl)) : M Vl := fun ρ => (ms ρ).bind fun p => match p.1 with
  | [r] => (look p.2 r).bind fun x => match x with
    | .lst xs => (sortD xs).bind fun ys => some (.fr ys, p.2)
    | _ => none
  | _ => none
section
variable {X : Cx} {e : Expr} {ms : M (List Vl)} {p pos : Pos}
theorem reps_ints {K : Kx} {F : Hp} : ∀ ns : List Int, Reps K F (ns.map V.int) (ns.map D.int)
  | [] => .nil
  | n :: ns => .cons (.int n) (reps_ints ns)
theorem reps_strs {K : Kx} {F : Hp} : ∀ ss : List Str, Reps K F (ss.map V.str) ((ss.map fun s : Str => s.cps.toList).map D.str)
  | [] => .nil
  | s :: ss => .cons (rep_str s) (reps_strs ss)
theorem new_fr {G : Gd} {K : Kx} {ρ ρ1 : Rho} {σ : L2.St} {H H1 F F1 : Hp} {vs : List V} {xs : List D} {Q : VK} {q : Addr} (s1 : Ste K G ρ σ H F ρ1 H1 F1) (R : Reps K F1 vs xs) (hq : H1 q = none) (Qk : ∀ v H' F', Ste K G ρ σ H F ρ1 H' F' → VlR K G H ρ1 σ H' F' v (.fr xs) → Q v H') : Q (.ref q) (upd H1 q (.lst vs)) := by
  have f1 : F1 q = none := s1.wd.sub.free hq
  have A : Alc F1 H1 F1 (upd H1 q (.lst vs)) := ⟨Same.refl _, fun b o e => by rw [upd_ne (ne_of_none (s1.wd.sub _ _ e) hq)]; exact s1.wd.sub _ _ e, same_upd hq, fun _ h => .inl h⟩
  refine Qk _ _ F1 (s1.trans (s1.wd.alc A)) ⟨q, vs, rfl, upd_same, R, f1, ?_, s1.wd.not_ow hq (same_upd hq)⟩
  cases e : H q with
  | none => rfl
  | some o => exact absurd hq (s1.tr q (by rw [e]; simp))
theorem pe_alt {t t' : TE} (h : PE X e t) (h' : PE X e t') : PE X e (fun σ H Q => t σ H Q ∨ t' σ H Q) := ⟨fun pins s σ H Q I q => q.elim (h.run pins s σ H Q I) (h'.run pins s σ H Q I)⟩
theorem se_sorted (hm : X.mg "sorted" = none) (hg : Gl X "sorted") (ha : SA X [e] ms) (he : starEach [e] X.env = (false, eval e X.env) :: starEach [] X.env := by rfl) (hpl : (backTo pos (starEach [] X.env)).any (·.1) = false := by rfl) :
    SE X (.Call (.Name "sorted" p) [e] [] pos) (eSorted ms) := by
  refine pe_weak (pe_alt (pe_callB cr_sortedI hg hm (by decide +kernel) ha (by decide) (by decide) he hpl) (pe_callB cr_sortedS hg hm (by decide +kernel) ha (by decide) (by decide) he hpl)) fun σ H Q ⟨G, ρ, F, r0, ρ', W, hm, q⟩ => ?_
  unfold eSorted at hm
  obtain ⟨⟨rs, ρ1⟩, e1, hm⟩ := Option.bind_eq_some_iff.mp hm
  split at hm
  · rename_i r hr
    dsimp only at hr
    subst hr
    obtain ⟨x, e2, hm⟩ := Option.bind_eq_some_iff.mp hm
    split at hm
    · rename_i xs
      obtain ⟨ys, e3, hm⟩ := Option.bind_eq_some_iff.mp hm
      cases hm
      unfold sortD at e3
      split at e3
      · rename_i ns hn
        cases e3
        refine .inl ⟨G, ρ, F, [r], ρ1, W, e1, fun vs H1 F1 s1 R1 => ?_⟩
        obtain ⟨v, rfl, Rv⟩ : ∃ v, vs = [v] ∧ VlS X.kx σ F1 v r := by
          match vs, R1 with
          | [v], z => exact ⟨v, rfl, z.1⟩
        obtain ⟨a, us, rfl, h1, h2⟩ := vw_of s1.wd Rv e2
        have hu := intsD_ok h2 hn
        subst hu
        refine ⟨a, ns, rfl, SqL.of h1, fun ns' p hp hs hq => ?_⟩
        rw [sortI_uniq hp hs]
        exact new_fr s1 (reps_ints _) hq q
      · obtain ⟨ts, hn, e3⟩ := Option.bind_eq_some_iff.mp e3
        split at e3
        · rename_i hl
          cases e3
          refine .inr ⟨G, ρ, F, [r], ρ1, W, e1, fun vs H1 F1 s1 R1 => ?_⟩
          obtain ⟨v, rfl, Rv⟩ : ∃ v, vs = [v] ∧ VlS X.kx σ F1 v r := by
            match vs, R1 with
            | [v], z => exact ⟨v, rfl, z.1⟩
          obtain ⟨a, us, rfl, h1, h2⟩ := vw_of s1.wd Rv e2
          have hu := strsOf_ok h2 hn
          subst hu
          refine ⟨a, _, rfl, SqL.of h1, by rw [List.length_map]; exact hl, fun ss p hp hs hq => ?_⟩
          have e4 : (ss.map fun s : Str => s.cps.toList) = sortT ts := by
            refine sortT_uniq ?_ (sorted_pair ss hs)
            have := hp.map fun s : Str => s.cps.toList
            rw [List.map_map] at this
            have id' : ((fun s : Str => s.cps.toList) ∘ fun y : List Nat => (⟨y.toArray⟩ : Str)) = id := by funext y; simp
            rw [id', List.map_id] at this
            exact this
          rw [← e4] at q
          exact new_fr s1 (reps_strs ss) hq q
        · cases e3
    · cases hm
  · cases hm
end
end Sw
namespace Sw
open L2
local macro_rules | `(tactic| walk_at "fn") => `(tactic| (fail))
local macro_rules | `(tactic| walk_at "s1") => `(tactic| (first | ((with_reducible refine gEv ?_); (first | ((with_reducible refine' ev_tAnd_d ?s0 ?s1 ?_); (case s0 => (intro Q q; walk_at "g"; (first | exact q | exact toD_n q | exact toD_t q | exact toD_f q | exact toD_b q))); (case s1 => (intro hp Q q; walk_at "g"; (first | exact q | exact toD_n q | exact toD_t q | exact toD_f q | exact toD_b q)))) | ((with_reducible refine' ev_tOr_d ?s0 ?s1 ?_); (case s0 => (intro Q q; walk_at "g"; (first | exact q | exact toD_n q | exact toD_t q | exact toD_f q | exact toD_b q))); (case s1 => (intro hp Q q; walk_at "g"; (first | exact q | exact toD_n q | exact toD_t q | exact toD_f q | exact toD_b q)))) | with_reducible refine ev_c ?_ | ((with_reducible refine' ev_vd ?s0 ?_); (case s0 => (rfl))) | ((with_reducible refine' ev_vo ?s0 ?_); (case s0 => (rfl))) | ((with_reducible refine' ev_vi ?s0 ?_); (case s0 => (rfl))) | with_reducible refine ev_bin ?_ | with_reducible refine ev_add ?_ | with_reducible refine ev_un ?_ | with_reducible refine ev_anil ?_ | with_reducible refine ev_acons ?_ | with_reducible refine ev_blt ?_ | with_reducible refine ev_met ?_ | with_reducible refine ev_ono ?_ | with_reducible refine ev_osome ?_ | with_reducible refine ev_sl ?_ | with_reducible refine ev_tup ?_ | with_reducible refine ev_lst ?_ | with_reducible refine ev_tE ?_ | with_reducible refine ev_tyes ?_ | with_reducible refine ev_tAnd ?_ | with_reducible refine ev_tOr ?_ | with_reducible refine ev_tNot ?_ | with_reducible refine ev_eAnd ?_ | with_reducible refine ev_eOr ?_ | with_reducible refine ev_eNot ?_ | with_reducible refine ev_eIf ?_ | with_reducible refine ev_chain ?_ | with_reducible refine ev_call ?_)) | ((with_reducible refine gGiv ?_); (first | ((with_reducible refine' giv_mod ?s0 ?_); (case s0 => (first | assumption | decide | omega | (show _ ≤ 16777216; omega) | (show _ < 16777216; omega) | (simp only [List.length_append, List.length_cons, List.length_nil, List.length_replicate, List.length_map, List.length_take, List.length_drop, List.length_dropLast]; first | omega | (show _ ≤ 16777216; omega))))) | ((with_reducible refine' giv_div ?s0 ?_); (case s0 => (first | assumption | decide | omega | (show _ ≤ 16777216; omega) | (show _ < 16777216; omega) | (simp only [List.length_append, List.length_cons, List.length_nil, List.length_replicate, List.length_map, List.length_take, List.length_drop, List.length_dropLast]; first | omega | (show _ ≤ 16777216; omega))))) | ((with_reducible refine' giv_mul ?s0 ?_); (case s0 => (first | assumption | exact cMul_r (by decide) | exact cMul_r (by omega)))) | ((with_reducible refine' giv_muls ?s0 ?_); (case s0 => (first | assumption | decide | omega | (show _ ≤ 16777216; omega) | (show _ < 16777216; omega) | (simp only [List.length_append, List.length_cons, List.length_nil, List.length_replicate, List.length_map, List.length_take, List.length_drop, List.length_dropLast]; first | omega | (show _ ≤ 16777216; omega))))) | ((with_reducible refine' giv_adds ?s0 ?_); (case s0 => (first | assumption | decide | omega | (show _ ≤ 16777216; omega) | (show _ < 16777216; omega) | (simp only [List.length_append, List.length_cons, List.length_nil, List.length_replicate, List.length_map, List.length_take, List.length_drop, List.length_dropLast]; first | omega | (show _ ≤ 16777216; omega))))) | ((with_reducible refine' giv_addl ?s0 ?_); (case s0 => (first | assumption | decide | omega | (show _ ≤ 16777216; omega) | (show _ < 16777216; omega) | (simp only [List.length_append, List.length_cons, List.length_nil, List.length_replicate, List.length_map, List.length_take, List.length_drop, List.length_dropLast]; first | omega | (show _ ≤ 16777216; omega))))) | ((with_reducible refine' giv_ixl ?s0 ?_); (case s0 => (first | assumption | rfl | exact atI_zero))) | ((with_reducible refine' giv_ixt ?s0 ?_); (case s0 => (first | assumption | rfl | exact atI_zero))) | ((with_reducible refine' giv_ixs ?s0 ?s1 ?_); (case s0 => (first | assumption | decide | omega | (show _ ≤ 16777216; omega) | (show _ < 16777216; omega) | (simp only [List.length_append, List.length_cons, List.length_nil, List.length_replicate, List.length_map, List.length_take, List.length_drop, List.length_dropLast]; first | omega | (show _ ≤ 16777216; omega)))); (case s1 => (first | assumption | rfl))) | ((with_reducible refine' giv_dr4 ?s0 ?_); (case s0 => (assumption))) | ((with_reducible refine' giv_slm1 ?s0 ?_); (case s0 => (first | assumption | decide | omega | (show _ ≤ 16777216; omega) | (show _ < 16777216; omega) | (simp only [List.length_append, List.length_cons, List.length_nil, List.length_replicate, List.length_map, List.length_take, List.length_drop, List.length_dropLast]; first | omega | (show _ ≤ 16777216; omega))))) | ((with_reducible refine' giv_slt ?s0 ?s1 ?_); (case s0 => (first | assumption | decide | omega | (show _ ≤ 16777216; omega) | (show _ < 16777216; omega) | (simp only [List.length_append, List.length_cons, List.length_nil, List.length_replicate, List.length_map, List.length_take, List.length_drop, List.length_dropLast]; first | omega | (show _ ≤ 16777216; omega)))); (case s1 => (first | assumption | decide | omega))) | ((with_reducible refine' giv_sld ?s0 ?s1 ?_); (case s0 => (first | assumption | decide | omega | (show _ ≤ 16777216; omega) | (show _ < 16777216; omega) | (simp only [List.length_append, List.length_cons, List.length_nil, List.length_replicate, List.length_map, List.length_take, List.length_drop, List.length_dropLast]; first | omega | (show _ ≤ 16777216; omega)))); (case s1 => (first | assumption | decide | omega))) | ((with_reducible refine' giv_slm ?s0 ?s1 ?s2 ?_); (case s0 => (first | assumption | decide | omega | (show _ ≤ 16777216; omega) | (show _ < 16777216; omega) | (simp only [List.length_append, List.length_cons, List.length_nil, List.length_replicate, List.length_map, List.length_take, List.length_drop, List.length_dropLast]; first | omega | (show _ ≤ 16777216; omega)))); (case s1 => (first | assumption | decide | omega)); (case s2 => (first | assumption | decide | omega))) | ((with_reducible refine' giv_sltl ?s0 ?_); (case s0 => (first | assumption | decide | omega))) | ((with_reducible refine' giv_sldl ?s0 ?_); (case s0 => (first | assumption | decide | omega))) | ((with_reducible refine' giv_sls ?s0 ?_); (case s0 => (first | assumption | decide | omega | (show _ ≤ 16777216; omega) | (show _ < 16777216; omega) | (simp only [List.length_append, List.length_cons, List.length_nil, List.length_replicate, List.length_map, List.length_take, List.length_drop, List.length_dropLast]; first | omega | (show _ ≤ 16777216; omega))))) | with_reducible refine giv_sll ?_ | ((with_reducible refine' giv_lens ?s0 ?_); (case s0 => (first | assumption | decide | omega | (show _ ≤ 16777216; omega) | (show _ < 16777216; omega) | (simp only [List.length_append, List.length_cons, List.length_nil, List.length_replicate, List.length_map, List.length_take, List.length_drop, List.length_dropLast]; first | omega | (show _ ≤ 16777216; omega))))) | ((with_reducible refine' giv_revs ?s0 ?_); (case s0 => (first | assumption | decide | omega | (show _ ≤ 16777216; omega) | (show _ < 16777216; omega) | (simp only [List.length_append, List.length_cons, List.length_nil, List.length_replicate, List.length_map, List.length_take, List.length_drop, List.length_dropLast]; first | omega | (show _ ≤ 16777216; omega))))) | ((with_reducible refine' giv_sldT ?s0 ?s1 ?_); (case s0 => (first | assumption | decide | omega)); (case s1 => (first | assumption | decide | omega))) | ((with_reducible refine' giv_sltT ?s0 ?s1 ?_); (case s0 => (first | assumption | decide | omega)); (case s1 => (first | assumption | decide | omega))) | with_reducible refine giv_A ?_ | with_reducible refine giv_tup ?_ | with_reducible refine giv_tupt ?_ | ((with_reducible refine' giv_str ?s0 ?_); (case s0 => (first | assumption | decide | omega))) | with_reducible refine giv_strN ?_ | with_reducible refine giv_strS ?_ | ((with_reducible refine' giv_at ?s0 ?_); (case s0 => (rfl))) | with_reducible refine giv r_add1 ?_ | with_reducible refine giv r_sub ?_ | with_reducible refine giv r_lt ?_ | with_reducible refine giv r_lts ?_ | with_reducible refine giv r_le ?_ | with_reducible refine giv r_gt ?_ | with_reducible refine giv r_ge ?_ | with_reducible refine giv r_eqi ?_ | with_reducible refine giv r_eqs ?_ | with_reducible refine giv r_eqb ?_ | with_reducible refine giv r_nei ?_ | with_reducible refine giv r_nes ?_ | with_reducible refine giv r_neb ?_ | with_reducible refine giv r_isb ?_ | with_reducible refine giv r_ntb ?_ | with_reducible refine giv r_ins ?_ | with_reducible refine giv r_nis ?_ | with_reducible refine giv r_neg ?_ | with_reducible refine giv r_len2 ?_ | with_reducible refine giv r_len3 ?_ | with_reducible refine giv r_int1 ?_ | with_reducible refine giv r_fFind ?_ | with_reducible refine giv r_rev1 ?_ | with_reducible refine giv r_fIsi1 ?_ | with_reducible refine giv r_fIsi2 ?_ | with_reducible refine giv r_fIsi3 ?_ | with_reducible refine giv r_fIsi4 ?_ | with_reducible refine giv r_fIsi5 ?_ | with_reducible refine giv r_fIsi6 ?_ | with_reducible refine giv r_min2 ?_ | with_reducible refine giv r_max2 ?_ | with_reducible refine giv r_min3 ?_ | with_reducible refine giv r_isn1 ?_ | with_reducible refine giv r_isn2 ?_ | with_reducible refine giv r_isn3 ?_ | with_reducible refine giv r_isn4 ?_ | with_reducible refine giv r_isn5 ?_ | with_reducible refine giv r_ntn1 ?_ | with_reducible refine giv r_ntn2 ?_ | with_reducible refine giv r_ntn3 ?_ | with_reducible refine giv r_ntn4 ?_ | with_reducible refine giv r_ntn5 ?_ | with_reducible refine giv r_eqn1 ?_ | with_reducible refine giv r_eqn2 ?_ | with_reducible refine giv q_isi_tuple_non ?_ | with_reducible refine giv q_isi_tuple_bl ?_ | with_reducible refine giv q_isi_tuple_int ?_ | with_reducible refine giv q_isi_tuple_str ?_ | with_reducible refine giv q_isi_tuple_lst ?_ | with_reducible refine giv q_isi_tuple_tup ?_ | with_reducible refine giv q_isi_list_non ?_ | with_reducible refine giv q_isi_list_bl ?_ | with_reducible refine giv q_isi_list_int ?_ | with_reducible refine giv q_isi_list_str ?_ | with_reducible refine giv q_isi_list_lst ?_ | with_reducible refine giv q_isi_list_tup ?_ | with_reducible refine giv q_isi_str_non ?_ | with_reducible refine giv q_isi_str_bl ?_ | with_reducible refine giv q_isi_str_int ?_ | with_reducible refine giv q_isi_str_str ?_ | with_reducible refine giv q_isi_str_lst ?_ | with_reducible refine giv q_isi_str_tup ?_ | with_reducible refine giv q_isi_int_non ?_ | with_reducible refine giv q_isi_int_bl ?_ | with_reducible refine giv q_isi_int_int ?_ | with_reducible refine giv q_isi_int_str ?_ | with_reducible refine giv q_isi_int_lst ?_ | with_reducible refine giv q_isi_int_tup ?_ | with_reducible refine giv q_isi_bool_non ?_ | with_reducible refine giv q_isi_bool_bl ?_ | with_reducible refine giv q_isi_bool_int ?_ | with_reducible refine giv q_isi_bool_str ?_ | with_reducible refine giv q_isi_bool_lst ?_ | with_reducible refine giv q_isi_bool_tup ?_ | ((with_reducible refine' giv ?s0 ?_); (case s0 => (first | exact (rfl : _ = some (D.bl true)) | exact (rfl : _ = some (D.bl false))))) | ((with_reducible refine' giv_ixs_all ?s0 ?s1 ?s2 ?_); (case s0 => (first | assumption | decide | omega | (show _ ≤ 16777216; omega) | (show _ < 16777216; omega) | (simp only [List.length_append, List.length_cons, List.length_nil, List.length_replicate, List.length_map, List.length_take, List.length_drop, List.length_dropLast]; first | omega | (show _ ≤ 16777216; omega)))); (case s1 => (first | assumption | decide | omega)); (case s2 => (first | assumption | (refine Int.lt_of_lt_of_le (by assumption) ?_; decide) | (show _ < (_ : Int); omega) | (simp only [List.length_append, List.length_cons, List.length_nil]; omega))); intro _ _))) | ((with_reducible refine gBrn ?_); (first | with_reducible refine brn_t ?_ | with_reducible refine brn_f ?_ | with_reducible refine brn_nT ?_ | with_reducible refine brn_nF ?_ | with_reducible refine brn_nn ?_ | ((with_reducible refine' brn_dt ?s0 ?_); (case s0 => decide)) | ((with_reducible refine' brn_df ?s0 ?_); (case s0 => decide)) | ((with_reducible refine' brn_nt ?s0 ?_); (case s0 => decide)) | ((with_reducible refine' brn_nf ?s0 ?_); (case s0 => decide)))) | ((with_reducible refine gFv ?_); (first | ((with_reducible refine' fv_nextE ?s0 ?s1 ?_); (case s0 => assumption); (case s1 => (first | assumption | decide | omega)); intro _ _ _ _ _; (try dsimp only [puts, put, agI, outsOf, slOf, List.set_cons_zero, List.set_cons_succ, List.getElem?_cons_zero, List.getElem?_cons_succ, wipeR, backR, Option.getD_some, stl])) | ((with_reducible refine' fv_drawE ?s0 ?_); (case s0 => assumption); intro _ _) | with_reducible refine fv_signs ?_ | (walk_at "fn"))) | with_reducible refine ret_z ?_ | with_reducible refine ret_r ?_ | ((with_reducible refine' ret_b ?s0 ?_); (case s0 => (rfl))) | ((with_reducible refine' see2 ?s0 ?s1 ?_); (case s0 => (rfl)); (case s1 => (rfl))) | ((with_reducible refine' see1 ?s0 ?_); (case s0 => (rfl))) | ((with_reducible refine' sees ?s0 ?_); (case s0 => (rfl))) | with_reducible refine isI ?_ | with_reducible refine isB ?_ | with_reducible refine isBD ?_ | ((with_reducible refine' frzs' ?s0 (And.intro ?s1 ?_)); (case s0 => rfl); (case s1 => (first | decide | simp)); (try dsimp only [puts, put, agI, outsOf, slOf, List.set_cons_zero, List.set_cons_succ, List.getElem?_cons_zero, List.getElem?_cons_succ, wipeR, backR, Option.getD_some, stl])) | ((with_reducible refine' arg ?s0 ?s1 ?s2 ?_); (case s0 => (rfl)); (case s1 => (rfl)); (case s2 => (first | exact List.nodup_nil | exact nodup1 | simp [agI])); (try dsimp only [puts, put, agI, outsOf, slOf, List.set_cons_zero, List.set_cons_succ, List.getElem?_cons_zero, List.getElem?_cons_succ, wipeR, backR, Option.getD_some, stl])) | ((with_reducible refine' ex_asg ?s0 ?_); (case s0 => (first | rfl | assumption)); (try dsimp only [puts, put, agI, outsOf, slOf, List.set_cons_zero, List.set_cons_succ, List.getElem?_cons_zero, List.getElem?_cons_succ, wipeR, backR, Option.getD_some, stl])) | ((with_reducible refine' ex_asg' ?s0 ?_); (case s0 => (first | rfl | assumption)); (try dsimp only [puts, put, agI, outsOf, slOf, List.set_cons_zero, List.set_cons_succ, List.getElem?_cons_zero, List.getElem?_cons_succ, wipeR, backR, Option.getD_some, stl])) | ((with_reducible refine' ex_asg'' ?s0 ?_); (case s0 => (rfl)); (try dsimp only [puts, put, agI, outsOf, slOf, List.set_cons_zero, List.set_cons_succ, List.getElem?_cons_zero, List.getElem?_cons_succ, wipeR, backR, Option.getD_some, stl])) | ((with_reducible refine' ex_asgT ?s0 ?_); (case s0 => (rfl)); (try dsimp only [puts, put, agI, outsOf, slOf, List.set_cons_zero, List.set_cons_succ, List.getElem?_cons_zero, List.getElem?_cons_succ, wipeR, backR, Option.getD_some, stl])) | ((with_reducible refine' nbw_z ?_); (try dsimp only [puts, put, agI, outsOf, slOf, List.set_cons_zero, List.set_cons_succ, List.getElem?_cons_zero, List.getElem?_cons_succ, wipeR, backR, Option.getD_some, stl])) | ((with_reducible refine' nbw_r ?_); (try dsimp only [puts, put, agI, outsOf, slOf, List.set_cons_zero, List.set_cons_succ, List.getElem?_cons_zero, List.getElem?_cons_succ, wipeR, backR, Option.getD_some, stl])) | with_reducible refine add2_i ?_ | ((with_reducible refine' add2_s ?s0 ?_); (case s0 => (first | assumption | decide | omega | (show _ ≤ 16777216; omega) | (show _ < 16777216; omega) | (simp only [List.length_append, List.length_cons, List.length_nil, List.length_replicate, List.length_map, List.length_take, List.length_drop, List.length_dropLast]; first | omega | (show _ ≤ 16777216; omega))))) | ((with_reducible refine' add2_l ?s0 ?_); (case s0 => (first | assumption | decide | omega | (show _ ≤ 16777216; omega) | (show _ < 16777216; omega) | (simp only [List.length_append, List.length_cons, List.length_nil, List.length_replicate, List.length_map, List.length_take, List.length_drop, List.length_dropLast]; first | omega | (show _ ≤ 16777216; omega))))) | ((with_reducible refine' add2_t ?s0 ?_); (case s0 => (first | assumption | decide | omega | (show _ ≤ 16777216; omega) | (show _ < 16777216; omega) | (simp only [List.length_append, List.length_cons, List.length_nil, List.length_replicate, List.length_map, List.length_take, List.length_drop, List.length_dropLast]; first | omega | (show _ ≤ 16777216; omega))))) | ((with_reducible refine' own_at ?s0 (And.intro ?s1 ?_)); (case s0 => rfl); (case s1 => exact ⟨_, by assumption⟩); intro _ _; (try dsimp only [puts, put, agI, outsOf, slOf, List.set_cons_zero, List.set_cons_succ, List.getElem?_cons_zero, List.getElem?_cons_succ, wipeR, backR, Option.getD_some, stl])) | ((with_reducible refine gSv ?_); (first | with_reducible refine sv_asg_s ?_ | with_reducible refine sv_nx_s ?_ | with_reducible refine sv_if_s ?_ | with_reducible refine sv_ret_s ?_ | with_reducible refine sv_seq_s ?_ | with_reducible refine sv_drop_s ?_ | ((with_reducible refine' sv_app_s ?s0 ?_); (case s0 => (rfl))) | ((with_reducible refine' sv_app_l ?s0 ?_); (case s0 => (rfl))) | with_reducible refine sv_asg_l ?_ | with_reducible refine sv_if_l ?_ | with_reducible refine sv_ret_l ?_ | with_reducible refine sv_nx ?_ | with_reducible refine sv_asgT_s ?_ | with_reducible refine sv_asgT_l ?_ | with_reducible refine sv_set4_s ?_))))
local macro_rules | `(tactic| walk_at "s2") => `(tactic| (first | ((with_reducible refine gEv ?_); (first | ((with_reducible refine' ev_tAnd_d ?s0 ?s1 ?_); (case s0 => (intro Q q; walk_at "g"; (first | exact q | exact toD_n q | exact toD_t q | exact toD_f q | exact toD_b q))); (case s1 => (intro hp Q q; walk_at "g"; (first | exact q | exact toD_n q | exact toD_t q | exact toD_f q | exact toD_b q)))) | ((with_reducible refine' ev_tOr_d ?s0 ?s1 ?_); (case s0 => (intro Q q; walk_at "g"; (first | exact q | exact toD_n q | exact toD_t q | exact toD_f q | exact toD_b q))); (case s1 => (intro hp Q q; walk_at "g"; (first | exact q | exact toD_n q | exact toD_t q | exact toD_f q | exact toD_b q)))) | with_reducible refine ev_c ?_ | ((with_reducible refine' ev_vd ?s0 ?_); (case s0 => (rfl))) | ((with_reducible refine' ev_vo ?s0 ?_); (case s0 => (rfl))) | ((with_reducible refine' ev_vi ?s0 ?_); (case s0 => (rfl))) | with_reducible refine ev_bin ?_ | with_reducible refine ev_add ?_ | with_reducible refine ev_un ?_ | with_reducible refine ev_anil ?_ | with_reducible refine ev_acons ?_ | with_reducible refine ev_blt ?_ | with_reducible refine ev_met ?_ | with_reducible refine ev_ono ?_ | with_reducible refine ev_osome ?_ | with_reducible refine ev_sl ?_ | with_reducible refine ev_tup ?_ | with_reducible refine ev_lst ?_ | with_reducible refine ev_tE ?_ | with_reducible refine ev_tyes ?_ | with_reducible refine ev_tAnd ?_ | with_reducible refine ev_tOr ?_ | with_reducible refine ev_tNot ?_ | with_reducible refine ev_eAnd ?_ | with_reducible refine ev_eOr ?_ | with_reducible refine ev_eNot ?_ | with_reducible refine ev_eIf ?_ | with_reducible refine ev_chain ?_ | with_reducible refine ev_call ?_)) | ((with_reducible refine gGiv ?_); (first | ((with_reducible refine' giv_mod ?s0 ?_); (case s0 => (first | assumption | decide | omega | (show _ ≤ 16777216; omega) | (show _ < 16777216; omega) | (simp only [List.length_append, List.length_cons, List.length_nil, List.length_replicate, List.length_map, List.length_take, List.length_drop, List.length_dropLast]; first | omega | (show _ ≤ 16777216; omega))))) | ((with_reducible refine' giv_div ?s0 ?_); (case s0 => (first | assumption | decide | omega | (show _ ≤ 16777216; omega) | (show _ < 16777216; omega) | (simp only [List.length_append, List.length_cons, List.length_nil, List.length_replicate, List.length_map, List.length_take, List.length_drop, List.length_dropLast]; first | omega | (show _ ≤ 16777216; omega))))) | ((with_reducible refine' giv_mul ?s0 ?_); (case s0 => (first | assumption | exact cMul_r (by decide) | exact cMul_r (by omega)))) | ((with_reducible refine' giv_muls ?s0 ?_); (case s0 => (first | assumption | decide | omega | (show _ ≤ 16777216; omega) | (show _ < 16777216; omega) | (simp only [List.length_append, List.length_cons, List.length_nil, List.length_replicate, List.length_map, List.length_take, List.length_drop, List.length_dropLast]; first | omega | (show _ ≤ 16777216; omega))))) | ((with_reducible refine' giv_adds ?s0 ?_); (case s0 => (first | assumption | decide | omega | (show _ ≤ 16777216; omega) | (show _ < 16777216; omega) | (simp only [List.length_append, List.length_cons, List.length_nil, List.length_replicate, List.length_map, List.length_take, List.length_drop, List.length_dropLast]; first | omega | (show _ ≤ 16777216; omega))))) | ((with_reducible refine' giv_addl ?s0 ?_); (case s0 => (first | assumption | decide | omega | (show _ ≤ 16777216; omega) | (show _ < 16777216; omega) | (simp only [List.length_append, List.length_cons, List.length_nil, List.length_replicate, List.length_map, List.length_take, List.length_drop, List.length_dropLast]; first | omega | (show _ ≤ 16777216; omega))))) | ((with_reducible refine' giv_ixl ?s0 ?_); (case s0 => (first | assumption | rfl | exact atI_zero))) | ((with_reducible refine' giv_ixt ?s0 ?_); (case s0 => (first | assumption | rfl | exact atI_zero))) | ((with_reducible refine' giv_ixs ?s0 ?s1 ?_); (case s0 => (first | assumption | decide | omega | (show _ ≤ 16777216; omega) | (show _ < 16777216; omega) | (simp only [List.length_append, List.length_cons, List.length_nil, List.length_replicate, List.length_map, List.length_take, List.length_drop, List.length_dropLast]; first | omega | (show _ ≤ 16777216; omega)))); (case s1 => (first | assumption | rfl))) | ((with_reducible refine' giv_dr4 ?s0 ?_); (case s0 => (assumption))) | ((with_reducible refine' giv_slm1 ?s0 ?_); (case s0 => (first | assumption | decide | omega | (show _ ≤ 16777216; omega) | (show _ < 16777216; omega) | (simp only [List.length_append, List.length_cons, List.length_nil, List.length_replicate, List.length_map, List.length_take, List.length_drop, List.length_dropLast]; first | omega | (show _ ≤ 16777216; omega))))) | ((with_reducible refine' giv_slt ?s0 ?s1 ?_); (case s0 => (first | assumption | decide | omega | (show _ ≤ 16777216; omega) | (show _ < 16777216; omega) | (simp only [List.length_append, List.length_cons, List.length_nil, List.length_replicate, List.length_map, List.length_take, List.length_drop, List.length_dropLast]; first | omega | (show _ ≤ 16777216; omega)))); (case s1 => (first | assumption | decide | omega))) | ((with_reducible refine' giv_sld ?s0 ?s1 ?_); (case s0 => (first | assumption | decide | omega | (show _ ≤ 16777216; omega) | (show _ < 16777216; omega) | (simp only [List.length_append, List.length_cons, List.length_nil, List.length_replicate, List.length_map, List.length_take, List.length_drop, List.length_dropLast]; first | omega | (show _ ≤ 16777216; omega)))); (case s1 => (first | assumption | decide | omega))) | ((with_reducible refine' giv_slm ?s0 ?s1 ?s2 ?_); (case s0 => (first | assumption | decide | omega | (show _ ≤ 16777216; omega) | (show _ < 16777216; omega) | (simp only [List.length_append, List.length_cons, List.length_nil, List.length_replicate, List.length_map, List.length_take, List.length_drop, List.length_dropLast]; first | omega | (show _ ≤ 16777216; omega)))); (case s1 => (first | assumption | decide | omega)); (case s2 => (first | assumption | decide | omega))) | ((with_reducible refine' giv_sltl ?s0 ?_); (case s0 => (first | assumption | decide | omega))) | ((with_reducible refine' giv_sldl ?s0 ?_); (case s0 => (first | assumption | decide | omega))) | ((with_reducible refine' giv_sls ?s0 ?_); (case s0 => (first | assumption | decide | omega | (show _ ≤ 16777216; omega) | (show _ < 16777216; omega) | (simp only [List.length_append, List.length_cons, List.length_nil, List.length_replicate, List.length_map, List.length_take, List.length_drop, List.length_dropLast]; first | omega | (show _ ≤ 16777216; omega))))) | with_reducible refine giv_sll ?_ | ((with_reducible refine' giv_lens ?s0 ?_); (case s0 => (first | assumption | decide | omega | (show _ ≤ 16777216; omega) | (show _ < 16777216; omega) | (simp only [List.length_append, List.length_cons, List.length_nil, List.length_replicate, List.length_map, List.length_take, List.length_drop, List.length_dropLast]; first | omega | (show _ ≤ 16777216; omega))))) | ((with_reducible refine' giv_revs ?s0 ?_); (case s0 => (first | assumption | decide | omega | (show _ ≤ 16777216; omega) | (show _ < 16777216; omega) | (simp only [List.length_append, List.length_cons, List.length_nil, List.length_replicate, List.length_map, List.length_take, List.length_drop, List.length_dropLast]; first | omega | (show _ ≤ 16777216; omega))))) | ((with_reducible refine' giv_sldT ?s0 ?s1 ?_); (case s0 => (first | assumption | decide | omega)); (case s1 => (first | assumption | decide | omega))) | ((with_reducible refine' giv_sltT ?s0 ?s1 ?_); (case s0 => (first | assumption | decide | omega)); (case s1 => (first | assumption | decide | omega))) | with_reducible refine giv_A ?_ | with_reducible refine giv_tup ?_ | with_reducible refine giv_tupt ?_ | ((with_reducible refine' giv_str ?s0 ?_); (case s0 => (first | assumption | decide | omega))) | with_reducible refine giv_strN ?_ | with_reducible refine giv_strS ?_ | ((with_reducible refine' giv_at ?s0 ?_); (case s0 => (rfl))) | with_reducible refine giv r_add1 ?_ | with_reducible refine giv r_sub ?_ | with_reducible refine giv r_lt ?_ | with_reducible refine giv r_lts ?_ | with_reducible refine giv r_le ?_ | with_reducible refine giv r_gt ?_ | with_reducible refine giv r_ge ?_ | with_reducible refine giv r_eqi ?_ | with_reducible refine giv r_eqs ?_ | with_reducible refine giv r_eqb ?_ | with_reducible refine giv r_nei ?_ | with_reducible refine giv r_nes ?_ | with_reducible refine giv r_neb ?_ | with_reducible refine giv r_isb ?_ | with_reducible refine giv r_ntb ?_ | with_reducible refine giv r_ins ?_ | with_reducible refine giv r_nis ?_ | with_reducible refine giv r_neg ?_ | with_reducible refine giv r_len2 ?_ | with_reducible refine giv r_len3 ?_ | with_reducible refine giv r_int1 ?_ | with_reducible refine giv r_fFind ?_ | with_reducible refine giv r_rev1 ?_ | with_reducible refine giv r_fIsi1 ?_ | with_reducible refine giv r_fIsi2 ?_ | with_reducible refine giv r_fIsi3 ?_ | with_reducible refine giv r_fIsi4 ?_ | with_reducible refine giv r_fIsi5 ?_ | with_reducible refine giv r_fIsi6 ?_ | with_reducible refine giv r_min2 ?_ | with_reducible refine giv r_max2 ?_ | with_reducible refine giv r_min3 ?_ | with_reducible refine giv r_isn1 ?_ | with_reducible refine giv r_isn2 ?_ | with_reducible refine giv r_isn3 ?_ | with_reducible refine giv r_isn4 ?_ | with_reducible refine giv r_isn5 ?_ | with_reducible refine giv r_ntn1 ?_ | with_reducible refine giv r_ntn2 ?_ | with_reducible refine giv r_ntn3 ?_ | with_reducible refine giv r_ntn4 ?_ | with_reducible refine giv r_ntn5 ?_ | with_reducible refine giv r_eqn1 ?_ | with_reducible refine giv r_eqn2 ?_ | with_reducible refine giv q_isi_tuple_non ?_ | with_reducible refine giv q_isi_tuple_bl ?_ | with_reducible refine giv q_isi_tuple_int ?_ | with_reducible refine giv q_isi_tuple_str ?_ | with_reducible refine giv q_isi_tuple_lst ?_ | with_reducible refine giv q_isi_tuple_tup ?_ | with_reducible refine giv q_isi_list_non ?_ | with_reducible refine giv q_isi_list_bl ?_ | with_reducible refine giv q_isi_list_int ?_ | with_reducible refine giv q_isi_list_str ?_ | with_reducible refine giv q_isi_list_lst ?_ | with_reducible refine giv q_isi_list_tup ?_ | with_reducible refine giv q_isi_str_non ?_ | with_reducible refine giv q_isi_str_bl ?_ | with_reducible refine giv q_isi_str_int ?_ | with_reducible refine giv q_isi_str_str ?_ | with_reducible refine giv q_isi_str_lst ?_ | with_reducible refine giv q_isi_str_tup ?_ | with_reducible refine giv q_isi_int_non ?_ | with_reducible refine giv q_isi_int_bl ?_ | with_reducible refine giv q_isi_int_int ?_ | with_reducible refine giv q_isi_int_str ?_ | with_reducible refine giv q_isi_int_lst ?_ | with_reducible refine giv q_isi_int_tup ?_ | with_reducible refine giv q_isi_bool_non ?_ | with_reducible refine giv q_isi_bool_bl ?_ | with_reducible refine giv q_isi_bool_int ?_ | with_reducible refine giv q_isi_bool_str ?_ | with_reducible refine giv q_isi_bool_lst ?_ | with_reducible refine giv q_isi_bool_tup ?_ | ((with_reducible refine' giv ?s0 ?_); (case s0 => (first | exact (rfl : _ = some (D.bl true)) | exact (rfl : _ = some (D.bl false))))) | ((with_reducible refine' giv_ixs_all ?s0 ?s1 ?s2 ?_); (case s0 => (first | assumption | decide | omega | (show _ ≤ 16777216; omega) | (show _ < 16777216; omega) | (simp only [List.length_append, List.length_cons, List.length_nil, List.length_replicate, List.length_map, List.length_take, List.length_drop, List.length_dropLast]; first | omega | (show _ ≤ 16777216; omega)))); (case s1 => (first | assumption | decide | omega)); (case s2 => (first | assumption | (refine Int.lt_of_lt_of_le (by assumption) ?_; decide) | (show _ < (_ : Int); omega) | (simp only [List.length_append, List.length_cons, List.length_nil]; omega))); intro _ _))) | ((with_reducible refine gBrn ?_); (first | with_reducible refine brn_t ?_ | with_reducible refine brn_f ?_ | with_reducible refine brn_nT ?_ | with_reducible refine brn_nF ?_ | with_reducible refine brn_nn ?_ | ((with_reducible refine' brn_dt ?s0 ?_); (case s0 => decide)) | ((with_reducible refine' brn_df ?s0 ?_); (case s0 => decide)) | ((with_reducible refine' brn_nt ?s0 ?_); (case s0 => decide)) | ((with_reducible refine' brn_nf ?s0 ?_); (case s0 => decide)))) | ((with_reducible refine gFv ?_); (first | ((with_reducible refine' fv_nextE ?s0 ?s1 ?_); (case s0 => assumption); (case s1 => (first | assumption | decide | omega)); intro _ _ _ _ _; (try dsimp only [puts, put, agI, outsOf, slOf, List.set_cons_zero, List.set_cons_succ, List.getElem?_cons_zero, List.getElem?_cons_succ, wipeR, backR, Option.getD_some, stl])) | ((with_reducible refine' fv_drawE ?s0 ?_); (case s0 => assumption); intro _ _) | with_reducible refine fv_signs ?_ | (walk_at "fn"))) | with_reducible refine ret_z ?_ | with_reducible refine ret_r ?_ | ((with_reducible refine' ret_b ?s0 ?_); (case s0 => (rfl))) | ((with_reducible refine' see2 ?s0 ?s1 ?_); (case s0 => (rfl)); (case s1 => (rfl))) | ((with_reducible refine' see1 ?s0 ?_); (case s0 => (rfl))) | ((with_reducible refine' sees ?s0 ?_); (case s0 => (rfl))) | with_reducible refine isI ?_ | with_reducible refine isB ?_ | with_reducible refine isBD ?_ | ((with_reducible refine' frzs' ?s0 (And.intro ?s1 ?_)); (case s0 => rfl); (case s1 => (first | decide | simp)); (try dsimp only [puts, put, agI, outsOf, slOf, List.set_cons_zero, List.set_cons_succ, List.getElem?_cons_zero, List.getElem?_cons_succ, wipeR, backR, Option.getD_some, stl])) | ((with_reducible refine' arg ?s0 ?s1 ?s2 ?_); (case s0 => (rfl)); (case s1 => (rfl)); (case s2 => (first | exact List.nodup_nil | exact nodup1 | simp [agI])); (try dsimp only [puts, put, agI, outsOf, slOf, List.set_cons_zero, List.set_cons_succ, List.getElem?_cons_zero, List.getElem?_cons_succ, wipeR, backR, Option.getD_some, stl])) | ((with_reducible refine' ex_asg ?s0 ?_); (case s0 => (first | rfl | assumption)); (try dsimp only [puts, put, agI, outsOf, slOf, List.set_cons_zero, List.set_cons_succ, List.getElem?_cons_zero, List.getElem?_cons_succ, wipeR, backR, Option.getD_some, stl])) | ((with_reducible refine' ex_asg' ?s0 ?_); (case s0 => (first | rfl | assumption)); (try dsimp only [puts, put, agI, outsOf, slOf, List.set_cons_zero, List.set_cons_succ, List.getElem?_cons_zero, List.getElem?_cons_succ, wipeR, backR, Option.getD_some, stl])) | ((with_reducible refine' ex_asg'' ?s0 ?_); (case s0 => (rfl)); (try dsimp only [puts, put, agI, outsOf, slOf, List.set_cons_zero, List.set_cons_succ, List.getElem?_cons_zero, List.getElem?_cons_succ, wipeR, backR, Option.getD_some, stl])) | ((with_reducible refine' ex_asgT ?s0 ?_); (case s0 => (rfl)); (try dsimp only [puts, put, agI, outsOf, slOf, List.set_cons_zero, List.set_cons_succ, List.getElem?_cons_zero, List.getElem?_cons_succ, wipeR, backR, Option.getD_some, stl])) | ((with_reducible refine' nbw_z ?_); (try dsimp only [puts, put, agI, outsOf, slOf, List.set_cons_zero, List.set_cons_succ, List.getElem?_cons_zero, List.getElem?_cons_succ, wipeR, backR, Option.getD_some, stl])) | ((with_reducible refine' nbw_r ?_); (try dsimp only [puts, put, agI, outsOf, slOf, List.set_cons_zero, List.set_cons_succ, List.getElem?_cons_zero, List.getElem?_cons_succ, wipeR, backR, Option.getD_some, stl])) | with_reducible refine add2_i ?_ | ((with_reducible refine' add2_s ?s0 ?_); (case s0 => (first | assumption | decide | omega | (show _ ≤ 16777216; omega) | (show _ < 16777216; omega) | (simp only [List.length_append, List.length_cons, List.length_nil, List.length_replicate, List.length_map, List.length_take, List.length_drop, List.length_dropLast]; first | omega | (show _ ≤ 16777216; omega))))) | ((with_reducible refine' add2_l ?s0 ?_); (case s0 => (first | assumption | decide | omega | (show _ ≤ 16777216; omega) | (show _ < 16777216; omega) | (simp only [List.length_append, List.length_cons, List.length_nil, List.length_replicate, List.length_map, List.length_take, List.length_drop, List.length_dropLast]; first | omega | (show _ ≤ 16777216; omega))))) | ((with_reducible refine' add2_t ?s0 ?_); (case s0 => (first | assumption | decide | omega | (show _ ≤ 16777216; omega) | (show _ < 16777216; omega) | (simp only [List.length_append, List.length_cons, List.length_nil, List.length_replicate, List.length_map, List.length_take, List.length_drop, List.length_dropLast]; first | omega | (show _ ≤ 16777216; omega))))) | ((with_reducible refine' own_at ?s0 (And.intro ?s1 ?_)); (case s0 => rfl); (case s1 => exact ⟨_, by assumption⟩); intro _ _; (try dsimp only [puts, put, agI, outsOf, slOf, List.set_cons_zero, List.set_cons_succ, List.getElem?_cons_zero, List.getElem?_cons_succ, wipeR, backR, Option.getD_some, stl])) | ((with_reducible refine gSv ?_); (first | with_reducible refine sv_asg_s ?_ | with_reducible refine sv_nx_s ?_ | with_reducible refine sv_ret_s ?_ | with_reducible refine sv_seq_s ?_ | with_reducible refine sv_drop_s ?_ | ((with_reducible refine' sv_app_s ?s0 ?_); (case s0 => (rfl))) | ((with_reducible refine' sv_app_l ?s0 ?_); (case s0 => (rfl))) | with_reducible refine sv_asg_l ?_ | with_reducible refine sv_if_l ?_ | with_reducible refine sv_ret_l ?_ | with_reducible refine sv_nx ?_ | with_reducible refine sv_asgT_s ?_ | with_reducible refine sv_asgT_l ?_ | with_reducible refine sv_set4_s ?_))))
local macro_rules | `(tactic| walk_at "b") => `(tactic| (first | ((with_reducible refine' giv_ixl_all ?s0 ?s1 ?_); (case s0 => (first | assumption | decide | omega)); (case s1 => (first | assumption | (refine Int.lt_of_lt_of_le (by assumption) ?_; decide) | (show _ < (_ : Int); omega) | (simp only [List.length_append, List.length_cons, List.length_nil]; omega))); repeat' (first | exact all_nil | refine all_cons ?_ ?_)) | ((with_reducible refine brn_d ?_ ?_) <;> intro _ <;> (first | (exfalso; omega) | skip)) | ((with_reducible refine brn_nd ?_ ?_) <;> intro _ <;> (first | (exfalso; omega) | skip)) | ((with_reducible refine brn_c ?_ ?_) <;> intro _ <;> (first | (exfalso; omega) | contradiction | (subst_vars; contradiction) | skip))))
local macro_rules | `(tactic| walk_at "n") => `(tactic| (try dsimp only [puts, put, agI, outsOf, slOf, List.map, List.set_cons_zero, List.set_cons_succ, List.getElem?_cons_zero, List.getElem?_cons_succ, wipeR, backR, Option.getD_some, List.replicate, List.cons_append, List.nil_append, List.append_eq, List.append_nil, Nat.reduceSub, FEnd, Ret, noBw, stl]))
local macro_rules | `(tactic| walk_at "g") => `(tactic| (repeat (walk_at "s1")))
local macro_rules | `(tactic| walk_at "gS") => `(tactic| (repeat (walk_at "s2")))
local macro_rules | `(tactic| walk_at "x") => `(tactic| (repeat' (first | (walk_at "s1") | (walk_at "b"))))
local macro_rules | `(tactic| walk_at "xS") => `(tactic| (repeat' (first | (walk_at "s2") | (walk_at "b"))))
noncomputable def Ltr (L : List Nat) : Prop := L.length = 3 ∧ L.Sublist SGN
theorem fv_lettersE {xs : List D} {e : Int} {Q : Vl → List (List D) → Prop} (h : DrE e xs) (q : ∀ cs ys, Ltr cs → DrE e ys → Q (.fz (.str cs)) [ys]) : Fv lawLetters [.li xs] Q := by
  refine fv_fn rfl ?_
  walk_at "n"
  unfold lawLettersB
  walk_at "gS"
  refine sv_if_s ?_
  walk_at "g"
  refine brn_d (fun z => ?_) (fun z => sv_nx_s ?_)
  · walk_at "g"
    walk_at "n"
    exact q _ _ ⟨rfl, by decide⟩ (by assumption)
  refine sv_if_s ?_
  walk_at "g"
  refine brn_d (fun z => ?_) (fun z => sv_nx_s ?_)
  · walk_at "g"
    walk_at "n"
    exact q _ _ ⟨rfl, by decide⟩ (by assumption)
  refine sv_if_s ?_
  walk_at "g"
  refine brn_d (fun z => ?_) (fun z => sv_nx_s ?_)
  · walk_at "g"
    walk_at "n"
    exact q _ _ ⟨rfl, by decide⟩ (by assumption)
  walk_at "gS"
  rename_i r0 ys0 _ _ _ _ _ f ys1 f0 f1 h1 s ys2 s0 s1 h2 t ys3 t0 t1 h3
  have ns : (f + 1 + s) % 96 ≠ f := by omega
  have nt : (f + 1 + t) % 96 ≠ f := by omega
  have rs : 0 ≤ (f + 1 + s) % 96 ∧ (f + 1 + s) % 96 < 96 := by omega
  have rt : 0 ≤ (f + 1 + t) % 96 ∧ (f + 1 + t) % 96 < 96 := by omega
  generalize (f + 1 + s) % 96 = s' at ns rs ⊢
  generalize (f + 1 + t) % 96 = t' at nt rt ⊢
  refine sv_then (fun ρ => ∃ z : Int, ρ = [.io ys3, .d (.int r0), .d (.str SGN), .d (.int f), .d (.int s'), .d (.int z), .no] ∧ 0 ≤ z ∧ z < 96 ∧ z ≠ s' ∧ (z = f → (s' + 1) % 96 = f)) ?_ ?_
  · walk_at "g"
    refine brn_d (fun z => ?_) (fun z => ?_)
    · walk_at "g"; exact ⟨_, rfl, by omega, by omega, by omega, fun z => by omega⟩
    · walk_at "g"; exact ⟨_, rfl, by omega, by omega, by omega, fun z => by omega⟩
  rintro ρ ⟨z, rfl, z0, z1, z2, z3⟩
  refine sv_then (fun ρ => ∃ z : Int, ρ = [.io ys3, .d (.int r0), .d (.str SGN), .d (.int f), .d (.int s'), .d (.int z), .no] ∧ 0 ≤ z ∧ z < 96 ∧ z ≠ s' ∧ z ≠ f) ?_ ?_
  · walk_at "g"
    refine brn_d (fun y => ?_) (fun y => ?_)
    · walk_at "g"; exact ⟨_, rfl, by omega, by omega, by have := z3 y; omega, by omega⟩
    · walk_at "g"; exact ⟨_, rfl, by omega, by omega, by omega, by omega⟩
  rintro ρ ⟨z, rfl, z0, z1, z2, z3⟩
  obtain ⟨cs, hl, ec, hm⟩ := let_comp (f := f.toNat) (s := s'.toNat) (t := z.toNat) (io := ys3) (c := .int r0) (by omega) (by omega) (by omega) (by omega) (by omega) (by omega)
  rw [show ((f.toNat : Nat) : Int) = f by omega, show ((s'.toNat : Nat) : Int) = s' by omega, show ((z.toNat : Nat) : Int) = z by omega] at ec
  have ej := join_signs (cs := cs) (by rw [hl]; decide)
  walk_at "g"
  refine ev_eq ec ?_
  walk_at "g"
  refine giv ej ?_
  walk_at "g"
  walk_at "n"
  exact q _ _ ⟨hl, hm⟩ h3
theorem ev_make {c : PySem.Str} {g : List D → Option (List PySem.Str × List D)} {ms : M (List Vl)} {ρ : Rho} {Q : Vl → Rho → Prop}
    (h : Ev ms ρ fun rs ρ1 => ∃ xs ρ2 ks ys, frzs ρ1 rs = some (xs, ρ2) ∧ g xs = some (ks, ys) ∧ Q (.fz (.obj c ks ys)) ρ2) : Ev (eMake c g ms) ρ Q := by
  obtain ⟨rs, ρ1, e1, xs, ρ2, ks, ys, e2, e3, q⟩ := h
  refine ⟨_, ρ2, ?_, q⟩
  unfold eMake
  rw [e1]
  show (frzs ρ1 rs).bind _ = _
  rw [e2]
  show (g xs).bind _ = _
  rw [e3]
  rfl
theorem giv_at {c f : PySem.Str} {ks : List PySem.Str} {xs : List D} {z : D} {Q : D → Prop} (h : (ks.zip xs).lookup f = some z) (q : Q z) : Giv (fAt c f (.obj c ks xs)) Q := by
  refine giv ?_ q
  unfold fAt
  dsimp only
  rw [if_pos rfl]
  exact h
theorem intsD_none {ts : List (List Nat)} (h : ts ≠ []) : intsD (ts.map D.str) = none := by
  cases ts with
  | nil => exact absurd rfl h
  | cons t ts => rfl
theorem sortD_strs {ts : List (List Nat)} (h : ts.length < 64) : sortD (ts.map D.str) = some ((sortT ts).map D.str) := by
  by_cases e : ts = []
  · subst e; unfold sortD intsD sortT sortI; simp [intsD]
  · unfold sortD
    rw [intsD_none e]
    dsimp only
    rw [strsOf_map]
    show (if _ then _ else _) = _
    rw [if_pos h]
theorem ev_sorted {ms : M (List Vl)} {ρ : Rho} {Q : Vl → Rho → Prop} (h : Ev ms ρ fun rs ρ1 => ∃ r xs ys, rs = [r] ∧ look ρ1 r = some (.lst xs) ∧ sortD xs = some ys ∧ Q (.fr ys) ρ1) : Ev (eSorted ms) ρ Q := by
  obtain ⟨rs, ρ1, e1, r, xs, ys, rfl, e2, e3, q⟩ := h
  refine ⟨_, ρ1, ?_, q⟩
  unfold eSorted
  rw [e1]
  show (look ρ1 r).bind _ = _
  rw [e2]
  show (sortD xs).bind _ = _
  rw [e3]
  rfl
/-- comprehensions whose source may freeze a list -/
theorem ev_lcfR {α : Type} {ρ ρ1 : Rho} {v : Nat} {src : M (List D)} {t : M Bool} {e : M Vl} {Q : Vl → Rho → Prop} (xs : List α) (d : α → D) (p : α → Bool) (h : α → D)
    (hv : plainSl ρ1[v]? = true) (hl : xs.length ≤ lim) (hs : ∀ {Q' : List D → Rho → Prop}, Q' (xs.map d) ρ1 → Ev src ρ Q')
    (ht : ∀ x ∈ xs, ∀ {Q' : Bool → Rho → Prop}, Q' (p x) (ρ1.set v (.d (d x))) → Ev t (ρ1.set v (.d (d x))) Q')
    (he : ∀ x ∈ xs, p x = true → ∀ {Q' : Vl → Rho → Prop}, Q' (.fz (h x)) (ρ1.set v (.d (d x))) → Ev e (ρ1.set v (.d (d x))) Q')
    (q : Q (.fr ((xs.filter p).map h)) ρ1) : Ev (eLc [v] src (gN v) t e) ρ Q := by
  have hvl := plain_io hv
  refine ev_lc (fun i acc ρ' => acc = ((xs.take i).filter p).map h ∧ ρ' = ρ1.set v .no) (hs ?_)
  refine ⟨by simp only [List.all_cons, hv, List.all_nil]; rfl, ⟨by simp, rfl⟩, ?_, ?_⟩
  · rintro i y hy acc ρ' ⟨rfl, rfl⟩
    rw [List.getElem?_map] at hy
    cases hi : xs[i]? with
    | none => rw [hi] at hy; cases hy
    | some x =>
      rw [hi] at hy
      cases hy
      have hx := List.mem_of_getElem? hi
      have hi' : i < xs.length := (List.getElem?_eq_some_iff.mp hi).1
      refine ⟨ρ1.set v (.d (d x)), ?_, ht x hx ?_⟩
      · show asg v (.fz (d x)) _ = _
        rw [asg_z (by rw [List.getElem?_set_self hvl]; rfl), List.set_set]
      · refine ⟨fun hp => he x hx hp ⟨h x, _, rfl, ?_, ?_, ?_⟩, fun hp => ⟨?_, ?_⟩⟩
        · rw [List.length_map]
          have := List.length_filter_le p (xs.take i)
          rw [List.length_take] at this
          omega
        · rw [take_s hi, List.filter_append, List.map_append]; simp [hp]
        · show (ρ1.set v (.d (d x))).set v .no = _
          rw [List.set_set]
        · rw [take_s hi, List.filter_append, List.map_append]; simp [hp]
        · show (ρ1.set v (.d (d x))).set v .no = _
          rw [List.set_set]
  · rintro acc ρ' ⟨rfl, rfl⟩
    rw [List.length_map, List.take_length]
    show Q _ ((ρ1.set v .no).set v ((ρ1[v]?).getD .no))
    rw [set_back hv]
    exact q
theorem ev_lcmR {α : Type} {ρ ρ1 : Rho} {v : Nat} {src : M (List D)} {e : M Vl} {Q : Vl → Rho → Prop} (xs : List α) (d : α → D) (h : α → D)
    (hv : plainSl ρ1[v]? = true) (hl : xs.length ≤ lim) (hs : ∀ {Q' : List D → Rho → Prop}, Q' (xs.map d) ρ1 → Ev src ρ Q')
    (he : ∀ x ∈ xs, ∀ {Q' : Vl → Rho → Prop}, Q' (.fz (h x)) (ρ1.set v (.d (d x))) → Ev e (ρ1.set v (.d (d x))) Q')
    (q : Q (.fr (xs.map h)) ρ1) : Ev (eLc [v] src (gN v) tYesM e) ρ Q :=
  ev_lcfR xs d (fun _ => true) h hv hl hs (fun x _ Q' q => ev_tyes q) (fun x hx _ => he x hx) (by rw [List.filter_eq_self.mpr (fun _ _ => rfl)]; exact q)
/-- a comprehension whose items are drawn (the draw stands in slot 0) -/
theorem ev_lc_draw {e0 : Int} {ρ1 : Rho} {v : Nat} {src : M (List D)} {e : M Vl} {Q : Vl → Rho → Prop} (xs : List D) (P : D → Prop) {ys0 : List D} (hd : DrE e0 ys0) (hv : plainSl ρ1[v]? = true) (hl : xs.length ≤ lim)
    (hs : ∀ {Q' : List D → Rho → Prop}, Q' xs (.io ys0 :: ρ1) → Ev src (.io ys0 :: ρ1) Q')
    (he : ∀ x ∈ xs, ∀ ys, DrE e0 ys → ∀ {Q' : Vl → Rho → Prop}, (∀ z ys', P z → DrE e0 ys' → Q' (.fz z) (.io ys' :: ρ1.set v (.d x))) → Ev e (.io ys :: ρ1.set v (.d x)) Q')
    (q : ∀ (zs ys : List D), zs.length = xs.length → (∀ z ∈ zs, P z) → DrE e0 ys → Q (.fr zs) (.io ys :: ρ1)) : Ev (eLc [v + 1] src (gN (v + 1)) tYesM e) (.io ys0 :: ρ1) Q := by
  have hvl := plain_io hv
  refine ev_lc (fun i acc ρ' => ∃ ys, acc.length = i ∧ (∀ z ∈ acc, P z) ∧ DrE e0 ys ∧ ρ' = .io ys :: ρ1.set v .no) (hs ?_)
  refine ⟨by simp only [List.all_cons, List.getElem?_cons_succ, hv, List.all_nil]; rfl, ⟨ys0, rfl, fun _ h => absurd h List.not_mem_nil, hd, rfl⟩, ?_, ?_⟩
  · rintro i x hx acc ρ' ⟨ys, hl', hp, hd, rfl⟩
    have hxm := List.mem_of_getElem? hx
    have hi' : i < xs.length := (List.getElem?_eq_some_iff.mp hx).1
    refine ⟨.io ys :: ρ1.set v (.d x), ?_, ev_tyes (brn_t (he x hxm ys hd fun z ys' hz hd' => ⟨z, _, rfl, by omega, ys', by simp [hl'], ?_, hd', ?_⟩))⟩
    · show asg (v + 1) (.fz x) (.io ys :: ρ1.set v .no) = _
      rw [asg_z (by rw [List.getElem?_cons_succ, List.getElem?_set_self hvl]; rfl), List.set_cons_succ, List.set_set]
    · intro y hy
      rcases List.mem_append.mp hy with h | h
      · exact hp y h
      · rw [List.mem_singleton.mp h]; exact hz
    · show (Sl.io ys' :: ρ1.set v (.d x)).set (v + 1) .no = _
      rw [List.set_cons_succ, List.set_set]
  · rintro acc ρ' ⟨ys, hl', hp, hd, rfl⟩
    show Q _ ((Sl.io ys :: ρ1.set v .no).set (v + 1) (((Sl.io ys0 :: ρ1)[v + 1]?).getD .no))
    rw [List.getElem?_cons_succ, List.set_cons_succ, set_back hv]
    exact q acc ys hl' hp hd
end Sw
namespace Sw
open PySem PySem.Spec PyProof.Rows L2
end Sw
namespace Sw
open PySem PySem.Spec PyProof.Rows L2
noncomputable def xAny (f : PySem.Str → Option Bool) : List PySem.Str → Option Bool
  | [] => some false
  | k :: ks => match f k with
    | some true => some true
    | some false => xAny f ks
    | none => none
/-- the tuple's classes, one by one -/
inductive KitL (K : PySem.W.Frag) (D : Addr) (f : PySem.Str → Option Bool) : List PySem.Str → List Value → Prop where
  | nil : KitL K D f [] []
  | cons {k : PySem.Str} {ks : List PySem.Str} {u : Value} {us : List Value} (h : ∀ b, f k = some b → PySem.W.kitOne K (.ref D) u = some b) (r : KitL K D f ks us) : KitL K D f (k :: ks) (u :: us)
theorem KitL.ok {K : Kx} {D : Addr} {f : PySem.Str → Option Bool} : ∀ {ks : List PySem.Str} {us : List Value}, KitL K D f ks us → ∀ b, xAny f ks = some b → PySem.W.kitAny K (.ref D) us = some b
  | _, _, .nil, b, h => by
    unfold xAny at h
    cases h
    rfl
  | _, _, .cons h r, b, e => by
    unfold xAny at e
    split at e
    · rename_i z
      cases e
      exact kitAny_cons (h _ z) (fun q => nomatch q) fun _ => rfl
    · rename_i z
      exact kitAny_cons (h _ z) (fun _ => r.ok b e) fun q => nomatch q
    · cases e
end Sw
namespace Sw
open L2
end Sw
namespace Sw
open PySem PySem.Spec PyProof.Rows L2
end Sw
namespace Sw
open PySem PySem.Spec PyProof.Rows L2 PySem.W
end Sw
namespace Sw
open PySem PySem.Spec PyProof.Rows L2
/-- an instance of c without an attribute m of its own -/
noncomputable def isOb (c m : PySem.Str) : Vl → Bool
  | .fz (.obj c' ks _) => decide (c' = c) && !ks.contains m
  | _ => false
noncomputable def eMeth (c m : PySem.Str) (f : Fn) (mo : M Vl) (ms : M (List Vl)) : M Vl := fun ρ => (mo ρ).bind fun p => if isOb c m p.1 = true then eCall f [] (aCons (fun _ => some p) ms) ρ else none
section
variable {X : Cx} {e o : Expr} {es : List Expr} {mo : M Vl} {ms : M (List Vl)} {f : Fn} {c m : PySem.Str} {C g : Addr} {pos apos : Pos} {fd : FuncData} {ps : List Str} {k n : Nat}
noncomputable def eProp (c : PySem.Str) (f : Fn) (mo : M Vl) : M Vl := eMeth c PySem.Str.empty f mo aNil
end
section
variable {X : Cx} {f : Fn} {c : PySem.Str} {C g : Addr} {fd : FuncData} {ps : List Str} {k n : Nat} {pins : List (Addr × Obj)} {σ : L2.St} {H : Hp} {s : Shared} {Q : VK}
noncomputable def isOf (c : PySem.Str) : D → Bool
  | .obj c' _ _ => decide (c' = c)
  | _ => false
noncomputable def fOwn2 (c : PySem.Str) (f : Fn) : D → D → Option D := fun x y => if (isOf c x && isOf c y) = true then (f [.da x, .da y]).bind fun r => match r.1 with
  | .fz z => some z
  | _ => none else none
noncomputable def fOwn1 (c : PySem.Str) (f : Fn) : D → Option D := fun x => if isOf c x = true then (f [.da x]).bind fun r => match r.1 with
  | .fz z => some z
  | _ => none else none
noncomputable def notL : D → Bool
  | .lst _ => false
  | _ => true
noncomputable def fOwnIn (c : PySem.Str) (f : Fn) (neg : Bool) : D → D → Option D := fun x y => if (isOf c y && notL x) = true then (f [.da y, .da x]).bind fun r => match r.1 with
  | .fz (.bl b) => some (.bl (b != neg))
  | _ => none else none
end
noncomputable def fIsC (c : PySem.Str) : D → Option D
  | .obj c' _ _ => if c' = c then some (.bl true) else none
  | _ => some (.bl false)
end Sw
namespace Sw
open PySem PySem.Spec PyProof.Rows L2
end Sw
namespace Sw
open L2
section
variable {ρ : Rho} {c m : PySem.Str} {f : Fn} {mo : M Vl} {ms : M (List Vl)} {Q : Vl → Rho → Prop}
theorem ev_meth (h : Ev mo ρ fun r ρ1 => ∃ x, r = .fz x ∧ isOb c m (.fz x) = true ∧ Ev (eCall f [] (aCons (eC x) ms)) ρ1 Q) : Ev (eMeth c m f mo ms) ρ Q := by
  obtain ⟨r, ρ1, e1, x, rfl, hb, r2, ρ2, e2, q⟩ := h
  refine ⟨r2, ρ2, ?_, q⟩
  unfold eMeth
  rw [e1]
  show (if isOb c m (.fz x) = true then _ else none) = _
  rw [if_pos hb]
  exact e2
theorem ev_prop (h : Ev mo ρ fun r ρ1 => ∃ x, r = .fz x ∧ isOb c PySem.Str.empty (.fz x) = true ∧ Ev (eCall f [] (aCons (eC x) aNil)) ρ1 Q) : Ev (eProp c f mo) ρ Q := ev_meth h
end
section
variable {c : PySem.Str} {f : Fn} {x y : D} {Q : D → Prop} {g h : D → D → Option D}
theorem giv_own2 (hx : isOf c x = true) (hy : isOf c y = true) (q : Fv f [.da x, .da y] fun r _ => ∃ z, r = .fz z ∧ Q z) : Giv (fOwn2 c f x y) Q := by
  obtain ⟨r, os, e, z, rfl, q⟩ := q
  refine ⟨z, ?_, q⟩
  unfold fOwn2
  rw [hx, hy, if_pos (show (true && true) = true from rfl), e]
  rfl
theorem giv_own1 (hx : isOf c x = true) (q : Fv f [.da x] fun r _ => ∃ z, r = .fz z ∧ Q z) : Giv (fOwn1 c f x) Q := by
  obtain ⟨r, os, e, z, rfl, q⟩ := q
  refine ⟨z, ?_, q⟩
  unfold fOwn1
  rw [if_pos hx, e]
  rfl
theorem giv_ownIn {neg : Bool} (hy : isOf c y = true) (hx : notL x = true) (q : Fv f [.da y, .da x] fun r _ => ∃ b, r = .fz (.bl b) ∧ Q (.bl (b != neg))) : Giv (fOwnIn c f neg x y) Q := by
  obtain ⟨r, os, e, b, rfl, q⟩ := q
  refine ⟨_, ?_, q⟩
  unfold fOwnIn
  rw [hx, hy, if_pos (show (true && true) = true from rfl), e]
  rfl
theorem giv_orl (h1 : Giv (g x y) Q) : Giv (orF g h x y) Q := by
  obtain ⟨z, e, q⟩ := h1
  exact ⟨z, by unfold orF; rw [e], q⟩
theorem giv_orr (h0 : g x y = none) (h1 : Giv (h x y) Q) : Giv (orF g h x y) Q := by
  obtain ⟨z, e, q⟩ := h1
  exact ⟨z, by unfold orF; rw [h0]; exact e, q⟩
theorem giv_isC {ks : List PySem.Str} {xs : List D} (q : Q (.bl true)) : Giv (fIsC c (.obj c ks xs)) Q := giv (by show (if c = c then _ else _) = _; rw [if_pos rfl]) q
theorem isOf_obj {ks : List PySem.Str} {xs : List D} : isOf c (.obj c ks xs) = true := by unfold isOf; exact decide_eq_true rfl
end
theorem obp {c m : PySem.Str} {x : D} {P : D → Prop} (h : isOb c m (.fz x) = true) (q : P x) : ∃ x', Vl.fz x = .fz x' ∧ isOb c m (.fz x') = true ∧ P x' := ⟨x, rfl, h, q⟩
theorem isOb_obj {c m : PySem.Str} {ks : List PySem.Str} {xs : List D} (h : ks.contains m = false) : isOb c m (.fz (.obj c ks xs)) = true := by
  show (decide (c = c) && !ks.contains m) = true
  rw [h, decide_eq_true rfl]
  rfl
theorem fzp {x : D} {P : D → Prop} (q : P x) : ∃ z, Vl.fz x = .fz z ∧ P z := ⟨x, rfl, q⟩
theorem fbp {b : Bool} {P : Bool → Prop} (q : P b) : ∃ z, Vl.fz (.bl b) = .fz (.bl z) ∧ P z := ⟨b, rfl, q⟩
end Sw
namespace Sw
open PySem PySem.Spec PyProof.Rows L2
end Sw
namespace Sw
open PySem PySem.Spec PyProof.Rows L2
end Sw
namespace Sw
open PySem PySem.Spec PyProof.Rows L2
end Sw
namespace Sw
open PySem PySem.Spec PyProof.Rows L2
end Sw
namespace Sw
open PySem PySem.Spec PyProof.Rows L2
end Sw
namespace Sw
open PySem PySem.Spec PyProof.Rows L2
end Sw
namespace Sw
open PySem PySem.Spec PyProof.Rows L2
theorem FpOk.up {X : Cx} {pins : List (Addr × Obj)} {H : Hp} {c p : Addr} {o : HO} (h : FpOk X pins H c) (n : c ≠ p) : FpOk X pins (upd H p o) c := ⟨by rw [upd_ne n]; exact h.1, h.2⟩
end Sw
namespace Sw
open PySem PySem.Spec PyProof.Rows L2
section
variable {X : Cx} {f : Fn} {c : PySem.Str} {C g : Addr} {fd : FuncData} {ps : List Str} {k n : Nat} {a b : Expr} {ma mb : M Vl} {pos : Pos}
noncomputable def IxO (X : Cx) (b : Expr) (r : R2) : Prop :=
  ∀ (value : Expr) (pins : List (Addr × Obj)) (s : Shared) (σ : L2.St) (H : Hp) (x y : V) (v u : Value) (Q : VK), Inv X pins σ H s → RelV x v → RelV y u → r x y H Q →
    wpAny (model X.prog X.w) X.A (subscriptTail value b v u) (EP X pins σ Q) X.xe s
theorem IxO.of {r : R2} (h : IxR X r) (hs : PlainIx b) : IxO X b r := fun value pins s σ H x y v u Q I rx ry q => h value b pins s σ H x y v u Q I rx ry q (hs _ _)
theorem IxO.or {r r' : R2} (h : IxO X b r) (h' : IxO X b r') : IxO X b (fun x y H Q => r x y H Q ∨ r' x y H Q) := by
  intro value pins s σ H x y v u Q I rx ry q
  rcases q with q | q
  · exact h value pins s σ H x y v u Q I rx ry q
  · exact h' value pins s σ H x y v u Q I rx ry q
end
end Sw
namespace Sw
open PySem PySem.Spec PyProof.Rows L2
end Sw
namespace Sw
open PySem PySem.Spec PyProof.Rows L2
end Sw
namespace Sw
open L2 PySem
end Sw
namespace Sw
open PySem PySem.Spec PyProof.Rows L2
section
variable {K : Kx} {G : Gd} {σ : L2.St} {H P : Hp}
/-- a value stays what it is -/
theorem VlR.ste {ρ1 ρ2 : Rho} {H1 H2 F1 F2 : Hp} {v : V} {r : Vl} (h : VlR K G P ρ1 σ H1 F1 v r) (s : Ste K G ρ1 σ H1 F1 ρ2 H2 F2) : VlR K G P ρ2 σ H2 F2 v r := by
  cases r with
  | fz x => exact (show Rep K F1 v x from h).mono s.ff
  | bw i => exact h
  | fr xs =>
    obtain ⟨a, us, e, h1, h2, h3, h4, h5⟩ := h
    refine ⟨a, us, e, s.kk a _ h1 h5, h2.mono s.ff, ?_, h4, fun i o => (s.oo i a o).elim (h5 i) fun z => by rw [h1] at z; cases z⟩
    cases e2 : F2 a with
    | none => rfl
    | some o =>
      rcases s.nf a (by rw [e2]; simp) with q | q | ⟨i, q⟩
      · exact absurd h3 q
      · rw [h1] at q; cases q
      · exact absurd q (h5 i)
theorem VlR.start {ρ : Rho} {H1 F P' : Hp} {v : V} {r : Vl} (w : ∀ b, P' b ≠ none → P b ≠ none) (h : VlR K G P ρ σ H1 F v r) : VlR K G P' ρ σ H1 F v r := by
  cases r with
  | fz x => exact h
  | bw i => exact h
  | fr xs =>
    obtain ⟨a, us, e, h1, h2, h3, h4, h5⟩ := h
    refine ⟨a, us, e, h1, h2, h3, ?_, h5⟩
    cases e2 : P' a with
    | none => rfl
    | some o => exact absurd h4 (w a (by rw [e2]; simp))
end
section
variable {K : Kx} {G : Gd} {σ : L2.St} {H P : Hp}
theorem ext_lt {α : Type} {xs : List α} {y : α} {i : Nat} (h : i < xs.length) : (xs ++ [y])[i]? = xs[i]? := List.getElem?_append_left h
/-- one more local -/
noncomputable def Gd.up (G : Gd) : Gd := { G with nl := G.nl + 1 }
theorem ow_ext {ρ : Rho} {F : Hp} {a b : Addr} {xs : List D} {i : Nat} (hl : ρ.length = σ.length) (h : Ow K H F (ρ ++ [.ow xs]) (σ ++ [some (.ref a)]) i b) : Ow K H F ρ σ i b ∨ (i = ρ.length ∧ b = a) := by
  rcases h with ⟨⟨ys, h1⟩, h2⟩ | ⟨t, u, L, h1, h2, h3, h4⟩
  rotate_left
  · have hi : i < (σ ++ [some (V.ref a)]).length := (List.getElem?_eq_some_iff.mp h2).1
    rw [List.length_append, List.length_singleton] at hi
    unfold obS at h1
    by_cases h : i < σ.length
    · rw [ext_lt (by omega)] at h1
      rw [ext_lt h] at h2
      exact .inl (.inr ⟨t, u, L, h1, h2, h3, h4⟩)
    · have e : i = ρ.length := by omega
      rw [e, List.getElem?_append_right (Nat.le_refl _), Nat.sub_self] at h1
      rcases h1 with h1 | h1 <;> cases h1
  have hi : i < (σ ++ [some (V.ref a)]).length := (List.getElem?_eq_some_iff.mp h2).1
  rw [List.length_append, List.length_singleton] at hi
  by_cases h : i < σ.length
  · refine .inl (.inl ⟨⟨ys, ?_⟩, ?_⟩)
    · rw [ext_lt (by omega)] at h1; exact h1
    · rw [ext_lt h] at h2; exact h2
  · have e : i = σ.length := by omega
    refine .inr ⟨by omega, ?_⟩
    rw [e, List.getElem?_append_right (Nat.le_refl _), Nat.sub_self] at h2
    cases h2
    rfl
theorem Wd.ext {ρ : Rho} {F : Hp} {a : Addr} {us : List V} {xs : List D} (W : Wd K G ρ σ H F) (h1 : H a = some (.lst us)) (h2 : Reps K F us xs) (h3 : F a = none) (h4 : G.H0 a = none) (h5 : ∀ i, ¬ Ow K H F ρ σ i a) : Wd K G.up (ρ ++ [.ow xs]) (σ ++ [some (.ref a)]) H F where
  len := by rw [List.length_append, List.length_append, W.len]; rfl
  gl := by rw [List.length_append, W.gl]; rfl
  sub := W.sub
  f0 := W.f0
  kp := W.kp
  nw := W.nw
  it := W.it
  sl := fun i s hs => by
    have hi : i < (ρ ++ [Sl.ow xs]).length := (List.getElem?_eq_some_iff.mp hs).1
    rw [List.length_append, List.length_singleton] at hi
    by_cases h : i < ρ.length
    · rw [ext_lt h] at hs
      have es : (σ ++ [some (V.ref a)])[i]? = σ[i]? := ext_lt (by rw [← W.len]; exact h)
      have q := W.sl i s hs
      cases s with
      | no => trivial
      | xa b dx f => exact ⟨by rw [es]; exact q.1, q.2⟩
      | d x => obtain ⟨v, e, r⟩ := q; exact ⟨v, by rw [es]; exact e, r⟩
      | ow ys => obtain ⟨b, vs, e, r⟩ := q; exact ⟨b, vs, by rw [es]; exact e, r⟩
      | io ys => obtain ⟨b, vs, e, r⟩ := q; exact ⟨b, vs, by rw [es]; exact e, r⟩
      | dc ys => obtain ⟨b, vs, e, r⟩ := q; exact ⟨b, vs, by rw [es]; exact e, r⟩
      | ob ys => obtain ⟨b, vs, e, r⟩ := q; exact ⟨b, vs, by rw [es]; exact e, r⟩
      | iob ys => obtain ⟨b, vs, e, r⟩ := q; exact ⟨b, vs, by rw [es]; exact e, r⟩
    · have e : i = ρ.length := by omega
      rw [e, List.getElem?_append_right (Nat.le_refl _), Nat.sub_self] at hs
      cases hs
      refine ⟨a, us, ?_, h1, h2, h3, h4⟩
      rw [e, W.len, List.getElem?_append_right (Nat.le_refl _), Nat.sub_self]
      rfl
  ap := fun i j b o1 o2 => by
    rcases ow_ext W.len o1 with p1 | ⟨e1, q1⟩
    · rcases ow_ext W.len o2 with p2 | ⟨e2, q2⟩
      · exact W.ap i j b p1 p2
      · exact absurd (q2 ▸ p1) (h5 i)
    · rcases ow_ext W.len o2 with p2 | ⟨e2, _⟩
      · exact absurd (q1 ▸ p2) (h5 j)
      · rw [e1, e2]
  ai := fun i b hb => by
    obtain ⟨⟨ys, z1⟩, z2⟩ := W.ai i b hb
    exact ⟨⟨ys, by rw [ext_lt (List.getElem?_eq_some_iff.mp z1).1]; exact z1⟩, by rw [ext_lt (List.getElem?_eq_some_iff.mp z2).1]; exact z2⟩
  ao := fun i b hb => by
    obtain ⟨⟨ys, z1⟩, z2⟩ := W.ao i b hb
    exact ⟨⟨ys, by rw [ext_lt (List.getElem?_eq_some_iff.mp z1).1]; exact z1⟩, by rw [ext_lt (List.getElem?_eq_some_iff.mp z2).1]; exact z2⟩
theorem dl_get {α : Type} {xs : List α} {i : Nat} {x : α} (h : xs.dropLast[i]? = some x) : xs[i]? = some x := by
  rw [List.getElem?_dropLast] at h
  split at h
  · exact h
  · cases h
theorem dl_get' {α : Type} {xs : List α} {i : Nat} (h : i < xs.length - 1) : xs.dropLast[i]? = xs[i]? := by rw [List.getElem?_dropLast, if_pos h]
theorem ow_dl {ρ : Rho} {F : Hp} {a b : Addr} {i : Nat} (h : Ow K H F ρ.dropLast σ i b) : Ow K H F ρ (σ ++ [some (.ref a)]) i b := by
  rcases h with ⟨⟨ys, h1⟩, h2⟩ | ⟨t, u, L, h1, h2, h3, h4⟩
  rotate_left
  · exact .inr ⟨t, u, L, h1.imp dl_get dl_get, by rw [ext_lt (List.getElem?_eq_some_iff.mp h2).1]; exact h2, h3, h4⟩
  refine .inl ⟨⟨ys, h1.imp dl_get (Or.imp dl_get fun ⟨zs, z⟩ => ⟨zs, dl_get z⟩)⟩, ?_⟩
  rw [ext_lt (List.getElem?_eq_some_iff.mp h2).1]
  exact h2
theorem Wd.drop {ρ ρ0 : Rho} {F H0 F0 : Hp} {a : Addr} (W0 : Wd K G ρ0 σ H0 F0) (W : Wd K G.up ρ (σ ++ [some (.ref a)]) H F) : Wd K G ρ.dropLast σ H F where
  len := by have := W.len; rw [List.length_append, List.length_singleton] at this; rw [List.length_dropLast]; omega
  gl := W0.gl
  sub := W.sub
  f0 := W.f0
  kp := W.kp
  nw := W.nw
  it := W.it
  sl := fun i s hs => by
    have q := W.sl i s (dl_get hs)
    have hi : i < ρ.dropLast.length := (List.getElem?_eq_some_iff.mp hs).1
    have hl := W.len
    rw [List.length_append, List.length_singleton] at hl
    rw [List.length_dropLast] at hi
    have es : (σ ++ [some (V.ref a)])[i]? = σ[i]? := ext_lt (by omega)
    cases s with
    | no => trivial
    | xa b dx f => exact ⟨by rw [← es]; exact q.1, q.2⟩
    | d x => obtain ⟨v, e, r⟩ := q; exact ⟨v, by rw [← es]; exact e, r⟩
    | ow ys => obtain ⟨b, vs, e, r⟩ := q; exact ⟨b, vs, by rw [← es]; exact e, r⟩
    | io ys => obtain ⟨b, vs, e, r⟩ := q; exact ⟨b, vs, by rw [← es]; exact e, r⟩
    | dc ys => obtain ⟨b, vs, e, r⟩ := q; exact ⟨b, vs, by rw [← es]; exact e, r⟩
    | ob ys => obtain ⟨b, vs, e, r⟩ := q; exact ⟨b, vs, by rw [← es]; exact e, r⟩
    | iob ys => obtain ⟨b, vs, e, r⟩ := q; exact ⟨b, vs, by rw [← es]; exact e, r⟩
  ap := fun i j b o1 o2 => W.ap i j b (ow_dl o1) (ow_dl o2)
  ai := fun i b hb => by
    obtain ⟨_, z2⟩ := W0.ai i b hb
    obtain ⟨⟨ys, z1⟩, _⟩ := W.ai i b hb
    have hl := W.len
    rw [List.length_append, List.length_singleton] at hl
    have hi := (List.getElem?_eq_some_iff.mp z2).1
    exact ⟨⟨ys, by rw [dl_get' (by omega)]; exact z1⟩, z2⟩
  ao := fun i b hb => by
    obtain ⟨_, z2⟩ := W0.ao i b hb
    obtain ⟨⟨ys, z1⟩, _⟩ := W.ao i b hb
    have hl := W.len
    rw [List.length_append, List.length_singleton] at hl
    have hi := (List.getElem?_eq_some_iff.mp z2).1
    exact ⟨⟨ys, by rw [dl_get' (by omega)]; exact z1⟩, z2⟩
end
end Sw
namespace Sw
open PySem PySem.Spec PyProof.Rows L2
end Sw
namespace Sw
open PySem PySem.Spec PyProof.Rows L2
section
variable {prog : Program} {w : World} {A : Around} {E : Value → Shared → Prop} {s : Shared}
/-- a zip's first field: nothing kept, or the tuple handed out -/
noncomputable def ZF (f0 : Value) : Prop := f0 = .none ∨ ∃ T : Nat, f0 = rawInt (T : Nat)
noncomputable abbrev ZO (h : Heap) (z TI TO : Addr) (f0 : Value) (b : Bool) : Prop := h.get? z = some { cls := .type "zip", dict := none, data := .fields #[f0, .bool b, .bool false, .ref TI, .ref TO], slots := #[] }
/-- the zip of two tuples at turn k, in any of its moods -/
noncomputable def ZS (h : Heap) (z TI TO i1 i2 l1 l2 : Addr) (k : Nat) : Prop :=
  (∃ f0 b, ZF f0 ∧ ZO h z TI TO f0 b) ∧ IsPair h TI (.ref i1) (.ref i2) ∧ (∃ x y, IsPair h TO x y) ∧ h.IsTupleIter i1 l1 k ∧ h.IsTupleIter i2 l2 k
theorem ZS.at {h h' : Heap} {z TI TO i1 i2 l1 l2 : Addr} {k : Nat} (st : ZS h z TI TO i1 i2 l1 l2 k) (kp : ∀ c ∈ [z, TI, TO, i1, i2], ∀ o, h.get? c = some o → h'.get? c = some o) : ZS h' z TI TO i1 i2 l1 l2 k := by
  obtain ⟨⟨f0, b, hf, hz⟩, hTI, ⟨x, y, hTO⟩, h1, h2⟩ := st
  exact ⟨⟨f0, b, hf, kp z (by simp) _ hz⟩, kp TI (by simp) _ hTI, ⟨x, y, kp TO (by simp) _ hTO⟩, h1.at fun o q => kp i1 (by simp) o q, h2.at fun o q => kp i2 (by simp) o q⟩
theorem ZS.lt {h : Heap} {z TI TO i1 i2 l1 l2 : Addr} {k : Nat} (st : ZS h z TI TO i1 i2 l1 l2 k) : ∀ c ∈ [z, TI, TO, i1, i2], c < h.objs.size := fun c hc => by
  obtain ⟨⟨f0, b, hf, hz⟩, hTI, ⟨x, y, hTO⟩, ⟨_, h1, _⟩, ⟨_, h2, _⟩⟩ := st
  have e' : c = z ∨ c = TI ∨ c = TO ∨ c = i1 ∨ c = i2 := by simpa using hc
  rcases e' with q | q | q | q | q
  · rw [q]; exact Heap.lt_size hz
  · rw [q]; exact Heap.lt_size hTI
  · rw [q]; exact Heap.lt_size hTO
  · rw [q]; exact Heap.lt_size h1
  · rw [q]; exact Heap.lt_size h2
end
end Sw
namespace Sw
open PySem PySem.Spec PyProof.Rows L2
/-- a key -/
noncomputable def nkT (d : D) : Option NestedKey := match d with
  | .tup _ => (nkD d).bind fun k => if k.depth ≤ 8 then some k else none
  | _ => none
theorem nkT_some {d : D} {k : NestedKey} (h : nkT d = some k) : (∃ xs, d = .tup xs) ∧ nkD d = some k ∧ k.depth ≤ 8 := by
  unfold nkT at h
  split at h
  · obtain ⟨k', e, h⟩ := Option.bind_eq_some_iff.mp h
    split at h
    · cases h; exact ⟨⟨_, rfl⟩, e, by assumption⟩
    · cases h
  · cases h
/-- what stands under a key -/
noncomputable def dGet (ps : List (D × D)) (k : NestedKey) : Option D := (ps.find? fun p => decide (nkD p.1 = some k)).map (·.2)
noncomputable def dPut (ps : List (D × D)) (kd : D) (k : NestedKey) (v : D) : List (D × D) :=
  if (dGet ps k).isSome = true then ps.map (fun p => if nkD p.1 = some k then (p.1, v) else p) else ps ++ [(kd, v)]
noncomputable def dc? (ρ : Rho) (i : Nat) : Option (List (D × D)) := match ρ[i]? with
  | some (.dc ps) => some ps
  | _ => none
theorem dc?_some {ρ : Rho} {i : Nat} {ps : List (D × D)} (h : dc? ρ i = some ps) : ρ[i]? = some (.dc ps) := by
  unfold dc? at h
  split at h
  · rename_i e; cases h; exact e
  · cases h
section
variable {P : Program} {w : World} {K : Kx} {F H : Hp} {h : Heap}
mutual
theorem nk_val (hok : HOk P w H h) (KX : K.fr.In h) (sub : Same F H) : ∀ {v : V} {d : D} {k : NestedKey} {u : Value}, Rep K F v d → nkD d = some k → RelV v u → NestedIs h k u
  | _, _, _, _, .non, hk, r => by
    cases hk
    obtain rfl : _ = Value.none := r
    exact .none
  | _, _, _, _, .int i, hk, r => by
    cases hk
    obtain ⟨t, rfl⟩ := r
    exact .int i t
  | _, _, _, _, .str s, hk, r => by
    cases hk
    obtain ⟨t, rfl⟩ := r
    exact .text _ t
  | _, _, _, _, .bl b, hk, _ => by simp [nkD] at hk
  | _, _, _, _, .lst _ _, hk, _ => by simp [nkD] at hk
  | _, _, _, _, .scr _, hk, _ => by simp [nkD] at hk
  | _, _, _, _, .obj _ _ _ _, hk, _ => by simp [nkD] at hk
  | _, _, _, _, .tup hq rs, hk, r => by
    rw [nkD] at hk
    obtain ⟨ks, e, rfl⟩ := Option.map_eq_some_iff.mp hk
    obtain rfl : _ = Value.ref _ := r
    obtain ⟨its, o, n, hv, e1, e2, e3⟩ := sqT_at hok KX (same_t sub hq)
    exact .tup e1 e2 e3 (by simpa using nk_vals hok KX sub rs e hv)
theorem nk_vals (hok : HOk P w H h) (KX : K.fr.In h) (sub : Same F H) : ∀ {vs : List V} {ds : List D} {ks : List NestedKey} {us : List Value}, Reps K F vs ds → nkDs ds = some ks → Vals vs us → NestedAll h ks us
  | _, _, _, _, .nil, hk, r => by
    cases hk
    cases r
    exact .nil
  | _, _, _, _, .cons (d := d) (ds := ds) a b, hk, r => by
    rw [nkDs] at hk
    cases e1 : nkD d with
    | none => simp [e1] at hk
    | some k =>
      cases e2 : nkDs ds with
      | none => simp [e1, e2] at hk
      | some ks =>
        simp [e1, e2] at hk
        subst hk
        cases r with
        | cons r1 r2 => exact .cons (nk_val hok KX sub a e1 r1) (nk_vals hok KX sub b e2 r2)
end
theorem DcR.len : ∀ {xs : List (NestedKey × Addr × Value)} {ps : List (D × D)}, DcR K F xs ps → xs.length = ps.length
  | [], [], _ => rfl
  | _ :: _, _ :: _, r => by rw [List.length_cons, List.length_cons, DcR.len r.2]
  | [], _ :: _, r => r.elim
  | _ :: _, [], r => r.elim
theorem DcR.is (hok : HOk P w H h) (KX : K.fr.In h) (sub : Same F H) : ∀ {xs : List (NestedKey × Addr × Value)} {ps : List (D × D)}, DcR K F xs ps → ∀ x ∈ xs, (nestedKind P w).is h x.1 x.2.1
  | [], [], _, x, hx => absurd hx List.not_mem_nil
  | y :: ys, p :: ps, r, x, hx => by
    rcases List.mem_cons.mp hx with rfl | hx
    · exact ⟨nk_val hok KX sub r.1.2.2.1 r.1.1 rfl, r.1.2.1⟩
    · exact DcR.is hok KX sub r.2 x hx
  | [], _ :: _, r, _, _ => r.elim
  | _ :: _, [], r, _, _ => r.elim
theorem dc_ofH {a : Addr} {xs : List (NestedKey × Addr × Value)} {ps : List (D × D)} (hok : HOk P w H h) (KX : K.fr.In h) (sub : Same F H) (e : H a = some (dcO w a xs)) (r : DcR K F xs ps) : h.DictOfH (nestedKind P w) a xs := by
  obtain ⟨⟨o, es, ep, h1, h2, h3, h4, h5⟩, _⟩ := (show ObjOk P w H h a (dcO w a xs) from hok _ _ e)
  exact ⟨o, es, ep, h1, h2, h3, h4, r.is hok KX sub, h5⟩
theorem dc_ok {a : Addr} {xs : List (NestedKey × Addr × Value)} (m : h.DictOfH (nestedKind P w) a xs) : ObjOk P w H h a (dcO w a xs) := by
  obtain ⟨o, es, ep, h1, h2, h3, h4, _, h5⟩ := m
  refine ⟨⟨o, es, ep, h1, h2, h3, h4, h5⟩, ⟨o, h1⟩, fun g1 g2 x k => ?_⟩
  obtain ⟨o, es, ep, h1, h2⟩ := x
  exact ⟨o, es, ep, k o h1, h2⟩
theorem DcR.get : ∀ {xs : List (NestedKey × Addr × Value)} {ps : List (D × D)} (k : NestedKey), DcR K F xs ps → (atKey xs k).isSome = (dGet ps k).isSome ∧ ∀ d, dGet ps k = some d → ∃ b u v, atKey xs k = some (b, u) ∧ RelV v u ∧ Rep K F v d
  | [], [], k, _ => ⟨rfl, fun d h => by simp [dGet] at h⟩
  | x :: xs, p :: ps, k, r => by
    obtain ⟨⟨r1, r2, r3, v, r4, r5⟩, r⟩ := r
    obtain ⟨h1, h2⟩ := DcR.get k r
    by_cases e : x.1 = k
    · have e1 : atKey (x :: xs) k = some x.2 := by simp [atKey, e]
      have e2 : dGet (p :: ps) k = some p.2 := by simp [dGet, r1, e]
      rw [e1, e2]
      exact ⟨rfl, fun d hd => by cases hd; exact ⟨x.2.1, x.2.2, v, rfl, r4, r5⟩⟩
    · have e1 : atKey (x :: xs) k = atKey xs k := by simp [atKey, e]
      have e2 : dGet (p :: ps) k = dGet ps k := by simp [dGet, r1, e]
      rw [e1, e2]
      exact ⟨h1, h2⟩
  | [], _ :: _, _, r => r.elim
  | _ :: _, [], _, r => r.elim
theorem DcR.snoc {k : NestedKey} {b : Addr} {u : Value} {v : V} {kd d : D} (hk : nkD kd = some k) (hd : k.depth ≤ 8) (rk : Rep K F (.ref b) kd) (rv : RelV v u) (r2 : Rep K F v d) : ∀ {xs : List (NestedKey × Addr × Value)} {ps : List (D × D)}, DcR K F xs ps → DcR K F (xs ++ [(k, b, u)]) (ps ++ [(kd, d)])
  | [], [], _ => ⟨⟨hk, hd, rk, v, rv, r2⟩, trivial⟩
  | _ :: _, _ :: _, r => ⟨r.1, DcR.snoc hk hd rk rv r2 r.2⟩
  | [], _ :: _, r => r.elim
  | _ :: _, [], r => r.elim
theorem DcR.repl {k : NestedKey} {u : Value} {v : V} {d : D} (rv : RelV v u) (r2 : Rep K F v d) : ∀ {xs : List (NestedKey × Addr × Value)} {ps : List (D × D)}, DcR K F xs ps → DcR K F (xs.map (putAt k u)) (ps.map fun p => if nkD p.1 = some k then (p.1, d) else p)
  | [], [], _ => trivial
  | x :: xs, p :: ps, r => by
    refine ⟨?_, DcR.repl rv r2 r.2⟩
    obtain ⟨⟨q1, q2, q3, q4⟩, _⟩ := r
    dsimp only
    by_cases e : x.1 = k
    · rw [putAt, if_pos e, if_pos (by rw [q1, e])]
      exact ⟨q1, q2, q3, v, rv, r2⟩
    · rw [putAt, if_neg e, if_neg (by rw [q1]; simpa using e)]
      exact ⟨q1, q2, q3, q4⟩
  | [], _ :: _, r => r.elim
  | _ :: _, [], r => r.elim
theorem DcR.put {k : NestedKey} {b : Addr} {u : Value} {v : V} {kd d : D} {xs : List (NestedKey × Addr × Value)} {ps : List (D × D)} (r : DcR K F xs ps) (hk : nkD kd = some k) (hd : k.depth ≤ 8) (rk : Rep K F (.ref b) kd) (rv : RelV v u) (r2 : Rep K F v d) : DcR K F (storedH xs k b u) (dPut ps kd k d) := by
  unfold storedH dPut
  rw [(r.get k).1]
  by_cases e : (dGet ps k).isSome = true
  · rw [if_pos e, if_pos e]
    exact r.repl rv r2
  · rw [if_neg e, if_neg e]
    exact r.snoc hk hd rk rv r2
theorem dPut_len (ps : List (D × D)) (kd : D) (k : NestedKey) (d : D) : (dPut ps kd k d).length ≤ ps.length + 1 := by
  unfold dPut
  split
  · rw [List.length_map]; omega
  · rw [List.length_append]; exact Nat.le_refl _
end
structure DAt (X : Cx) (H F : Hp) (a : Addr) (xs : List (NestedKey × Addr × Value)) (ps : List (D × D)) : Prop where
  at_ : H a = some (dcO X.w a xs)
  sub : Same F H
  rel : DcR X.kx F xs ps
  sys : (a == sysModules) = false
  len : ps.length ≤ sizeLine
structure KyAt (X : Cx) (F : Hp) (y : V) (kd : D) (k : NestedKey) (b : Addr) : Prop where
  ref : y = .ref b
  rep : Rep X.kx F (.ref b) kd
  key : nkD kd = some k
  dep : k.depth ≤ 8
theorem ky_of {X : Cx} {F : Hp} {y : V} {kd : D} {k : NestedKey} (r : Rep X.kx F y kd) (h : nkT kd = some k) : ∃ b, KyAt X F y kd k b := by
  obtain ⟨⟨xs, rfl⟩, h1, h2⟩ := nkT_some h
  cases r with
  | @tup a us _ r1 r2 => exact ⟨a, rfl, .tup r1 r2, h1, h2⟩
section
variable {X : Cx} {pins : List (Addr × Obj)} {σ : L2.St} {H F : Hp} {s : Shared} {a b : Addr} {xs : List (NestedKey × Addr × Value)} {ps : List (D × D)} {k : NestedKey} {kd : D} {y : V} {u : Value} {A : Around} {E : Value → Shared → Prop}
theorem xd_room (hu : A.units + 16 < cLine) : (nestedKind X.prog X.w).room A.in1 := by
  show A.units + 1 + 8 < cLine
  omega
theorem xd_in {Q : Value → Shared → Prop} (hu : A.units + 16 < cLine) (I : Inv X pins σ H s) (d : DAt X H F a xs ps) (g : KyAt X F y kd k b) (ry : RelV y u) (h : ∀ s', Inv X pins σ H s' → Q (.bool (dGet ps k).isSome) s') :
    wpAny (model X.prog X.w) A (compareOp .In u (.ref a)) Q E s := by
  obtain ⟨rfl, g1, g2, g3⟩ := g
  obtain rfl : u = Value.ref b := ry
  refine wpAny_in_heap (xd_room hu) ⟨nk_val (K := X.kx) I.hok I.kIn d.sub g1 g2 rfl, g3⟩ d.sys (dc_ofH (K := X.kx) I.hok I.kIn d.sub d.at_ d.rel) ?_
  rw [(d.rel.get k).1]
  exact h _ (I.tok _)
theorem xd_notIn {Q : Value → Shared → Prop} (hu : A.units + 16 < cLine) (I : Inv X pins σ H s) (d : DAt X H F a xs ps) (g : KyAt X F y kd k b) (ry : RelV y u) (h : ∀ s', Inv X pins σ H s' → Q (.bool (!(dGet ps k).isSome)) s') :
    wpAny (model X.prog X.w) A (compareOp .NotIn u (.ref a)) Q E s := by
  obtain ⟨rfl, g1, g2, g3⟩ := g
  obtain rfl : u = Value.ref b := ry
  refine wpAny_notIn_heap (xd_room hu) ⟨nk_val (K := X.kx) I.hok I.kIn d.sub g1 g2 rfl, g3⟩ d.sys (dc_ofH (K := X.kx) I.hok I.kIn d.sub d.at_ d.rel) ?_
  rw [(d.rel.get k).1]
  exact h _ (I.tok _)
theorem xd_getItem {d0 : D} {Q : Value → Shared → Prop} (hu : A.units + 16 < cLine) (I : Inv X pins σ H s) (d : DAt X H F a xs ps) (g : KyAt X F y kd k b) (ry : RelV y u) (hg : dGet ps k = some d0)
    (h : ∀ v w' s', Inv X pins σ H s' → RelV v w' → Rep X.kx F v d0 → Q w' s') : wpAny (model X.prog X.w) A (getItem (.ref a) u) Q E s := by
  obtain ⟨rfl, g1, g2, g3⟩ := g
  obtain rfl : u = Value.ref b := ry
  obtain ⟨b', u', v, e, r1, r2⟩ := (d.rel.get k).2 d0 hg
  refine wpAny_getItem_heap (xd_room hu) ⟨nk_val (K := X.kx) I.hok I.kIn d.sub g1 g2 rfl, g3⟩ (dc_ofH (K := X.kx) I.hok I.kIn d.sub d.at_ d.rel) e ?_
  exact h v u' _ (I.tok _) r1 r2
theorem xd_setItem {r : Value} {Q : Unit → Shared → Prop} (hu : A.units + 16 < cLine) (I : Inv X pins σ H s) (d : DAt X H F a xs ps) (g : KyAt X F y kd k b) (ry : RelV y u)
    (h : ∀ s', Inv X pins σ (upd H a (dcO X.w a (storedH xs k b r))) s' → Q () s') : wpAny (model X.prog X.w) A (setItem (.ref a) u r) Q E s := by
  obtain ⟨rfl, g1, g2, g3⟩ := g
  obtain rfl : u = Value.ref b := ry
  have hl : xs.length ≤ sizeLine := by rw [d.rel.len]; exact d.len
  refine wpAny_setItem_heap (hsz := hl) (xd_room hu) ⟨nk_val (K := X.kx) I.hok I.kIn d.sub g1 g2 rfl, g3⟩ (dc_ofH (K := X.kx) I.hok I.kIn d.sub d.at_ d.rel) fun h' hm hs => h _ ?_
  have he : ∃ q, h'.get? a = some q := let ⟨q, _, _, hq, _⟩ := hm; ⟨q, hq⟩
  exact d_write I (by rw [d.at_]; exact True.intro) hs he (dc_ok hm)
end
/-- {} -/
noncomputable def tXNew (w : World) : TE := fun _ H Q => ∀ p, H p = none → (p == sysModules) = false → Q (.ref p) (upd H p (dcO w p []))
noncomputable def tXIn (X : Cx) (ty td : TE) : TE := fun σ H Q => ty σ H fun y H1 => td σ H1 fun x H2 => ∃ F a xs ps kd k b, x = .ref a ∧ DAt X H2 F a xs ps ∧ KyAt X F y kd k b ∧ Q (.bl (dGet ps k).isSome) H2
noncomputable def tXNin (X : Cx) (ty td : TE) : TE := fun σ H Q => ty σ H fun y H1 => td σ H1 fun x H2 => ∃ F a xs ps kd k b, x = .ref a ∧ DAt X H2 F a xs ps ∧ KyAt X F y kd k b ∧ Q (.bl (!(dGet ps k).isSome)) H2
noncomputable def tXGet (X : Cx) (td ty : TE) : TE := fun σ H Q => td σ H fun x H1 => ty σ H1 fun y H2 => ∃ F a xs ps kd k b d0, x = .ref a ∧ DAt X H2 F a xs ps ∧ KyAt X F y kd k b ∧ dGet ps k = some d0 ∧ ∀ v, Rep X.kx F v d0 → Q v H2
noncomputable def sXPut (X : Cx) (td ty tv : TE) : TS := fun D σ H => tv σ H fun v H1 => td σ H1 fun x H2 => ty σ H2 fun y H3 => ∃ F a xs ps kd k b, x = .ref a ∧ DAt X H3 F a xs ps ∧ KyAt X F y kd k b ∧ ∀ r, RelV v r → D.nx σ (upd H3 a (dcO X.w a (storedH xs k b r)))
section
variable {X : Cx} {i o value : Expr} {ty td tv : TE} {pos pos' : Pos}
theorem pe_xnew : PE X (.Dict [] [] pos) (tXNew X.w) := ⟨fun pins s σ H Q I h =>
  wpAny_Dict_empty ⟨.ref s.heap.objs.size, _, I.laid (a := s.heap.objs.size) (o := dcO X.w s.heap.objs.size []) (t' := s.toks) (fun _ _ q => Heap.get?_push_of_some _ q) (Nat.le_refl _) (dc_ok (Heap.DictOfH.new s.heap)), rfl,
    h _ (I.hok.fresh (Nat.le_refl _)) (beq_eq_false_iff_ne.mpr (Ne.symm (Nat.ne_of_lt I.big)))⟩⟩
theorem pc_xin (hu : X.A.units + 16 < cLine) (hi : PE X i ty) (ho : PE X o td) : PC X .In i o (tXIn X ty td) := by
  refine ⟨fun pins s σ H Q I h => ?_⟩
  refine thn (hi.run pins s σ H _ I h) fun iv s1 ⟨y, H1, I1, ry, q1⟩ => thn (ho.run pins s1 σ H1 _ I1 q1) fun u s2 ⟨x, H2, I2, rx, F, a, xs, ps, kd, k, b, ex, d, g, q2⟩ => ?_
  subst ex
  obtain rfl : u = Value.ref a := rx
  exact xd_in hu I2 d g ry fun s3 I3 => ⟨.bl (dGet ps k).isSome, H2, I3, rfl, q2⟩
theorem pc_xnin (hu : X.A.units + 16 < cLine) (hi : PE X i ty) (ho : PE X o td) : PC X .NotIn i o (tXNin X ty td) := by
  refine ⟨fun pins s σ H Q I h => ?_⟩
  refine thn (hi.run pins s σ H _ I h) fun iv s1 ⟨y, H1, I1, ry, q1⟩ => thn (ho.run pins s1 σ H1 _ I1 q1) fun u s2 ⟨x, H2, I2, rx, F, a, xs, ps, kd, k, b, ex, d, g, q2⟩ => ?_
  subst ex
  obtain rfl : u = Value.ref a := rx
  exact xd_notIn hu I2 d g ry fun s3 I3 => ⟨.bl (!(dGet ps k).isSome), H2, I3, rfl, q2⟩
theorem DAt.typeIs {pins : List (Addr × Obj)} {σ : L2.St} {H F : Hp} {s : Shared} {a : Addr} {xs : List (NestedKey × Addr × Value)} {ps : List (D × D)} (I : Inv X pins σ H s) (d : DAt X H F a xs ps) : s.TypeIs (.ref a) "dict" :=
  (dc_ofH (K := X.kx) I.hok I.kIn d.sub d.at_ d.rel).typeIs
theorem pe_xget (hu : X.A.units + 16 < cLine) (ho : PE X o td) (hi : PE X i ty) (hs : NoSl i) : PE X (.Subscript o i pos) (tXGet X td ty) := by
  refine ⟨fun pins s σ H Q I h => ?_⟩
  refine subD_of PySem.F.slot_dict_getitem.lookup hs (thn (ho.run pins s σ H _ I h) fun u s1 ⟨x, H1, I1, rx, q1⟩ => thn (hi.run pins s1 σ H1 _ I1 q1) fun iv s2 ⟨y, H2, I2, ry, F, a, xs, ps, kd, k, b, d0, ex, d, g, hg, q2⟩ => ?_)
  subst ex
  obtain rfl : u = Value.ref a := rx
  exact ⟨d.typeIs I2, xd_getItem hu I2 d g ry hg fun v w' s3 I3 rw' rd => ⟨v, H2, I3, rw', q2 v rd⟩⟩
theorem ps_xput (hu : X.A.units + 16 < cLine) (ho : PE X o td) (hi : PE X i ty) (hv : PE X value tv) (hs : swapsWith value (some (.Subscript o i pos')) pos.line X.env = pure false) :
    PS X (.Assign [.Subscript o i pos'] value pos) (sXPut X td ty tv) := by
  refine ⟨fun pins s σ H D I h => ?_⟩
  refine wpAny_Assign_Subscript (thn (hv.run pins s σ H _ I h) fun r s1 ⟨v, H1, I1, rv, q1⟩ => thn (ho.run pins s1 σ H1 _ I1 q1) fun u s2 ⟨x, H2, I2, rx, q2⟩ => thn (hi.run pins s2 σ H2 _ I2 q2) fun iv s3 ⟨y, H3, I3, ry, F, a, xs, ps, kd, k, b, ex, d, g, q3⟩ => ?_) hs
  subst ex
  obtain rfl : u = Value.ref a := rx
  exact xd_setItem hu I3 d g ry fun s4 I4 => ⟨σ, _, I4, q3 r rv⟩
end
end Sw
namespace Sw
open PySem PySem.Spec PyProof.Rows L2
section
variable {K : Kx} {G : Gd} {ρ : Rho} {σ : L2.St} {H F : Hp}
theorem Wd.dput {i : Nat} {ps ps' : List (D × D)} {a : Addr} {xs' : List (NestedKey × Addr × Value)} (W : Wd K G ρ σ H F) (h : ρ[i]? = some (.dc ps)) (ha : σ[i]? = some (some (.ref a))) (r : DcR K F xs' ps') (hl : ps'.length ≤ sizeLine) :
    Wd K G (ρ.set i (.dc ps')) σ (upd H a (dcO K.w a xs')) F := by
  obtain ⟨a', xs, e, h1, h2, h3, h4, h5, h6⟩ := W.sl i _ h
  rw [ha] at e; cases e
  have hi : i < ρ.length := (List.getElem?_eq_some_iff.mp h).1
  have own : Ow K H F ρ σ i a := .inl ⟨⟨[], .inr (.inr ⟨ps, h⟩)⟩, ha⟩
  have old : ∀ {j : Nat} {b : Addr}, Ow K (upd H a (dcO K.w a xs')) F (ρ.set i (.dc ps')) σ j b → Ow K H F ρ σ j b := fun {j b} o => by
    rcases o with ⟨⟨ys, o1⟩, o2⟩ | ⟨t, u, L, o1, o2, o3, o4⟩
    · by_cases ne : j = i
      · subst ne
        exact .inl ⟨⟨[], .inr (.inr ⟨ps, h⟩)⟩, o2⟩
      · rw [List.getElem?_set_ne (Ne.symm ne)] at o1
        exact .inl ⟨⟨ys, o1⟩, o2⟩
    · unfold obS at o1
      have ne : j ≠ i := fun z => by
        rw [z, List.getElem?_set_self hi] at o1
        rcases o1 with o1 | o1 <;> cases o1
      rw [List.getElem?_set_ne (Ne.symm ne)] at o1
      exact (W.ob_same o1 o2 o3 fun c x oc hc => by
        have nc : c ≠ a := fun z => ne (W.ap j i a (by rw [← z]; exact oc) own)
        rw [upd_ne nc]; exact hc).2 b o4
  refine ⟨by rw [List.length_set]; exact W.len, W.gl, fun b x e => ?_, W.f0, fun b o e q q2 => ?_, W.nw, fun b hb => ?_, fun j s hs => ?_, fun j k b o1 o2 => W.ap j k b (old o1) (old o2), fun j b hb => ?_, fun j b hb => ?_⟩
  · have nb : b ≠ a := fun z => by rw [z, h3] at e; cases e
    rw [upd_ne nb]; exact W.sub _ _ e
  · have nb : b ≠ a := fun z => by rw [z, h4] at e; cases e
    rw [upd_ne nb]; exact W.kp b o e q q2
  · by_cases nb : b = a
    · rw [nb, upd_same]; simp
    · rw [upd_ne nb]; exact W.it b hb
  · by_cases ne : j = i
    · subst ne
      rw [List.getElem?_set_self hi] at hs
      cases hs
      exact ⟨a, xs', ha, upd_same, r, h3, h4, h5, hl⟩
    · rw [List.getElem?_set_ne (Ne.symm ne)] at hs
      have q := W.sl j s hs
      have na : ∀ {c : Addr}, Ow K H F ρ σ j c → c ≠ a := fun {c} o z => ne (W.ap j i a (by rw [← z]; exact o) own)
      cases s with
      | no => trivial
      | xa b dx f => exact q
      | d x => exact q
      | ow ys =>
        obtain ⟨c, us, e, p1, p2⟩ := q
        exact ⟨c, us, e, by rw [upd_ne (na (.inl ⟨⟨ys, .inl hs⟩, e⟩))]; exact p1, p2⟩
      | io ys =>
        obtain ⟨c, us, e, p1, p2⟩ := q
        exact ⟨c, us, e, by rw [upd_ne (na (.inl ⟨⟨ys, .inr (.inl hs)⟩, e⟩))]; exact p1, p2⟩
      | dc ys =>
        obtain ⟨c, us, e, p1, p2⟩ := q
        exact ⟨c, us, e, by rw [upd_ne (na (.inl ⟨⟨[], .inr (.inr ⟨ys, hs⟩)⟩, e⟩))]; exact p1, p2⟩
      | ob t =>
        obtain ⟨u, L, e, r, p⟩ := q
        exact ⟨u, L, e, r.frame (Same.refl _) fun b hb x hx => by rw [upd_ne (na (.inr ⟨t, u, L, .inl hs, e, r, hb⟩))]; exact hx, p⟩
      | iob t =>
        obtain ⟨u, L, e, r, p⟩ := q
        exact ⟨u, L, e, r.frame (Same.refl _) fun b hb x hx => by rw [upd_ne (na (.inr ⟨t, u, L, .inr hs, e, r, hb⟩))]; exact hx, p⟩
  · obtain ⟨⟨ys, z1⟩, z2⟩ := W.ai j b hb
    have ne : j ≠ i := fun z => by rw [z, h] at z1; cases z1
    exact ⟨⟨ys, by rw [List.getElem?_set_ne (Ne.symm ne)]; exact z1⟩, z2⟩
  · obtain ⟨⟨ys, z1⟩, z2⟩ := W.ao j b hb
    have ne : j ≠ i := fun z => by rw [z, h] at z1; cases z1
    exact ⟨⟨ys, by rw [List.getElem?_set_ne (Ne.symm ne)]; exact z1⟩, z2⟩
end
theorem dc_at {X : Cx} {G : Gd} {ρ : Rho} {σ : L2.St} {H F : Hp} {i : Nat} {ps : List (D × D)} (W : Wd X.kx G ρ σ H F) (h : dc? ρ i = some ps) : ∃ a xs, σ[i]? = some (some (.ref a)) ∧ DAt X H F a xs ps := by
  obtain ⟨a, xs, e, h1, h2, _, _, h5, h6⟩ := W.sl i _ (dc?_some h)
  exact ⟨a, xs, e, h1, W.sub, h2, h5, h6⟩
noncomputable def eDIn (i : Nat) (m : M Vl) : M Vl := fun ρ => (m ρ).bind fun p => (frz p.2 (stl p.1)).bind fun q => (dc? q.2 i).bind fun ps => (nkT q.1).bind fun k => some (.fz (.bl (dGet ps k).isSome), q.2)
noncomputable def eDNin (i : Nat) (m : M Vl) : M Vl := fun ρ => (m ρ).bind fun p => (frz p.2 (stl p.1)).bind fun q => (dc? q.2 i).bind fun ps => (nkT q.1).bind fun k => some (.fz (.bl (!(dGet ps k).isSome)), q.2)
noncomputable def eDGet (i : Nat) (m : M Vl) : M Vl := fun ρ => (dc? ρ i).bind fun _ => (m ρ).bind fun p => (frz p.2 (stl p.1)).bind fun q => (dc? q.2 i).bind fun ps => (nkT q.1).bind fun k => (dGet ps k).bind fun d => some (.fz d, q.2)
noncomputable def sDNew (i : Nat) : S := fun ρ => match ρ[i]? with
  | some (.io _) => none
  | some (.iob _) => none
  | none => none
  | some _ => some (.nx, ρ.set i (.dc []))
noncomputable def sDPut (i : Nat) (mk mv : M Vl) : S := fun ρ => (mv ρ).bind fun p => (frz p.2 (stl p.1)).bind fun p1 => (dc? p1.2 i).bind fun _ => (mk p1.2).bind fun p2 => (frz p2.2 (stl p2.1)).bind fun q => (dc? q.2 i).bind fun ps => (nkT q.1).bind fun k =>
  if ps.length < lim then some (.nx, q.2.set i (.dc (dPut ps q.1 k p1.1))) else none
section
variable {X : Cx} {e o ei : Expr} {m mk mv : M Vl} {pos pos' p : Pos} {i : Nat} {Wx : WX}
theorem din_of {σ : L2.St} {H : Hp} {Q : VK} (h : tM X.kx (eDIn i m) σ H Q) : tXIn X (tM X.kx m) (tVar i) σ H Q := by
  obtain ⟨G, ρ, F, r0, ρ', W, hm, q⟩ := h
  unfold eDIn at hm
  obtain ⟨⟨r, ρ1⟩, e1, hm⟩ := Option.bind_eq_some_iff.mp hm
  obtain ⟨⟨kd, ρ2⟩, e2, hm⟩ := Option.bind_eq_some_iff.mp hm
  obtain ⟨ps, e3, hm⟩ := Option.bind_eq_some_iff.mp hm
  obtain ⟨k, e4, hm⟩ := Option.bind_eq_some_iff.mp hm
  cases hm
  refine tm_use W e1 fun v H1 F1 s1 R1 => ?_
  obtain ⟨F2, s2, R2⟩ := frz_ok s1.wd R1 e2
  obtain ⟨a, xs, ha, d⟩ := dc_at s2.wd e3
  obtain ⟨b, g⟩ := ky_of R2 e4
  exact ⟨.ref a, ha, F2, a, xs, ps, kd, k, b, rfl, d, g, q _ _ _ (s1.trans s2) (.bl _)⟩
theorem st_din (hu : X.A.units + 16 < cLine) (he : SE X e m) (ho : PE X o (tVar i)) (hm : behindInMarks .In o = false) : ST X (.Compare e [.In] [o] pos) (tE (eDIn i m)) := pt_weak (pt_cmp (pc_xin hu he ho) hm) fun _ _ _ h => din_of (tb_of h)
theorem dnin_of {σ : L2.St} {H : Hp} {Q : VK} (h : tM X.kx (eDNin i m) σ H Q) : tXNin X (tM X.kx m) (tVar i) σ H Q := by
  obtain ⟨G, ρ, F, r0, ρ', W, hm, q⟩ := h
  unfold eDNin at hm
  obtain ⟨⟨r, ρ1⟩, e1, hm⟩ := Option.bind_eq_some_iff.mp hm
  obtain ⟨⟨kd, ρ2⟩, e2, hm⟩ := Option.bind_eq_some_iff.mp hm
  obtain ⟨ps, e3, hm⟩ := Option.bind_eq_some_iff.mp hm
  obtain ⟨k, e4, hm⟩ := Option.bind_eq_some_iff.mp hm
  cases hm
  refine tm_use W e1 fun v H1 F1 s1 R1 => ?_
  obtain ⟨F2, s2, R2⟩ := frz_ok s1.wd R1 e2
  obtain ⟨a, xs, ha, d⟩ := dc_at s2.wd e3
  obtain ⟨b, g⟩ := ky_of R2 e4
  exact ⟨.ref a, ha, F2, a, xs, ps, kd, k, b, rfl, d, g, q _ _ _ (s1.trans s2) (.bl _)⟩
theorem st_dnin (hu : X.A.units + 16 < cLine) (he : SE X e m) (ho : PE X o (tVar i)) (hm : behindInMarks .NotIn o = false) : ST X (.Compare e [.NotIn] [o] pos) (tE (eDNin i m)) := pt_weak (pt_cmp (pc_xnin hu he ho) hm) fun _ _ _ h => dnin_of (tb_of h)
theorem se_dget (hu : X.A.units + 16 < cLine) (ho : PE X o (tVar i)) (he : SE X e m) (hs : NoSl e) : SE X (.Subscript o e pos) (eDGet i m) := by
  refine pe_weak (pe_xget hu ho he hs) fun σ H Q ⟨G, ρ, F, r0, ρ', W, hm, q⟩ => ?_
  unfold eDGet at hm
  obtain ⟨ps0, e0, hm⟩ := Option.bind_eq_some_iff.mp hm
  obtain ⟨⟨r, ρ1⟩, e1, hm⟩ := Option.bind_eq_some_iff.mp hm
  obtain ⟨⟨kd, ρ2⟩, e2, hm⟩ := Option.bind_eq_some_iff.mp hm
  obtain ⟨ps, e3, hm⟩ := Option.bind_eq_some_iff.mp hm
  obtain ⟨k, e4, hm⟩ := Option.bind_eq_some_iff.mp hm
  obtain ⟨d0, e5, hm⟩ := Option.bind_eq_some_iff.mp hm
  cases hm
  obtain ⟨a0, xs0, ha0, _⟩ := dc_at W e0
  refine ⟨.ref a0, ha0, tm_use W e1 fun v H1 F1 s1 R1 => ?_⟩
  obtain ⟨F2, s2, R2⟩ := frz_ok s1.wd R1 e2
  obtain ⟨a, xs, ha, d⟩ := dc_at s2.wd e3
  rw [ha0] at ha
  cases ha
  obtain ⟨b, g⟩ := ky_of R2 e4
  exact ⟨F2, a0, xs, ps, kd, k, b, d0, rfl, d, g, e5, fun w R => q _ _ _ (s1.trans s2) R⟩
theorem ss_dnew {x : Str} (hN : X.N.Nodup) (hi : X.N[i]? = some x) (hx : Loc X.env.scope x) (hs : swapsWith (.Dict [] [] p) (some (.Name x pos')) pos.line X.env = pure false := by rfl) (hf : X.fn x = true ∨ X.env.scope.names.lookup x = some .local := by first | exact .inl rfl | exact .inr rfl | assumption) :
    SSW X Wx (.Assign [.Name x pos'] (.Dict [] [] p) pos) (sDNew i) := by
  refine ps_weak (ps_set hN hi hx pe_xnew hs hf) fun D σ H ⟨G, ρ, F, fl, ρ', W, hm, q⟩ => ?_
  intro a ha hsys
  unfold sDNew at hm
  split at hm
  · cases hm
  · cases hm
  · cases hm
  · rename_i s0 nio niob h0
    cases hm
    have A : Alc F H F (upd H a (dcO X.w a [])) := ⟨Same.refl _, W.sub.trans (same_upd ha), same_upd ha, fun _ h => .inl h⟩
    have W1 := (W.alc A).wd
    have hiρ : i < ρ.length := (List.getElem?_eq_some_iff.mp h0).1
    have hiσ : i < σ.length := by rw [← W.len]; exact hiρ
    refine q _ _ F (W1.set h0 (fun xs z => nio xs z) (fun _ z => nomatch z) ⟨a, [], List.getElem?_set_self hiσ, upd_same, trivial, W.sub.free ha, W.h0 ha, hsys, Nat.zero_le _⟩ (fun _ _ z => nomatch z) (fun _ b _ z j o => ?_) (nob0 := fun xs z => niob xs z)) (Same.refl _)
    cases z
    exact W.not_ow ha (same_upd ha) j o
theorem ss_dput (hu : X.A.units + 16 < cLine) (ho : PE X o (tVar i)) (hi : SE X ei mk) (hv : SE X e mv) (hs : swapsWith e (some (.Subscript o ei pos')) pos.line X.env = pure false := by rfl) :
    SSW X Wx (.Assign [.Subscript o ei pos'] e pos) (sDPut i mk mv) := by
  refine ps_weak (ps_xput hu ho hi hv hs) fun D σ H ⟨G, ρ, F, fl, ρ', W, hm, q⟩ => ?_
  unfold sDPut at hm
  obtain ⟨⟨r, ρ1⟩, e1, hm⟩ := Option.bind_eq_some_iff.mp hm
  obtain ⟨⟨vd, ρ2⟩, e2, hm⟩ := Option.bind_eq_some_iff.mp hm
  obtain ⟨ps0, e3, hm⟩ := Option.bind_eq_some_iff.mp hm
  obtain ⟨⟨r2, ρ3⟩, e4, hm⟩ := Option.bind_eq_some_iff.mp hm
  obtain ⟨⟨kd, ρ4⟩, e5, hm⟩ := Option.bind_eq_some_iff.mp hm
  obtain ⟨ps, e6, hm⟩ := Option.bind_eq_some_iff.mp hm
  obtain ⟨k, e7, hm⟩ := Option.bind_eq_some_iff.mp hm
  split at hm
  · rename_i hl
    cases hm
    refine tm_use W e1 fun v H1 F1 s1 R1 => ?_
    obtain ⟨F2, s2, R2⟩ := frz_ok s1.wd R1 e2
    obtain ⟨a0, xs0, ha0, _⟩ := dc_at s2.wd e3
    refine ⟨.ref a0, ha0, tm_use s2.wd e4 fun y H3 F3 s3 R3 => ?_⟩
    obtain ⟨F4, s4, R4⟩ := frz_ok s3.wd R3 e5
    obtain ⟨a, xs, ha, d⟩ := dc_at s4.wd e6
    have ha0' := ha0
    rw [ha0] at ha
    cases ha
    obtain ⟨b, g⟩ := ky_of R4 e7
    refine ⟨F4, a0, xs, ps, kd, k, b, rfl, d, g, fun u ru => ?_⟩
    have R2' := (R2.mono s3.ff).mono s4.ff
    have dr := d.rel.put g.key g.dep g.rep ru R2'
    have W5 := s4.wd.dput (dc?_some e6) ha0' dr (by
      have := dPut_len ps kd k vd
      have h1 : sizeLine = 16777216 := sizeLine_eq
      have h2 : lim = 16777216 := rfl
      omega)
    exact q σ _ F4 W5 (((s1.ff.trans s2.ff).trans s3.ff).trans s4.ff)
  · cases hm
end
section
variable {ρ : Rho} {m mk mv : M Vl} {i : Nat} {Q : Vl → Rho → Prop} {QS : Fl → Rho → Prop} {s : S}
theorem ev_din (h : Ev m ρ fun r ρ1 => ∃ kd ρ2 ps k, frz ρ1 (stl r) = some (kd, ρ2) ∧ dc? ρ2 i = some ps ∧ nkT kd = some k ∧ Q (.fz (.bl (dGet ps k).isSome)) ρ2) : Ev (eDIn i m) ρ Q := by
  obtain ⟨r, ρ1, e1, kd, ρ2, ps, k, e2, e3, e4, q⟩ := h
  exact ⟨_, ρ2, by unfold eDIn; simp only [e1, e2, e3, e4, Option.bind_some], q⟩
theorem ev_dnin (h : Ev m ρ fun r ρ1 => ∃ kd ρ2 ps k, frz ρ1 (stl r) = some (kd, ρ2) ∧ dc? ρ2 i = some ps ∧ nkT kd = some k ∧ Q (.fz (.bl (!(dGet ps k).isSome))) ρ2) : Ev (eDNin i m) ρ Q := by
  obtain ⟨r, ρ1, e1, kd, ρ2, ps, k, e2, e3, e4, q⟩ := h
  exact ⟨_, ρ2, by unfold eDNin; simp only [e1, e2, e3, e4, Option.bind_some], q⟩
theorem ev_dget {ps0 : List (D × D)} (h0 : dc? ρ i = some ps0) (h : Ev m ρ fun r ρ1 => ∃ kd ρ2 ps k d, frz ρ1 (stl r) = some (kd, ρ2) ∧ dc? ρ2 i = some ps ∧ nkT kd = some k ∧ dGet ps k = some d ∧ Q (.fz d) ρ2) : Ev (eDGet i m) ρ Q := by
  obtain ⟨r, ρ1, e1, kd, ρ2, ps, k, d, e2, e3, e4, e5, q⟩ := h
  exact ⟨_, ρ2, by unfold eDGet; simp only [h0, e1, e2, e3, e4, e5, Option.bind_some], q⟩
theorem dnew_eq (h : ioQ ρ[i]? = false) : sDNew i ρ = some (.nx, ρ.set i (.dc [])) := by
  unfold sDNew
  cases e : ρ[i]? with
  | none => rw [e] at h; cases h
  | some x => cases x with
    | io xs => rw [e] at h; cases h
    | iob xs => rw [e] at h; cases h
    | _ => rfl
theorem sv_dnew_s (h : ioQ ρ[i]? = false) (q : Sv s (ρ.set i (.dc [])) QS) : Sv (sSeq (sDNew i) s) ρ QS := sv_seq_eq (dnew_eq h) q
theorem sv_dput_s (h : Ev mv ρ fun r ρ1 => ∃ vd ρ2 ps0, frz ρ1 (stl r) = some (vd, ρ2) ∧ dc? ρ2 i = some ps0 ∧ Ev mk ρ2 fun r2 ρ3 => ∃ kd ρ4 ps k, frz ρ3 (stl r2) = some (kd, ρ4) ∧ dc? ρ4 i = some ps ∧ nkT kd = some k ∧ ps.length < lim ∧ Sv s (ρ4.set i (.dc (dPut ps kd k vd))) QS) : Sv (sSeq (sDPut i mk mv) s) ρ QS := by
  obtain ⟨r, ρ1, e1, vd, ρ2, ps0, e2, e3, r2, ρ3, e4, kd, ρ4, ps, k, e5, e6, e7, hl, q⟩ := h
  exact sv_seq_eq (ρ1 := ρ4.set i (.dc (dPut ps kd k vd))) (by unfold sDPut; simp only [e1, e2, e3, e4, e5, e6, e7, Option.bind_some, hl, if_true]) q
end
end Sw
namespace Sw
open PySem PySem.Spec PyProof.Rows L2
/-- the law's promise, whatever the world -/
noncomputable def spL (K : PySem.W.Frag) (f : Fn) : Sp := fun vs H Q E => ∀ w : World, spF ⟨K, w⟩ 1 f vs H Q E
end Sw
namespace Sw
open PySem PySem.Spec PyProof.Rows L2
theorem u16 {A : Around} (h : A.units + 64 < cLine) : A.units + 16 < cLine := by omega
end Sw
namespace Sw
open PySem PySem.Spec PyProof.Rows L2
end Sw
namespace Sw
open PySem PySem.Spec PyProof.Rows L2
end Sw
namespace Sw
open PySem PySem.Spec PyProof.Rows L2
end Sw
namespace Sw
open PySem PySem.Spec PyProof.Rows L2
end Sw
namespace Sw
open PySem PySem.Spec PyProof.Rows L2
noncomputable def EntD (P : Params) : List DictEntry → List (List Nat × List Nat) → Prop
  | [], [] => True
  | e :: es, kv :: kvs => (∃ (x y : PySem.Str) (t u : Tok), e.key = .str x t ∧ x.cps.toList = kv.1 ∧ e.val = .str y u ∧ y.cps.toList = kv.2 ∧ e.hash = PyData.keyHash P x) ∧ EntD P es kvs
  | _, _ => False
theorem cps_inj {x y : PySem.Str} (h : x.cps.toList = y.cps.toList) : x = y := by rw [← str_cps x, ← str_cps y, h]
theorem EntD.find {P : Params} {z : PySem.Str} {cs : List Nat} (hz : z.cps.toList = cs) : ∀ {es : List DictEntry} {kvs : List (List Nat × List Nat)}, EntD P es kvs →
    match kvs.lookup cs with
    | some v => ∃ (y : PySem.Str) (u : Tok), ((es.find? fun e => Value.isStrOf z e.key).map (·.val)) = some (.str y u) ∧ y.cps.toList = v
    | none => ((es.find? fun e => Value.isStrOf z e.key).map (·.val)) = none
  | [], [], _ => rfl
  | e :: es, (k, v) :: kvs, ⟨⟨x, y, t, u, h1, h2, h3, h4, _⟩, r⟩ => by
    have ih := EntD.find hz r
    dsimp only at h2 h4
    have hk : Value.isStrOf z e.key = (x == z) := by rw [h1]; rfl
    rw [List.find?_cons, hk]
    by_cases q : x = z
    · have : (cs == k) = true := by rw [← hz, ← h2, q]; exact beq_self_eq_true _
      rw [List.lookup_cons, this, show (x == z) = true by rw [q]; exact beq_self_eq_true _]
      exact ⟨y, u, by rw [← h3]; rfl, h4⟩
    · have n1 : (cs == k) = false := by
        cases w : cs == k with
        | false => rfl
        | true => exact absurd (cps_inj ((h2.trans (eq_of_beq w).symm).trans hz.symm)) q
      have n2 : (x == z) = false := by
        cases w : x == z with
        | false => rfl
        | true => exact absurd (eq_of_beq w) q
      rw [List.lookup_cons, n1, n2]
      exact ih
  | [], _ :: _, h => h.elim
  | _ :: _, [], h => h.elim
end Sw
namespace Sw
open PySem PySem.Spec PyProof.Rows L2
section
variable {X : Cx} {e : Expr} {me : M Vl} {te : TE} {pos : Pos}
noncomputable def fRevT : D → Option D
  | .tup xs => some (.tup xs.reverse)
  | _ => none
@[simp] theorem r_revT {xs : List D} : fRevT (.tup xs) = some (.tup xs.reverse) := rfl
end
end Sw
namespace Sw
open PySem PySem.Spec PyProof.Rows L2
theorem blkOk_nest {N : List PySem.Str} {sc0 scope0 scope : Scope} {own : List (PySem.Str × Nat)} {cl : List (PySem.Str × Addr)} {C : Addr} {env : Env} (hs : env.scope = sc0) (h : blkC N (relS scope0 sc0) scope own = true) : BlkOk N (compEnvC scope0 cl C env).scope scope own := by
  have e : (compEnvC scope0 cl C env).scope = relS scope0 env.scope := rfl
  rw [e, hs]
  exact blkOk_by h
end Sw
namespace Sw
open PySem PySem.Spec PyProof.Rows L2
end Sw
namespace Sw
open PySem PySem.Spec PyProof.Rows L2
noncomputable def EntR (P : Params) : List DictEntry → List (List Nat × Addr) → Prop
  | [], [] => True
  | e :: es, kv :: kvs => (∃ (x : PySem.Str) (t : Tok), e.key = .str x t ∧ x.cps.toList = kv.1 ∧ e.val = .ref kv.2 ∧ e.hash = PyData.keyHash P x) ∧ EntR P es kvs
  | _, _ => False
theorem EntR.find {P : Params} {z : PySem.Str} {cs : List Nat} (hz : z.cps.toList = cs) : ∀ {es : List DictEntry} {kvs : List (List Nat × Addr)}, EntR P es kvs →
    ((es.find? fun e => Value.isStrOf z e.key).map (·.val)) = (kvs.lookup cs).map Value.ref
  | [], [], _ => rfl
  | e :: es, (k, v) :: kvs, ⟨⟨x, t, h1, h2, h3, _⟩, r⟩ => by
    have ih := EntR.find hz r
    dsimp only at h2 h3
    have hk : Value.isStrOf z e.key = (x == z) := by rw [h1]; rfl
    rw [List.find?_cons, hk]
    by_cases q : x = z
    · have : (cs == k) = true := by rw [← hz, ← h2, q]; exact beq_self_eq_true _
      rw [List.lookup_cons, this, show (x == z) = true by rw [q]; exact beq_self_eq_true _]
      show some e.val = some (Value.ref v)
      rw [h3]
    · have n1 : (cs == k) = false := by
        cases w : cs == k with
        | false => rfl
        | true => exact absurd (cps_inj ((h2.trans (eq_of_beq w).symm).trans hz.symm)) q
      have n2 : (x == z) = false := by
        cases w : x == z with
        | false => rfl
        | true => exact absurd (eq_of_beq w) q
      rw [List.lookup_cons, n1, n2]
      exact ih
  | [], _ :: _, h => h.elim
  | _ :: _, [], h => h.elim
/-- at T: a tuple of the module that holds the defs at the addresses -/
structure KRt (K : Kx) (T : Addr) (fas : List Addr) : Prop where
  ex : ∃ (o : Obj) (its : Array Value) (n : Nat), K.fr.lookup T = some o ∧ o.cls = .type "tuple" ∧ o.data = .seq its n ∧ its.size ≤ sizeLine ∧ its.toList = fas.map Value.ref
/-- a def that a table names -/
structure Rle (P : Program) (w : World) (K : Kx) (mg : PySem.Str → Option Value) (base : Heap) (k n : Nat) (fa : Addr) (f : Fn) : Prop where
  ex : ∃ (fd : FuncData) (ps : List PySem.Str), FnOk P w K mg base CX0 k fa fd ps (spF K n f) ∧ PySem.W.keepIn K (.ref fa) = true ∧ Binds K fd ps []
  hn : ∀ gs z, f gs = some z → gs.length = n
noncomputable def RleL (P : Program) (w : World) (K : Kx) (mg : PySem.Str → Option Value) (base : Heap) (k n : Nat) : List Addr → List Fn → Prop
  | [], [] => True
  | a :: as, f :: fs => Rle P w K mg base k n a f ∧ RleL P w K mg base k n as fs
  | _, _ => False
theorem RleL.len {P : Program} {w : World} {K : Kx} {mg : PySem.Str → Option Value} {base : Heap} {k n : Nat} : ∀ {as : List Addr} {fs : List Fn}, RleL P w K mg base k n as fs → as.length = fs.length
  | [], [], _ => rfl
  | _ :: _, _ :: _, h => by rw [List.length_cons, List.length_cons, h.2.len]
  | [], _ :: _, h => h.elim
  | _ :: _, [], h => h.elim
theorem RleL.get {P : Program} {w : World} {K : Kx} {mg : PySem.Str → Option Value} {base : Heap} {k n : Nat} : ∀ {as : List Addr} {fs : List Fn} {i : Nat} (h1 : i < as.length) (h2 : i < fs.length), RleL P w K mg base k n as fs → Rle P w K mg base k n as[i] fs[i]
  | _ :: _, _ :: _, 0, _, _, h => h.1
  | _ :: as, _ :: fs, i + 1, h1, h2, h => RleL.get (as := as) (fs := fs) (i := i) (by simpa using h1) (by simpa using h2) h.2
/-- the table, key for key -/
noncomputable def RTl (P : Program) (w : World) (K : Kx) (mg : PySem.Str → Option Value) (base : Heap) (k n : Nat) : List (List Nat × Addr) → List (List Nat × List Fn) → Prop
  | [], [] => True
  | (c, T) :: kvs, (c', fs) :: tbl => c = c' ∧ (∃ fas, KRt K T fas ∧ RleL P w K mg base k n fas fs) ∧ RTl P w K mg base k n kvs tbl
  | _, _ => False
theorem RTl.some {P : Program} {w : World} {K : Kx} {mg : PySem.Str → Option Value} {base : Heap} {k n : Nat} {c : List Nat} {T : Addr} : ∀ {kvs : List (List Nat × Addr)} {tbl : List (List Nat × List Fn)}, RTl P w K mg base k n kvs tbl → kvs.lookup c = some T → ∃ fas fs, KRt K T fas ∧ tbl.lookup c = some fs ∧ RleL P w K mg base k n fas fs
  | [], [], _, h => by cases h
  | (a, A) :: kvs, (b, fs) :: tbl, ⟨e, ⟨fas, h1, h2⟩, r⟩, h => by
    subst e
    rw [List.lookup_cons] at h ⊢
    cases q : c == a with
    | true => rw [q] at h; cases h; exact ⟨fas, fs, h1, rfl, h2⟩
    | false => rw [q] at h; exact RTl.some r h
  | [], _ :: _, h, _ => h.elim
  | _ :: _, [], h, _ => h.elim
theorem RTl.none {P : Program} {w : World} {K : Kx} {mg : PySem.Str → Option Value} {base : Heap} {k n : Nat} {c : List Nat} : ∀ {kvs : List (List Nat × Addr)} {tbl : List (List Nat × List Fn)}, RTl P w K mg base k n kvs tbl → kvs.lookup c = none → tbl.lookup c = none
  | [], [], _, _ => rfl
  | (a, A) :: kvs, (b, fs) :: tbl, ⟨e, _, r⟩, h => by
    subst e
    rw [List.lookup_cons] at h ⊢
    cases q : c == a with
    | true => rw [q] at h; cases h
    | false => rw [q] at h; exact RTl.none r h
  | [], _ :: _, h, _ => h.elim
  | _ :: _, [], h, _ => h.elim
end Sw
namespace Sw
open PySem PySem.Spec PyProof.Rows L2
end Sw
namespace PySem
open Builtin Builtin.List
end PySem
namespace Sw
open PySem PySem.Spec PyProof.Rows L2
end Sw
namespace Sw
open PySem PySem.Spec PyProof.Rows L2
end Sw
namespace Sw
open PySem PySem.Spec PyProof.Rows L2
end Sw
namespace Sw
open PySem PySem.Spec PyProof.Rows L2
mutual
/-- a thing as it reads now -/
noncomputable def otD : Ot → D
  | .da x => x
  | .li ts => .lst (otDs ts)
  | .ins c ks ts => .obj c ks (otDs ts)
noncomputable def otDs : List Ot → List D
  | [] => []
  | t :: ts => otD t :: otDs ts
end
mutual
theorem OtR.rep {K : Kx} {H F F' : Hp} (e : Same F F') : ∀ {v : V} {t : Ot} {L : List Addr}, OtR K H F v t L → (∀ b ∈ L, ∀ o, H b = some o → F' b = some o) → Rep K F' v (otD t)
  | _, _, _, .da r, _ => by unfold otD; exact r.mono e
  | _, _, _, .li h r, q => by unfold otD; exact .lst (q _ List.mem_cons_self _ h) (OtRs.rep e r fun b hb => q b (List.mem_cons_of_mem _ hb))
  | _, _, _, .ins h1 h2 h3 r, q => by unfold otD; exact .obj h1 (q _ List.mem_cons_self _ h2) h3 (OtRs.rep e r fun b hb => q b (List.mem_cons_of_mem _ hb))
theorem OtRs.rep {K : Kx} {H F F' : Hp} (e : Same F F') : ∀ {vs : List V} {ts : List Ot} {L : List Addr}, OtRs K H F vs ts L → (∀ b ∈ L, ∀ o, H b = some o → F' b = some o) → Reps K F' vs (otDs ts)
  | _, _, _, .nil, _ => by unfold otDs; exact .nil
  | _, _, _, .cons r r2, q => by unfold otDs; exact .cons (OtR.rep e r fun b hb => q b (List.mem_append_left _ hb)) (OtRs.rep e r2 fun b hb => q b (List.mem_append_right _ hb))
end
theorem OtRs.snoc {K : Kx} {H F : Hp} {v : V} {t : Ot} {M : List Addr} (r : OtR K H F v t M) : ∀ {vs : List V} {ts : List Ot} {L : List Addr}, OtRs K H F vs ts L → OtRs K H F (vs ++ [v]) (ts ++ [t]) (L ++ M)
  | _, _, _, .nil => by
    have := OtRs.cons r OtRs.nil
    rwa [List.append_nil] at this
  | _, _, _, .cons (L := L1) r1 r2 => by
    have := OtRs.cons r1 (OtRs.snoc r r2)
    rw [← List.append_assoc] at this
    exact this
theorem OtRs.len {K : Kx} {H F : Hp} : ∀ {vs : List V} {ts : List Ot} {L : List Addr}, OtRs K H F vs ts L → vs.length = ts.length
  | _, _, _, .nil => rfl
  | _, _, _, .cons _ r => by rw [List.length_cons, List.length_cons, OtRs.len r]
end Sw
namespace Sw
open PySem PySem.Spec PyProof.Rows L2
theorem OtRs.get {K : Kx} {H F : Hp} : ∀ {vs : List V} {ts : List Ot} {L : List Addr} {j : Nat} {t : Ot}, OtRs K H F vs ts L → ts[j]? = some t → ∃ v M, vs[j]? = some v ∧ OtR K H F v t M ∧ ∀ b ∈ M, b ∈ L
  | _, _, _, _, _, .nil, h => by simp at h
  | _, _, _, 0, t, .cons (L := L1) r _, h => by
    simp at h; subst h
    exact ⟨_, L1, rfl, r, fun b hb => List.mem_append_left _ hb⟩
  | _, _, _, j + 1, t, .cons r r2, h => by
    obtain ⟨v, M, h1, h2, h3⟩ := OtRs.get (j := j) (t := t) r2 (by simpa using h)
    exact ⟨v, M, by simpa using h1, h2, fun b hb => List.mem_append_right _ (h3 b hb)⟩
end Sw
namespace Sw
open PySem PySem.Spec PyProof.Rows L2 PySem.W
end Sw
namespace Sw
open PySem PySem.Spec PyProof.Rows L2
end Sw
namespace Sw
open L2 PySem
section
variable {K : PySem.W.Frag} {w : World} {fn : List He5.DefA} {ex : PySem.W.Frag → Bool} {ts : List He.Tab}
noncomputable abbrev HdT : Type := (Bool × List He.FnW) × List (Option (List (Option (Str × Int))))
noncomputable def hdO (fn : List He5.DefA) (ex : PySem.W.Frag → Bool) (ts : List He.Tab) (K : PySem.W.Frag) : HdT := ((ex K && fn.all (He5.DefA.ok K), fn.map fun z => He5.fnA K (z.at_ K)), ts.map fun z => He.dicW K (z.1 K))
noncomputable def hdV (fn : List He5.DefA) (ts : List He.Tab) (w : World) : HdT := ((true, fn.map He5.DefA.val), ts.map fun z => some (He.keysIn w.params z.2))
noncomputable def hdK (n : Nat) (g : Addr → Option Obj) : PySem.W.Frag := He.frG g (List.range n)
noncomputable def hdHook (n : Nat) (fn : List He5.DefA) (ex : PySem.W.Frag → Bool) (ts : List He.Tab) : PySem.W.Hook where
  α := HdT
  obs := fun z => hdO fn ex ts (hdK n z.heap.get?)
  val := hdV fn ts
  says := fun w h => ∃ K : PySem.W.Frag, K.In h ∧ hdO fn ex ts K = hdV fn ts w
  of := fun _ _ e => ⟨_, He.frG_in, e⟩
  keeps := fun _ _ _ ⟨K, i, e⟩ kp => ⟨K, PySem.W.Frag.In.keeps i kp, e⟩
noncomputable def hdOb (n : Nat) (fn : List He5.DefA) (ex : PySem.W.Frag → Bool) (ts : List He.Tab) (z : PySem.W.SharedT) : HdT := hdO fn ex ts (hdK n (HandSHeadRun.getT z))
theorem hdOb_eq (n : Nat) (fn : List He5.DefA) (ex : PySem.W.Frag → Bool) (ts : List He.Tab) (z : PySem.W.SharedT) : hdOb n fn ex ts z = (hdHook n fn ex ts).obs z.abs := by
  unfold hdOb
  rw [show HandSHeadRun.getT z = z.abs.heap.get? from funext (HandSHeadRun.getT_eq z)]
  rfl
theorem hd_ex (c : hdO fn ex ts K = hdV fn ts w) : ex K = true := (Bool.and_eq_true_iff.mp (congrArg (fun z : HdT => z.1.1) c)).1
theorem hd_def (c : hdO fn ex ts K = hdV fn ts w) (i : Nat) {d : He5.DefA} (h : fn[i]? = some d) : ∃ fd, FunD K d.name d.qual d.params d.body d.scope (d.dvs K) (d.kws K) (d.at_ K) fd := by
  have c1 : fn.all (He5.DefA.ok K) = true := (Bool.and_eq_true_iff.mp (congrArg (fun z : HdT => z.1.1) c)).2
  have c2 : fn.map (fun z => He5.fnA K (z.at_ K)) = fn.map He5.DefA.val := congrArg (fun z : HdT => z.1.2) c
  have c3 := congrArg (fun l => l[i]?) c2
  simp only [List.getElem?_map, h, Option.map_some] at c3
  exact He5.DefA.funD (Option.some.inj c3) (List.all_eq_true.mp c1 d (List.mem_of_getElem? h))
/-- a def without defaults, as the end asks for it -/
noncomputable def RawF (K : PySem.W.Frag) (f : Addr) (x qual : Str) (st : Stmt) : Prop := ∃ (oc : Value) (od : Option Addr) (sl : Array (Option Value)) (kV dc pm : Value) (an : Option Addr) (cd ct : Value),
  K.lookup f = some ⟨oc, od, .func (PySem.W.fnOf x qual (defArgs st) (defBody st) (defScope st) .none kV dc pm an cd ct), sl⟩ ∧ PySem.W.codeIn K cd qual = true ∧ PySem.W.keepIn K (.ref f) = true
theorem raw_of {f : Addr} {x qual : Str} {st : Stmt} {kws : List (Str × V)} (F : ∃ fd, FunD K x qual (defArgs st) (defBody st) (defScope st) [] kws f fd) : RawF K f x qual st := by
  obtain ⟨fd, F⟩ := F
  obtain ⟨oc, od, dV, kV, dc, pm, an, cd, ct, sl, e, l, c, hd, _⟩ := F.ex
  rcases hd with ⟨_, e2⟩ | ⟨e2, _⟩
  · subst e2
    subst e
    exact ⟨oc, od, sl, kV, dc, pm, an, cd, ct, l, c, F.kp⟩
  · exact absurd rfl e2
end
end Sw
namespace Sw
open L2 PySem
theorem OtRs.lookup {K : Kx} {H F : Hp} {f : PySem.Str} : ∀ {ks : List PySem.Str} {vs : List V} {ts : List Ot} {L : List Addr} {t : Ot}, OtRs K H F vs ts L → (ks.zip ts).lookup f = some t → ∃ v M, (ks.zip vs).lookup f = some v ∧ OtR K H F v t M ∧ ∀ b ∈ M, b ∈ L
  | [], _, _, _, _, _, h => by simp at h
  | _ :: _, _, _, _, _, .nil, h => by simp at h
  | k :: ks, _, _, _, t, .cons (L := L1) r r2, h => by
    rw [List.zip_cons_cons, List.lookup_cons] at h ⊢
    cases e : f == k with
    | true => rw [e] at h; cases h; exact ⟨_, L1, rfl, r, fun b hb => List.mem_append_left _ hb⟩
    | false =>
      rw [e] at h
      obtain ⟨v, M, h1, h2, h3⟩ := OtRs.lookup r2 h
      exact ⟨v, M, h1, h2, fun b hb => List.mem_append_right _ (h3 b hb)⟩
noncomputable abbrev Mq : Type := Rho → Option D
noncomputable def tQ (K : Kx) (m : Mq) : TE := fun σ H Q => ∃ G ρ F x, Wd K G ρ σ H F ∧ m ρ = some x ∧ ∀ v H' F', Alc F H F' H' → Rep K F' v x → Q v H'
noncomputable abbrev SQ (X : Cx) (e : Expr) (m : Mq) : Prop := PE X e (tQ X.kx m)
noncomputable def qVar (i : Nat) : Mq := fun ρ => match ρ[i]? with
  | some (.d x) => some x
  | _ => none
section
variable {X : Cx} {Wx : WX} {i : Nat} {c f : PySem.Str} {C : Addr} {o e : Expr} {es : List Expr} {pos pos1 : Pos} {m : Mq} {mr : Rho → Option (List D)}
theorem sq_var (h : PE X e (tVar i)) : SQ X e (qVar i) := by
  refine pe_weak h fun σ H Q ⟨G, ρ, F, x, W, hm, q⟩ => ?_
  unfold qVar at hm
  split at hm
  · rename_i y e1
    cases hm
    obtain ⟨v, s1, r⟩ := W.sl i _ e1
    exact ⟨v, s1, q v H F (Alc.refl W.sub) r⟩
  · cases hm
end
end Sw
namespace Sw
open PySem PySem.Spec PyProof.Rows L2
noncomputable abbrev cc2 (el x0 a0 x1 a1 : Expr) (sc : Scope) (pos : Pos) : Expr := .SetComp el [⟨x0, a0, [], 0⟩, ⟨x1, a1, [], 0⟩] sc pos
section
variable {prog : Program} {w : World} {A : Around} {R : Result → Shared → Prop} {s : Shared} {el x0 a0 x1 a1 : Expr} {sc : Scope} {pos : Pos} {it acc : Value} {env : Env}
theorem cc2_t0 : compTurn (cc2 el x0 a0 x1 a1 sc pos) 0 it acc env = (do
    standAt a0.pos
    let r ← pyNext it
    match r with
    | none => pure (.done .next)
    | some v => do
      letOwnedTupleGo x0 it v
      assign x0 env v
      let b ← eval a1 env
      standAt a1.pos
      let b ← foldedSetIterable a1 env b
      let j ← holding [b] (pyIter b)
      let _ ← runOwn (.compStart (cc2 el x0 a0 x1 a1 sc pos) 1 j acc env) env
      again (.compLoop (cc2 el x0 a0 x1 a1 sc pos) 0 it acc env)) := by rfl
theorem cc2_t1 : compTurn (cc2 el x0 a0 x1 a1 sc pos) 1 it acc env = (do
    standAt a1.pos
    let r ← pyNext it
    match r with
    | none => pure (.done .next)
    | some v => do
      letOwnedTupleGo x1 it v
      assign x1 env v
      (do let y ← eval el env; standAt el.pos; let _ ← call (.builtin "set.add") [acc, y])
      again (.compLoop (cc2 el x0 a0 x1 a1 sc pos) 1 it acc env)) := by rfl
/-- what an error of the block is told -/
noncomputable abbrev nb (prog : Program) (w : World) (A : Around) (env : Env) (R : Result → Shared → Prop) : Value → Shared → Prop := notedBy (model prog w) A env fun e t => R (.error e) t
theorem cc2_l0 (hs : ∀ x, foldedSetIterable a1 env x = pure x) (I : Nat → Shared → Prop)
    (turn : ∀ n s, I n s → wpAny (model prog w) A (pyNext it) (fun r s1 => match r with
      | none => R (.ok .next) s1
      | some v => wpAny (model prog w) A (letOwnedTupleGo x0 it v) (fun _ s2 => wpAny (model prog w) A (assign x0 env v) (fun _ s3 => wpAny (model prog w) A (eval a1 env) (fun b s4 => wpAny (model prog w) A (pyIter b) (fun j s5 =>
          codeAny (model prog w) A (.compStart (cc2 el x0 a0 x1 a1 sc pos) 1 j acc env) (fun q t => match q with
            | .ok _ => ∃ m, m < n ∧ I m t
            | .error _ => False) s5) (nb prog w A env R) s4) (nb prog w A env R) s3) (nb prog w A env R) s2) (nb prog w A env R) s1) (nb prog w A env R) s)
    (n : Nat) (h : I n s) : codeAny (model prog w) A (.compLoop (cc2 el x0 a0 x1 a1 sc pos) 0 it acc env) R s := by
  refine codeAny_loop rfl I (fun n s hI => ?_) n h
  show wpAny _ A ((compTurn (cc2 el x0 a0 x1 a1 sc pos) 0 it acc env).onRaise (fun x => do noteFrame x env; theTreesLotGoes x)) _ _ s
  refine wpAny_noted ?_
  rw [cc2_t0]
  refine wpAny_bind (wpAny_standAt (wpAny_bind (thn (turn n s hI) fun r s1 h1 => ?_)))
  cases r with
  | none => exact wpAny_pure h1
  | some v =>
    refine wpAny_bind (thn h1 fun _ s2 h2 => ?_)
    refine wpAny_bind (thn h2 fun _ s3 h3 => ?_)
    refine wpAny_bind (thn h3 fun b s4 h4 => ?_)
    refine wpAny_bind (wpAny_standAt (wpAny_bind (wpAny_of_eq (hs b) ?_)))
    refine wpAny_bind (wpAny_holding (thn h4 fun j s5 h5 => ?_))
    refine wpAny_bind (wpAny_runOwn ?_)
    rw [Around.mark_none]
    refine codeAny_mono h5 fun q t hq => ?_
    cases q with
    | ok f => first | exact wpAny_pure ⟨rfl, hq⟩ | exact wpAny_bind (wpAny_pure (wpAny_pure ⟨rfl, hq⟩))
    | error e => exact hq.elim
theorem cc2_l1 (I : Nat → Shared → Prop)
    (turn : ∀ n s, I n s → wpAny (model prog w) A (pyNext it) (fun r s1 => match r with
      | none => R (.ok .next) s1
      | some v => wpAny (model prog w) A (letOwnedTupleGo x1 it v) (fun _ s2 => wpAny (model prog w) A (assign x1 env v) (fun _ s3 => wpAny (model prog w) A (eval el env) (fun y s4 =>
          wpAny (model prog w) A (call (.builtin "set.add") [acc, y]) (fun _ s5 => ∃ m, m < n ∧ I m s5) (nb prog w A env R) s4) (nb prog w A env R) s3) (nb prog w A env R) s2) (nb prog w A env R) s1) (nb prog w A env R) s)
    (n : Nat) (h : I n s) : codeAny (model prog w) A (.compLoop (cc2 el x0 a0 x1 a1 sc pos) 1 it acc env) R s := by
  refine codeAny_loop rfl I (fun n s hI => ?_) n h
  show wpAny _ A ((compTurn (cc2 el x0 a0 x1 a1 sc pos) 1 it acc env).onRaise (fun x => do noteFrame x env; theTreesLotGoes x)) _ _ s
  refine wpAny_noted ?_
  rw [cc2_t1]
  refine wpAny_bind (wpAny_standAt (wpAny_bind (thn (turn n s hI) fun r s1 h1 => ?_)))
  cases r with
  | none => exact wpAny_pure h1
  | some v => 
    refine wpAny_bind (thn h1 fun _ s2 h2 => ?_)
    refine wpAny_bind (thn h2 fun _ s3 h3 => ?_)
    refine wpAny_bind (wpAny_bind (thn h3 fun y s4 h4 => ?_))
    exact wpAny_bind (wpAny_standAt (wpAny_bind (thn h4 fun _ s5 h5 => wpAny_pure (wpAny_pure ⟨rfl, h5⟩))))
theorem cc2_s1 (h0 : codeAny (model prog w) A (.compLoop (cc2 el x0 a0 x1 a1 sc pos) 1 it acc env) R s)
    (h : wpAny (model prog w) A (pyIter it) (fun j t => codeAny (model prog w) A (.compLoop (cc2 el x0 a0 x1 a1 sc pos) 1 j acc env) R t) (nb prog w A env R) s) :
    codeAny (model prog w) A (.compStart (cc2 el x0 a0 x1 a1 sc pos) 1 it acc env) R s := by
  refine codeAny_of_tree ?_
  show wpAny _ _ ((compStart (cc2 el x0 a0 x1 a1 sc pos) 1 it acc env).onRaise (fun x => do noteFrame x env; standAt theWindowsPlace)) _ _ s
  refine wpAny_notedAt ?_
  unfold compStart
  show wpAny _ _ (ask >>= _) _ _ s
  refine wpAny_bind (wpAny_askSetting (wpAny_ite ?_))
  split
  · first
      | exact wpAny_pure (And.intro rfl h0)
      | exact wpAny_bind (wpAny_pure (wpAny_pure (And.intro rfl h0)))
  · refine wpAny_bind (wpAny_rule ?_)
    show wpAny _ _ (standAt a1.pos >>= _) _ _ s
    exact wpAny_bind (wpAny_standAt (wpAny_bind (thn h fun j t ht => wpAny_pure (And.intro rfl ht))))
end
section
variable {X : Cx} {el x0 a0 x1 a1 : Expr} {sc : Scope} {pos : Pos} {own : List (Str × Nat)} {vs1 : List Nat} {wi wi1 : TI} {g g1 : TG} {te : TE}
/-- D: the new set -/
noncomputable def tS2 (w : World) (wi wi1 : TI) (g g1 : TG) (te : TE) (vs vs1 : List Nat) : TE := fun σ H Q => wi σ H fun J H1 => ∀ D, H1 D = none → ∃ W : Nat → Nat → Hp → Prop, (∃ m, W 0 m (upd H1 D (SetO w D (fun _ => false) 0))) ∧ ∀ i m H, W i m H →
  (J.stop i H ∧ Q (.ref D) H) ∨ (J.go i H ∧ ∃ Nx : Hp → Prop, (∀ H', Nx H' → ∃ m', m' < m ∧ W (i + 1) m' H') ∧ ∀ x H', J.yld i H x H' → g x (wipe σ vs) H' fun σ2 H2 => wipe σ2 vs = wipe σ vs ∧
    wi1 σ2 H2 fun J1 H4 => ∃ W1 : Nat → Nat → Hp → Prop, (∃ m, W1 0 m H4) ∧ ∀ j k H, W1 j k H →
      (J1.stop j H ∧ Nx H) ∨ (J1.go j H ∧ ∃ N1 : Hp → Prop, (∀ H', N1 H' → ∃ k', k' < k ∧ W1 (j + 1) k' H') ∧ ∀ x H', J1.yld j H x H' → g1 x (wipe σ2 vs1) H' fun σ3 H5 => wipe σ3 vs1 = wipe σ2 vs1 ∧
        te σ3 H5 fun y H7 => ∃ (z : Int) (S : Int → Bool) (n : Nat), y = .int z ∧ H7 D = some (SetO w D S n) ∧ n + 1 < scanBound ∧ N1 (upd H7 D (SetO w D (fun j => S j || decide (j = z)) (if S z = true then n else n + 1)))))
theorem add_int {pins : List (Addr × Obj)} {σ : L2.St} {H : Hp} {s : Shared} {E : Value → Shared → Prop} {D : Addr} {S : Int → Bool} {n : Nat} {z : Int} {u : Value} {Q : Value → Shared → Prop} (I : Inv X pins σ H s) (hD : H D = some (SetO X.w D S n)) (room : n + 1 < scanBound) (ru : RelV (.int z) u)
    (h : ∀ t, Inv X pins σ (upd H D (SetO X.w D (fun j => S j || decide (j = z)) (if S z = true then n else n + 1))) t → Q .none t) : wpAny (model X.prog X.w) X.A (call (.builtin "set.add") [.ref D, u]) Q E s := by
  obtain ⟨t, rfl⟩ := ru
  refine setR_add (setO_get I hD) room fun h' sb new => ?_
  have he : ∃ u, h'.get? D = some u := by
    have ⟨o, _, _, _, ho, _⟩ := new
    exact ⟨o, ho⟩
  exact h _ (I.write (e := D) (t' := s.toks + 1) (by rw [hD]; trivial) (.inl rfl) (fun b u hb hu => (sb.2 b hb).trans hu) he (setO_new new))
theorem pe_s2 (hc : X.calm = true) (hN : X.N.Nodup) (hi : PI X x0 a0 wi) (ok : BlkOk X.N X.env.scope sc own) (hv : ∀ i ∈ vs1, i ∈ own.map (·.2))
    (hg : ∀ (s : Shared) (H : Hp) (C : Addr) (cl : List (Str × Addr)) (fp : List Addr), PG (X.blk s H sc (compEnvC sc cl C X.env) fp) x0 g)
    (hi1 : ∀ (s : Shared) (H : Hp) (C : Addr) (cl : List (Str × Addr)) (fp : List Addr), PI (X.blk s H sc (compEnvC sc cl C X.env) fp) x1 a1 wi1)
    (hg1 : ∀ (s : Shared) (H : Hp) (C : Addr) (cl : List (Str × Addr)) (fp : List Addr), PG (X.blk s H sc (compEnvC sc cl C X.env) fp) x1 g1)
    (he : ∀ (s : Shared) (H : Hp) (C : Addr) (cl : List (Str × Addr)) (fp : List Addr), PE (X.blk s H sc (compEnvC sc cl C X.env) fp) el te)
    (hs : ∀ x, foldedSetIterable a0 X.env x = pure x := by intro _; rfl) (hs1 : ∀ env x, foldedSetIterable a1 env x = pure x := by intro _ _; rfl) :
    PE X (cc2 el x0 a0 x1 a1 sc pos) (tS2 X.w wi wi1 g g1 te (own.map (·.2)) vs1) := by
  refine ⟨fun pins s σ H Q I h => ?_⟩
  rw [PpSet.eval_SetComp]
  have hfree : ∀ y ∈ sc.names, y.2 = .free → ∃ c, X.env.cells.lookup y.1 = some c := fun y hy e => (ok.free y hy e).elim (fun k => I.ok.has _ (.inl k)) fun k => I.ok.has _ (.inr k)
  refine wpAny_comprehension_free (use := none) rfl hs (closure_ok hfree) ok.kind (fun y hy e => by rw [ok.uniq y hy, e]) (thn (hi.run pins s σ H _ I h) fun xv s1 hx => thn hx fun itv s2 h2 => ?_)
  obtain ⟨it, fp, tn, J, H2, rfl, I2, T, st2, f2, q⟩ := h2
  refine PpSet.newSet_ok (newEnv_comp ?_)
  have hDn : H2 s2.heap.objs.size = none := I2.hok.fresh (Nat.le_refl _)
  obtain ⟨W, ⟨m0, w0⟩, turn⟩ := q _ hDn
  have sz : ∀ b ∈ fp, b < s2.heap.objs.size := fun b hb => let ⟨o, e, _⟩ := T.obj _ _ st2 b hb; Heap.lt_size e
  have R0 : SetR X.w (s2.heap.push { cls := .type "set", dict := none, data := .set #[] 0 (.fresh 0 0 (!X.w.params.followText "set-order")) }) s2.heap.objs.size (fun _ => false) 0 := by
    have := setR_new_at (w := X.w) (ns := []) (h := s2.heap.push { cls := .type "set", dict := none, data := .set #[] 0 (.fresh 0 0 (!X.w.params.followText "set-order")) }) (a := s2.heap.objs.size) (Heap.get?_push_size _ rfl)
    exact this.congr fun j => by simp
  have I3 := I2.laid (t' := s2.toks) (h' := s2.heap.push { cls := .type "set", dict := none, data := .set #[] 0 (.fresh 0 0 (!X.w.params.followText "set-order")) }) (fun b o e => Heap.get?_push_of_some _ e) (Nat.le_refl _) (setO_new R0)
  generalize hD : s2.heap.objs.size = D at *
  generalize hs3 : ({ s2 with heap := s2.heap.push { cls := .type "set", dict := none, data := .set #[] 0 (.fresh 0 0 (!X.w.params.followText "set-order")) }, toks := s2.toks } : Shared) = s3 at I3
  have h3 : s3.heap = s2.heap.push { cls := .type "set", dict := none, data := .set #[] 0 (.fresh 0 0 (!X.w.params.followText "set-order")) } := by rw [← hs3]
  have hs3' : ({ s2 with heap := s2.heap.push { cls := .type "set", dict := none, data := .set #[] 0 (.fresh 0 0 (!X.w.params.followText "set-order")) } } : Shared) = s3 := by rw [← hs3]
  generalize hH3 : upd H2 D (SetO X.w D (fun _ => false) 0) = H3 at *
  have f3 : ∀ b ∈ fp, FpOk X pins H3 b ∧ b < s3.heap.objs.size := fun b hb => by
    have hlt := sz b hb
    refine ⟨⟨?_, (f2 b hb).2⟩, by rw [h3, Heap.size_push, hD]; exact Nat.lt_succ_of_lt hlt⟩
    rw [← hH3, upd_ne (Nat.ne_of_lt hlt)]
    exact (f2 b hb).1
  have I4 := block_start I3 ok hN f3
  have pg := hg s3 H3 s3.heap.objs.size (cellsFrom (s3.heap.objs.size + 1) sc.names (cloFrom X.env.cells sc.names [])) fp
  have pi1 := hi1 s3 H3 s3.heap.objs.size (cellsFrom (s3.heap.objs.size + 1) sc.names (cloFrom X.env.cells sc.names [])) fp
  have pg1 := hg1 s3 H3 s3.heap.objs.size (cellsFrom (s3.heap.objs.size + 1) sc.names (cloFrom X.env.cells sc.names [])) fp
  have pe := he s3 H3 s3.heap.objs.size (cellsFrom (s3.heap.objs.size + 1) sc.names (cloFrom X.env.cells sc.names [])) fp
  have st4 : tn 0 (pushCells (s3.heap.push { cls := .type "dict", data := .dict #[] }) sc.names) := T.keep _ _ _ st2 fun b _ o e => pushCells_keeps _ _ _ _ (Heap.get?_push_of_some _ (by rw [h3]; exact Heap.get?_push_of_some _ e))
  show codeAny _ _ (.compStart (cc2 el x0 a0 x1 a1 sc pos) 0 (.ref it) (.ref D) (compEnvC sc (cellsFrom (s3.heap.objs.size + 1) sc.names (cloFrom X.env.cells sc.names [])) s3.heap.objs.size X.env)) (compPost (model X.prog X.w) X.A X.xe none _ (.ref D) s3.heap.objs.size) { s3 with heap := pushCells (s3.heap.push { cls := .type "dict", data := .dict #[] }) sc.names }
  generalize hce : compEnvC sc (cellsFrom (s3.heap.objs.size + 1) sc.names (cloFrom X.env.cells sc.names [])) s3.heap.objs.size X.env = ce at I4 pg pi1 pg1 pe ⊢
  have cL : ce.locals = s3.heap.objs.size := by rw [← hce]; rfl
  generalize hs4 : ({ s3 with heap := pushCells (s3.heap.push { cls := .type "dict", data := .dict #[] }) sc.names } : Shared) = s4 at I4 ⊢
  have st4 : tn 0 s4.heap := by rw [← hs4]; exact st4
  have still : ∀ {τ : L2.St} {H' : Hp} {t : Shared}, Inv (X.blk s3 H3 sc ce fp) [] τ H' t → (∀ b ∈ fp, H' b = none) → ∀ b ∈ fp, FpOk (X.blk s3 H3 sc ce fp) [] H' b := fun {τ H' t} I' hn b hb =>
    ⟨hn b hb, (I'.ok.exf b hb).1, I'.ok.exfs b hb, .inl hb, fun x c e => (I'.ok.exf b hb).2 x c e, fun p hp => nomatch (show p ∈ ([] : List (Addr × Obj)) from by simpa using (show p ∈ ([] : List (Addr × Obj)) ++ [] from hp))⟩
  have loop : codeAny (model X.prog X.w) X.A (.compLoop (cc2 el x0 a0 x1 a1 sc pos) 0 (.ref it) (.ref D) ce) (compPost (model X.prog X.w) X.A X.xe none (fun v s1 => ∃ x H1, Inv X pins σ H1 s1 ∧ RelV x v ∧ Q x H1) (.ref D) s3.heap.objs.size) s4 := by
    refine cc2_l0 (hs1 ce) (fun n t => ∃ i H', Inv (X.blk s3 H3 sc ce fp) [] (wipe σ (own.map (·.2))) H' t ∧ tn i t.heap ∧ (∀ b ∈ fp, H' b = none) ∧ W i n H') ?_ m0 ⟨0, H3, I4, st4, fun b hb => (f3 b hb).1.1, w0⟩
    rintro n s5 ⟨i, H5, I5, st5, n5, w5⟩
    rcases turn i n H5 w5 with ⟨stop, qq⟩ | ⟨go, Nx, hNx, step⟩
    · refine thnF (T.done (X.blk s3 H3 sc ce fp) rfl rfl rfl hc i [] s5 _ H5 (fun _ _ => False) I5 (still I5 n5) st5 stop) fun r s6 ⟨hr, I6⟩ => ?_
      subst hr
      have I7 : Inv X pins σ H5 s6 := I3.call' (ch := fp) I6.os I6.base I6.hok I6.bare fun b hb => ⟨(f3 b hb).1.2.2.2.1, (f3 b hb).1.2.1, (f3 b hb).1.2.2.2.2.1, (f3 b hb).1.2.2.2.2.2⟩
      have nC : H5 s3.heap.objs.size = none := by rw [← cL]; exact I6.free
      obtain ⟨m, hn, _⟩ := I6.loc
      have hn : s6.heap.Ns ce.locals m := hn
      rw [cL] at hn
      refine ⟨m, hn, fun h'' sb => ?_⟩
      obtain ⟨c0, c1, c2, c3, c4, c5⟩ := I3.fpOk (H' := H5) (Nat.le_refl _) nC
      exact ⟨.ref D, H5, I7.turned (t' := s6.toks) (fun b o hb e => (sb.2 b hb).trans e) c0 c1 c3 c4 c5, rfl, qq⟩
    · refine thnF (T.item (X.blk s3 H3 sc ce fp) rfl rfl rfl hc i [] s5 _ H5 (fun _ _ => False) I5 (still I5 n5) st5 go) fun r s6 ⟨u, hr, h6⟩ => ?_
      subst hr
      refine thnF h6 fun _ s7 ⟨x, H7, I7, r7, y7, st7, n7⟩ => ?_
      refine thnF (pg.run _ s7 _ H7 x u _ (I7.pinned (still I7 n7) (T.obj _ _ st7)) r7 (step x H7 y7)) fun _ s8 ⟨σ8, H8, I8, hw8, q8⟩ => ?_
      have hl8 : (wipe σ (own.map (·.2))).length = σ8.length := by rw [← hw8, wipe_length]
      have hk9 : ∀ (j : Nat) v, (wipe σ (own.map (·.2)))[j]? = some (some v) → (wipe σ8 vs1)[j]? = some (some v) := fun j v e => by
        rw [← hw8] at e
        obtain ⟨e1, e2⟩ := wipe_some e
        rw [wipe_out fun z => e2 (hv j z)]
        exact e1
      refine thnF (pi1.run _ s8 σ8 H8 _ I8 q8) fun bv s10 hb => thnF hb fun jv s11 h11 => ?_
      obtain ⟨jt, fp1, tn1, J1, H11, rfl, I11, T1, st11, f11, W1, ⟨m1, w1⟩, turn1⟩ := h11
      have still1 : ∀ {H' : Hp}, (∀ b ∈ fp1, H' b = none) → ∀ b ∈ fp1, FpOk (X.blk s3 H3 sc ce fp) ([] ++ pinsAt fp s7.heap) H' b := fun hn b hb => ⟨hn b hb, (f11 b hb).2⟩
      have inner : codeAny (model X.prog X.w) X.A (.compLoop (cc2 el x0 a0 x1 a1 sc pos) 1 (.ref jt) (.ref D) ce)
          (fun r t => match r with
            | .ok _ => ∃ m, m < n ∧ ∃ i H', Inv (X.blk s3 H3 sc ce fp) [] (wipe σ (own.map (·.2))) H' t ∧ tn i t.heap ∧ (∀ b ∈ fp, H' b = none) ∧ W i m H'
            | .error _ => False) s11 := by
        refine cc2_l1 (fun k t => ∃ j H', Inv (X.blk s3 H3 sc ce fp) ([] ++ pinsAt fp s7.heap) (wipe σ8 vs1) H' t ∧ tn1 j t.heap ∧ (∀ b ∈ fp1, H' b = none) ∧ W1 j k H') ?_ m1 ⟨0, H11, I11.weak (wipe_length _ _) (fun j v e => (wipe_some e).1), st11, fun b hb => (f11 b hb).1, w1⟩
        rintro k s12 ⟨j, H12, I12, st12, n12, w12⟩
        rcases turn1 j k H12 w12 with ⟨stop1, nx1⟩ | ⟨go1, N1, hN1, step1⟩
        · refine thnF (T1.done (X.blk s3 H3 sc ce fp) rfl rfl rfl hc j _ s12 (wipe σ8 vs1) H12 (fun _ _ => False) I12 (still1 n12) st12 stop1) fun r s13 ⟨hr, I13⟩ => ?_
          subst hr
          obtain ⟨m', hm, w'⟩ := hNx H12 nx1
          have pin' : ∀ b ∈ fp, ∀ o, s7.heap.get? b = some o → s13.heap.get? b = some o ∧ H12 b = none := fun b hb o e =>
            let z := I13.pin (b, o) (List.mem_append_right _ (List.mem_append_right _ (mem_pinsAt hb e)))
            ⟨z.1, z.2.1⟩
          refine ⟨m', hm, i + 1, H12, (I13.unpinned (pins := [])).weak (hl8.trans (wipe_length σ8 vs1).symm) hk9, T.keep _ _ _ st7 fun b hb o e => (pin' b hb o e).1, fun b hb => ?_, w'⟩
          obtain ⟨o, e, _⟩ := T.obj _ _ st7 b hb
          exact (pin' b hb o e).2
        · refine thnF (T1.item (X.blk s3 H3 sc ce fp) rfl rfl rfl hc j _ s12 (wipe σ8 vs1) H12 (fun _ _ => False) I12 (still1 n12) st12 go1) fun r s13 ⟨u1, hr, h13⟩ => ?_
          subst hr
          refine thnF h13 fun _ s14 ⟨x2, H14, I14, r14, y14, st14, n14⟩ => ?_
          refine thnF (pg1.run _ s14 (wipe σ8 vs1) H14 x2 u1 _ (I14.pinned (still1 n14) (T1.obj _ _ st14)) r14 (step1 x2 H14 y14)) fun _ s15 ⟨σ15, H15, I15, hw15, q15⟩ => ?_
          refine thnF (pe.run _ s15 σ15 H15 _ I15 q15) fun yv s17 ⟨y, H17, I17, r17, z, S, c, ey, hD17, hz17, nx⟩ => ?_
          subst ey
          refine add_int (X := X.blk s3 H3 sc ce fp) I17 hD17 hz17 r17 fun s18 I18 => ?_
          obtain ⟨k', hk, w'⟩ := hN1 _ nx
          have pin' : ∀ b ∈ fp1, ∀ o, s14.heap.get? b = some o → s18.heap.get? b = some o ∧ _ = none := fun b hb o e =>
            let z := I18.pin (b, o) (List.mem_append_right _ (List.mem_append_right _ (mem_pinsAt hb e)))
            ⟨z.1, z.2.1⟩
          refine ⟨k', hk, j + 1, _, I18.unpinned.weak (by rw [← hw15, wipe_length]) (fun j v e => by rw [← hw15] at e; exact (wipe_some e).1), T1.keep _ _ _ st14 fun b hb o e => (pin' b hb o e).1, fun b hb => ?_, w'⟩
          obtain ⟨o, e, _⟩ := T1.obj _ _ st14 b hb
          exact (pin' b hb o e).2
      exact cc2_s1 inner (T1.self X.A 0 _ _ _ st11 inner)
  exact PpSet.codeAny_compStart_set loop (T.self X.A 0 _ _ _ st4 loop)
end
end Sw
namespace Sw
open PySem PySem.Spec PyProof.Rows L2
section
variable {P : Program} {w : World} {A : Around} {E : Value → Shared → Prop} {s : Shared}
/-- a new set's object -/
noncomputable abbrev set0 (w : World) : Obj := { cls := .type "set", dict := none, data := .set #[] 0 (.fresh 0 0 (!w.params.followText "set-order")) }
set_option maxHeartbeats 6400000 in
theorem set_ofL {l : Addr} {us : Array Value} (ns : List Int) {Q : Value → Shared → Prop} (hh : A.handled = none) (hl : s.heap.IsList l us) (hit : IntsAre us.toList ns) (hb : ns.length + 1 < scanBound)
    (h : ∀ (g : Heap) (tk c : Nat), SetR w g s.heap.objs.size (fun j => decide (j ∈ ns)) c → c ≤ ns.length → (∀ b o, s.heap.get? b = some o → g.get? b = some o) → Q (.ref s.heap.objs.size) { s with heap := g, toks := tk }) :
    wpAny (model P w) A (call (.type "set") [.ref l]) Q E s := by
  have hz : us.size = ns.length := by rw [← IntsAre.length hit, Array.length_toList]
  obtain ⟨c, tl, hmro⟩ := F.called_set.mro
  have k1 := F.called_set.made
  have k2 := F.called_set.sub
  have k3 := F.called_set.notType
  have k4 := F.called_set.canCreate
  have k5 := F.typeCall_set_1 (.ref l)
  refine wpAny_call (codeAny_of_tree (show wpAny _ _ (callAny (.type "set") _) _ _ _ from wpAny_pure ⟨Code.quiet_builtin _ (by decide +kernel), codeAny_builtin F.entry_type_call ?_⟩))
  rw [Around.under_plain (weight_type_call_type "set" [.ref l] []) rfl]
  repeat (any_goals (first | assumption | wp_step))

  refine codeAny_mono (code_set_led1 (.ref l) (E := E) (Q₁ := fun ob t => ob = .ref s.heap.objs.size ∧ t = { s with heap := s.heap.push (set0 w) }) ⟨rfl, rfl⟩) fun r t hr => ?_
  rcases r with (e | f)
  · exact hr
  cases f with
  | ret ob =>
    obtain ⟨rfl, rfl⟩ := hr
    have hS : (s.heap.push (set0 w)).get? s.heap.objs.size = some (set0 w) := Heap.get?_push_size _ rfl
    have hT : Shared.TypeIs { s with heap := s.heap.push (set0 w) } (.ref s.heap.objs.size) "set" := ⟨_, hS, rfl⟩
    have k6 := F.called_set.init.lookup
    have k7 := F.called_set.init.bind (.ref s.heap.objs.size)
    repeat (any_goals (first | assumption | wp_step))

    refine codeAny_mono (codeAny_call_builtin (R := wants (fun r t => r = .none ∧ ∃ g tk c, t = { s with heap := g, toks := tk } ∧ SetR w g s.heap.objs.size (fun j => decide (j ∈ ns)) c ∧ c ≤ ns.length ∧ (∀ b o, s.heap.get? b = some o → g.get? b = some o)) E) F.called_set.init.plain F.entry_set_init (check_set_init_1 hT ?_)) fun r2 t2 hr2 => ?_
    · obtain ⟨⟨ocls, odict, odata, oslots⟩, hol, hcl, nl, hdl⟩ := hl
      simp only at hcl hdl
      subst hcl; subst hdl
      have lS : l < s.heap.objs.size := Heap.lt_size hol
      have hol' : (s.heap.push (set0 w)).get? l = some { cls := .type "list", dict := odict, data := .seq us nl, slots := oslots } := Heap.get?_push_of_some _ hol
      have k8 := F.sub_list_set
      have k9 := F.sub_list_frozenset
      have kd : (Value.type "list" == Value.type "dict") = false := by decide
      have hl1 : (s.heap.push (set0 w)).IsList l us := ⟨_, hol', rfl, nl, rfl⟩
      unfold Builtin.«set.__init__» noKeywords Builtin.Frozenset.updateFrom
      generalize hPI : pyIter = PI
      wp_walk
      subst hPI
      refine wpAny_pyIter_list hl1 (wpAny_bind (wpAny_runValue ?_))
      have h3 : A.in1.in1.in1.handled = none := by simp [hh]
      have hz1 : (s.heap.push (set0 w)).objs.size = s.heap.objs.size + 1 := Heap.size_push ..
      have nI : l ≠ (s.heap.push (set0 w)).objs.size := by rw [hz1]; exact Nat.ne_of_lt (Nat.lt_succ_of_lt lS)
      have nf : s.heap.objs.size ∉ [(s.heap.push (set0 w)).objs.size, l] := by
        rw [hz1]
        simp only [List.mem_cons, List.not_mem_nil, or_false, not_or]
        exact ⟨Nat.ne_of_lt (Nat.lt_succ_self _), Nat.ne_of_gt lS⟩
      have val : ∀ (i : Nat) (v : Value), us[i]? = some v → ∃ k t, ns[i]? = some k ∧ v = .int k t := fun i v hv => by
        have hi : i < ns.length := by rw [← hz]; exact (Array.getElem?_eq_some_iff.mp hv).1
        obtain ⟨t, e⟩ := PyProof.Rows.IntsAre.int_at hit i v (by rw [Array.getElem?_toList]; exact hv)
        exact ⟨ns[i], t, List.getElem?_eq_getElem hi, by rw [e, List.getD_eq_getElem?_getD, List.getElem?_eq_getElem hi]; rfl⟩
      refine set_update_ints ((Walks.list h3 _ l nI us).toS) s.heap.objs.size nf ns hz hb val (us.size - 0) 0 _ (by omega) (Nat.zero_le _) ⟨⟨_, Heap.get?_push_size _ rfl, rfl, rfl⟩, (hl1.push _)⟩ ⟨0, Nat.le_refl 0, setR_new_at (Heap.get?_push_of_some _ hS)⟩ fun t' c' hm hc' hS' => ?_
      obtain ⟨g, ge, dr, tk, os⟩ := t'
      have eg : ge = s.gens := hm.gens
      have ed : dr = s.drawn := hm.drawn
      have eo : os = s.os := hm.os
      subst eg ed eo
      refine wpAny_pure (show wpAny _ _ (ret Value.none) _ _ _ from wpAny_pure ⟨rfl, g, tk, c', rfl, hS', by rw [← hz]; exact hc', fun b o e => ?_⟩)
      have hb0 : b < s.heap.objs.size := Heap.lt_size e
      refine hm.heap b o ?_ (Heap.get?_push_of_some _ (Heap.get?_push_of_some _ e))
      simp only [List.mem_cons, List.not_mem_nil, or_false, not_or]
      exact ⟨Nat.ne_of_lt hb0, by rw [hz1]; exact Nat.ne_of_lt (Nat.lt_succ_of_lt hb0)⟩
    · rcases r2 with (e | f2)
      · exact hr2
      cases f2 with
      | ret r =>
        obtain ⟨rfl, g, tk, c', rfl, hS', hc', hk'⟩ := hr2
        repeat (any_goals (first | assumption | wp_step))
        exact h _ _ _ hS' hc' hk'
      | _ => exact hr2.elim
  | _ => exact hr.elim
end
/-- the members of a set, ascending -/
noncomputable def sos (ns : List Int) : List Int := (sortI ns).eraseDups
theorem eraseDups_mem {α : Type} [BEq α] [LawfulBEq α] {x : α} : ∀ {xs : List α}, x ∈ xs.eraseDups ↔ x ∈ xs := by
  intro xs
  induction h : xs.length using Nat.strongRecOn generalizing xs with
  | ind n ih =>
    cases xs with
    | nil => simp
    | cons y ys =>
      rw [List.eraseDups_cons, List.mem_cons, List.mem_cons, ih _ (by subst h; exact Nat.lt_succ_of_le (List.length_filter_le _ _)) rfl, List.mem_filter]
      by_cases e : x = y <;> simp [e]
theorem eraseDups_lt : ∀ {xs : List Int}, xs.Pairwise (fun a b => a ≤ b) → xs.eraseDups.Pairwise (fun a b => a < b) := by
  intro xs
  induction h : xs.length using Nat.strongRecOn generalizing xs with
  | ind n ih =>
    intro hp
    cases xs with
    | nil => exact List.Pairwise.nil
    | cons y ys =>
      rw [List.eraseDups_cons, List.pairwise_cons]
      obtain ⟨p1, p2⟩ := List.pairwise_cons.mp hp
      refine ⟨fun z hz => ?_, ih _ (by subst h; exact Nat.lt_succ_of_le (List.length_filter_le _ _)) rfl (p2.filter _)⟩
      obtain ⟨z1, z2⟩ := List.mem_filter.mp (eraseDups_mem.mp hz)
      have := p1 z z1
      have ne : z ≠ y := fun e => by subst e; simp at z2
      omega
theorem sos_mem {ns : List Int} {k : Int} : k ∈ sos ns ↔ k ∈ ns := by
  unfold sos
  rw [eraseDups_mem]
  exact (sortI_perm ns).mem_iff
theorem sos_lt (ns : List Int) : (sos ns).Pairwise (fun a b => a < b) := eraseDups_lt (sortI_pair ns)
/-- ascending lists with the same members are the same -/
theorem asc_uniq {xs ys : List Int} (hx : xs.Pairwise (· < ·)) (hy : ys.Pairwise (· < ·)) (h : ∀ k, k ∈ xs ↔ k ∈ ys) : xs = ys := by
  have nx : xs.Nodup := hx.imp fun z e => by subst e; exact absurd z (Int.lt_irrefl _)
  have ny : ys.Nodup := hy.imp fun z e => by subst e; exact absurd z (Int.lt_irrefl _)
  have p : xs.Perm ys := (List.perm_ext_iff_of_nodup nx ny).mpr h
  exact List.Perm.eq_of_pairwise (le := fun a b : Int => a < b) (fun a b _ _ h h' => by omega) hx hy p
theorem sos_nil : sos [] = [] := by unfold sos sortI; simp
theorem eraseDups_le : ∀ {xs : List Int}, xs.eraseDups.length ≤ xs.length := by
  intro xs
  induction h : xs.length using Nat.strongRecOn generalizing xs with
  | ind n ih =>
    subst h
    cases xs with
    | nil => simp
    | cons y ys =>
      have l := List.length_filter_le (fun b => !b == y) ys
      rw [List.eraseDups_cons, List.length_cons, List.length_cons]
      have := ih (ys.filter fun b => !b == y).length (by rw [List.length_cons]; omega) rfl
      omega
theorem sos_le (ns : List Int) : (sos ns).length ≤ ns.length := by
  unfold sos
  rw [← (sortI_perm ns).length_eq]
  exact eraseDups_le
theorem lt_nodup {xs : List Int} (h : xs.Pairwise (· < ·)) : xs.Nodup := h.imp fun z e => by subst e; exact absurd z (Int.lt_irrefl _)
/-- a list without repetitions that has the members of ns is as long as the ascending one -/
theorem sos_len {L ns : List Int} (nd : L.Nodup) (h : ∀ k, k ∈ L ↔ k ∈ ns) : L.length = (sos ns).length :=
  ((List.perm_ext_iff_of_nodup nd (lt_nodup (sos_lt ns))).mpr fun k => by rw [h, sos_mem]).length_eq
theorem sos_snoc (ns : List Int) (z : Int) : (sos (ns ++ [z])).length = if decide (z ∈ ns) = true then (sos ns).length else (sos ns).length + 1 := by
  by_cases hz : z ∈ ns
  · rw [if_pos (decide_eq_true hz)]
    exact (sos_len (lt_nodup (sos_lt ns)) fun k => by rw [sos_mem, List.mem_append, List.mem_singleton]; exact ⟨.inl, fun q => q.elim id fun e => e ▸ hz⟩).symm
  · rw [if_neg (by simpa using hz)]
    refine (sos_len (L := z :: sos ns) (List.nodup_cons.mpr ⟨fun q => hz (sos_mem.mp q), lt_nodup (sos_lt ns)⟩) fun k => ?_).symm
    rw [List.mem_cons, sos_mem, List.mem_append, List.mem_singleton]
    exact Or.comm
theorem setR_len {w : World} {h : Heap} {a : Addr} {ns : List Int} {c : Nat} (R : SetR w h a (fun j => decide (j ∈ ns)) c) : c = (sos ns).length := by
  obtain ⟨o, es, ep, t, ho, hx, hd, g, nd, hm, hb, hf, hn, _⟩ := R
  have := sos_len (ns := ns) nd fun k => by rw [← hm k, decide_eq_true_eq]
  rw [List.length_map, Array.length_toList] at this
  omega
section
variable {X : Cx}
noncomputable def rSetL (K : Kx) (w : World) : List V → Hp → VK → Prop := fun vs H Q => ∃ (a : Addr) (ns : List Int), vs = [V.ref a] ∧ SqL K H a (ns.map V.int) ∧ ns.length + 1 < scanBound ∧
  ∀ p, H p = none → Q (.ref p) (upd H p (SetO w p (fun j => decide (j ∈ ns)) (sos ns).length))
theorem cr_setL (hc : X.calm = true) : CallR X (.type "set") (rSetL X.kx X.w) := by
  intro pins s σ H vs us Q I r h
  obtain ⟨a, ns, rfl, hq, hl, q⟩ := h
  rw [Vals.ref1 r]
  obtain ⟨its, rv, pl, hz⟩ := I.list hq
  refine set_ofL ns (I.ok.hd hc) pl.isList (by simpa using RZ.intsAre_vals rv) hl fun g tk c hS hcn hk => ?_
  have hn : H s.heap.objs.size = none := I.hok.fresh (Nat.le_refl _)
  rw [setR_len hS] at hS
  exact ⟨.ref s.heap.objs.size, _, I.laid (t' := tk) hk (Nat.le_refl _) (setO_new hS), rfl, q _ hn⟩
end
section
variable {X : Cx} {e : Expr} {ms : M (List Vl)} {p p2 pos pos2 : Pos}
/-- sorted(set(xs)) -/
noncomputable def eSoS (ms : M (List Vl)) : M Vl := fun ρ => (ms ρ).bind fun p => match p.1 with
  | [r] => (look p.2 r).bind fun x => match x with
    | .lst xs => (intsD xs).bind fun ns => if ns.length ≤ 1000 ∧ (sos ns).length < 64 then some (.fr ((sos ns).map .int), p.2) else none
    | _ => none
  | _ => none
theorem se_sortSet (hc : X.calm = true) (hm : X.mg "sorted" = none) (hg : Gl X "sorted") (hm2 : X.mg "set" = none) (hg2 : Gl X "set") (ha : SA X [e] ms)
    (he : starEach [e] X.env = (false, eval e X.env) :: starEach [] X.env := by rfl) (hpl : (backTo pos2 (starEach [] X.env)).any (·.1) = false := by rfl)
    (he2 : starEach [.Call (.Name "set" p2) [e] [] pos2] X.env = (false, eval (.Call (.Name "set" p2) [e] [] pos2) X.env) :: starEach [] X.env := by rfl) (hpl2 : (backTo pos (starEach [] X.env)).any (·.1) = false := by rfl) :
    SE X (.Call (.Name "sorted" p) [.Call (.Name "set" p2) [e] [] pos2] [] pos) (eSoS ms) := by
  refine pe_weak (pe_callB (cr_sortedSet hc) hg hm (by decide +kernel) (pa_cons (pe_callTy (cr_setL hc) hg2 hm2 (by decide +kernel) ha (by decide) (by decide) he hpl) pa_nil he2) (by decide) (by decide) he2 hpl2) fun σ H Q ⟨G, ρ, F, r0, ρ', W, hm, q⟩ => ?_
  unfold eSoS at hm
  obtain ⟨⟨rs, ρ1⟩, e1, hm⟩ := Option.bind_eq_some_iff.mp hm
  split at hm
  · rename_i r hr
    dsimp only at hr
    subst hr
    obtain ⟨x, e2, hm⟩ := Option.bind_eq_some_iff.mp hm
    split at hm
    · rename_i xs
      obtain ⟨ns, e3, hm⟩ := Option.bind_eq_some_iff.mp hm
      split at hm
      · rename_i hl
        cases hm
        refine ⟨G, ρ, F, [r], ρ1, W, e1, fun vs H1 F1 s1 R1 => ?_⟩
        obtain ⟨v, rfl, Rv⟩ : ∃ v, vs = [v] ∧ VlS X.kx σ F1 v r := by
          match vs, R1 with
          | [v], z => exact ⟨v, rfl, z.1⟩
        obtain ⟨a, us, rfl, h1, h2⟩ := vw_of s1.wd Rv e2
        have hus : us = ns.map V.int := intsD_ok h2 e3
        subst hus
        refine ⟨a, ns, rfl, SqL.of h1, by have := hl.1; unfold scanBound; omega, fun D hD => ?_⟩
        have f1 : F1 D = none := s1.wd.sub.free hD
        have A1 : Alc F1 H1 F1 (upd H1 D (SetO X.w D (fun j => decide (j ∈ ns)) (sos ns).length)) := ⟨Same.refl _, fun b o e => by rw [upd_ne (ne_of_none (s1.wd.sub _ _ e) hD)]; exact s1.wd.sub _ _ e, same_upd hD, fun _ h => .inl h⟩
        have s2 := s1.trans (s1.wd.alc A1)
        refine ⟨D, _, _, rfl, upd_same, hl.2, fun ms b hms hmem _ hb => ?_⟩
        have em : ms = sos ns := asc_uniq hms (sos_lt ns) fun k => by rw [hmem, sos_mem, decide_eq_true_eq]
        subst em
        exact new_fr s2 (reps_ints _) hb q
      · cases hm
    · cases hm
  · cases hm
end
noncomputable def tupInts : D → Option (List Int)
  | .tup ys => intsD ys
  | _ => none
noncomputable def gath (m2 : Mq) (jx : Nat) (ρ : Rho) : List D → Option (List Int)
  | [] => some []
  | x :: xs => (asg jx (.fz x) ρ).bind fun ρ2 => (m2 ρ2).bind fun d => (tupInts d).bind fun ns => (gath m2 jx ρ xs).bind fun r => some (ns ++ r)
noncomputable def tupDs : D → Option (List D)
  | .tup xs => some xs
  | _ => none
noncomputable def eS2 (vs : List Nat) (jx : Nat) (m1 m2 : Mq) : M Vl := fun ρ => if (vs.all fun v => plainSl ρ[v]?) = true then (m1 ρ).bind fun d => (tupDs d).bind fun xs => (gath m2 jx (wipeR ρ vs) xs).bind fun ns =>
  if ns.length ≤ 1000 ∧ (sos ns).length < 64 then some (.fr ((sos ns).map .int), ρ) else none else none
section
variable {X : Cx} {a b : Expr} {ma mb : Mq} {pos : Pos}
noncomputable def qBin (f : D → D → Option D) (ma mb : Mq) : Mq := fun ρ => (ma ρ).bind fun x => (mb ρ).bind fun y => f x y
theorem sq_ix (ha : SQ X a ma) (hb : SQ X b mb) (hs : PlainIx b) : SQ X (.Subscript a b pos) (qBin fIx ma mb) := by
  obtain ⟨r, h1, h2⟩ := oIx (X := X)
  refine pe_weak (pe_ix h1 ha hb hs) fun σ H Q ⟨G, ρ, F, z, W, hm, q⟩ => ?_
  unfold qBin at hm
  obtain ⟨x, e1, hm⟩ := Option.bind_eq_some_iff.mp hm
  obtain ⟨y, e2, hm⟩ := Option.bind_eq_some_iff.mp hm
  refine ⟨G, ρ, F, x, W, e1, fun v H1 F1 A1 R1 => ?_⟩
  have W1 := (W.alc A1).wd
  refine ⟨G, ρ, F1, y, W1, e2, fun u H2 F2 A2 R2 => ?_⟩
  exact h2 H2 F2 v u x y z A2.sub (vw_rep A2.sub (R1.mono A2.ff)) (vw_rep A2.sub R2) hm _ fun w H' F' A3 R3 => q w H' F' ((A1.trans A2).trans A3) R3
end
section
variable {K : Kx} {vs : List Nat} {jx jy : Nat} {m1 m2 : Mq}
theorem ts2_of {σ : L2.St} {H : Hp} {Q : VK} {G : Gd} {ρ : Rho} {F : Hp} {xs : List D} {ns : List Int} (W : Wd K G ρ σ H F) (hx : jx ∈ vs) (hy : jy ∈ vs) (pl : ∀ v ∈ vs, plainSl ρ[v]? = true) (e1 : m1 ρ = some (.tup xs)) (e2 : gath m2 jx (wipeR ρ vs) xs = some ns) (hl : ns.length ≤ 1000)
    (q : ∀ D H1 F1, Alc F H F1 H1 → H1 D = some (SetO K.w D (fun j => decide (j ∈ ns)) (sos ns).length) → Q (.ref D) H1) : tS2 K.w (iTup K.fr (tQ K m1)) (iTup K.fr (tQ K m2)) (gName jx) (gName jy) (tVar jy) vs [jy] σ H Q := by
  have ny : jy < σ.length := by
    rw [← W.len]
    have := pl jy hy
    cases e : ρ[jy]? with
    | none => rw [e] at this; cases this
    | some s => exact (List.getElem?_eq_some_iff.mp e).1
  refine ⟨G, ρ, F, .tup xs, W, e1, fun v H1 F1 A1 R1 => ?_⟩
  cases R1 with
  | tup hT hR =>
    rename_i a us
    have W1 := (W.alc A1).wd
    refine ⟨a, rfl, ⟨us, same_t A1.sub hT⟩, fun D hD => ?_⟩
    have fD : F1 D = none := A1.sub.free hD
    have Ww : Wd K G (wipeR ρ vs) (wipe σ vs) H1 F1 := wd_wipe W1 (fun j hj => wipe_ne hj) (wipe_length σ vs) fun v hv s es => ⟨(plain_of (pl v hv) s es).1, (plain_of2 (pl v hv) s es).2⟩
    have A0 : Alc F1 H1 F1 (upd H1 D (SetO K.w D (fun _ => false) 0)) := ⟨Same.refl _, A1.sub.trans (same_upd hD), same_upd hD, fun _ h => .inl h⟩
    refine ⟨fun i m H2 => m = xs.length - i ∧ i ≤ xs.length ∧ ∃ Fi acc rest, Alc F1 H1 Fi H2 ∧ Fi D = none ∧ H2 D = some (SetO K.w D (fun j => decide (j ∈ acc)) (sos acc).length) ∧ gath m2 jx (wipeR ρ vs) (xs.drop i) = some rest ∧ acc ++ rest = ns,
      ⟨xs.length, by simp, Nat.zero_le _, F1, [], ns, A0, fD, by rw [upd_same, sos_nil]; simp, e2, rfl⟩, ?_⟩
    rintro i m H2 ⟨rfl, hi, Fi, acc, rest, Ai, fi, hDi, hg, hn⟩
    have hT2 : SqT K H2 a us := same_t (Ai.ff.trans Ai.sub) hT
    by_cases hlt : i < xs.length
    · have hu : i < us.length := by rw [hR.len]; exact hlt
      refine .inr ⟨⟨us, us[i], hT2, List.getElem?_eq_getElem hu⟩, fun H' => ∃ Fi acc rest, Alc F1 H1 Fi H' ∧ Fi D = none ∧ H' D = some (SetO K.w D (fun j => decide (j ∈ acc)) (sos acc).length) ∧ gath m2 jx (wipeR ρ vs) (xs.drop (i + 1)) = some rest ∧ acc ++ rest = ns,
        fun H' ⟨Fj, aj, rj, z⟩ => ⟨xs.length - (i + 1), by omega, rfl, hlt, Fj, aj, rj, z⟩, fun x H' ⟨eH, y⟩ => ?_⟩
      subst eH
      have ex : us[i]? = some x := y us hT2
      obtain ⟨d, hd, Rd⟩ := hR.get ex
      have ed : xs[i] = d := by rw [List.getElem?_eq_getElem hlt] at hd; exact Option.some.inj hd
      rw [List.drop_eq_getElem_cons hlt, ed] at hg
      unfold gath at hg
      obtain ⟨ρ2, g1, hg⟩ := Option.bind_eq_some_iff.mp hg
      obtain ⟨d2, g2, hg⟩ := Option.bind_eq_some_iff.mp hg
      obtain ⟨ms, g3, hg⟩ := Option.bind_eq_some_iff.mp hg
      obtain ⟨r2, g4, hg⟩ := Option.bind_eq_some_iff.mp hg
      cases hg
      have W2 : Wd K G ρ2 ((wipe σ vs).set jx (some x)) H' Fi := asg_fz (Ww.alc Ai).wd (Rd.mono Ai.ff) g1
      refine ⟨wipe_of_mod (is := [jx]) (fun i hi => by rw [List.mem_singleton.mp hi]; exact hx) (Mod'.set jx _), G, ρ2, Fi, d2, W2, g2, fun v2 H3 F3 A3 R3 => ?_⟩
      unfold tupInts at g3
      split at g3
      · rename_i ys
        cases R3 with
        | tup hT3 hR3 =>
          rename_i b zs
          have hz : zs = ms.map V.int := intsD_ok hR3 g3
          subst hz
          have A13 := Ai.trans A3
          have f3 : F3 D = none := by
            cases z : F3 D with
            | none => rfl
            | some o =>
              rcases A3.nf D (by rw [z]; simp) with q | q
              · exact absurd fi q
              · rw [hDi] at q; cases q
          have h3D := A3.hh _ _ hDi
          refine ⟨b, rfl, ⟨_, same_t A3.sub hT3⟩, fun j k H4 => k = ms.length - j ∧ j ≤ ms.length ∧ Alc F1 H1 F3 H4 ∧ H4 D = some (SetO K.w D (fun i => decide (i ∈ acc ++ ms.take j)) (sos (acc ++ ms.take j)).length), ⟨ms.length, by simp, Nat.zero_le _, A13, by simpa using h3D⟩, ?_⟩
          rintro j k H4 ⟨rfl, hj, A4, hD4⟩
          have hT4 : SqT K H4 b (ms.map V.int) := same_t A4.sub hT3
          by_cases hlj : j < ms.length
          · refine .inr ⟨⟨_, V.int ms[j], hT4, by rw [List.getElem?_map, List.getElem?_eq_getElem hlj]; rfl⟩, fun H5 => Alc F1 H1 F3 H5 ∧ H5 D = some (SetO K.w D (fun i => decide (i ∈ acc ++ ms.take (j + 1))) (sos (acc ++ ms.take (j + 1))).length),
              fun H' z => ⟨ms.length - (j + 1), by omega, rfl, hlj, z⟩, fun x2 H5 ⟨eH, y2⟩ => ?_⟩
            subst eH
            have e5 : x2 = V.int ms[j] := by
              have := y2 _ hT4
              rw [List.getElem?_map, List.getElem?_eq_getElem hlj] at this
              exact (Option.some.inj this).symm
            subst e5
            refine ⟨wipe_of_mod (is := [jy]) (fun i hi => hi) (Mod'.set jy _), _, List.getElem?_set_self ?_, ms[j], _, _, rfl, hD4, ?_, ⟨A4.ff, ?_, ?_, A4.nf⟩, ?_⟩
            · rw [wipe_length, List.length_set, wipe_length]; exact ny
            · have l1 := sos_le (acc ++ ms.take j)
              have l2 : (acc ++ ms.take j).length ≤ ns.length := by
                rw [← hn, List.length_append, List.length_append, List.length_append, List.length_take]
                omega
              unfold scanBound
              omega
            · intro b o e
              rw [upd_ne (ne_of_none e f3)]
              exact A4.sub _ _ e
            · intro b o e
              rw [upd_ne (ne_of_none e hD)]
              exact A4.hh _ _ e
            · rw [upd_same]
              have t1 : ms.take (j + 1) = ms.take j ++ [ms[j]] := by rw [List.take_add_one, List.getElem?_eq_getElem hlj]; rfl
              rw [t1, ← List.append_assoc, sos_snoc]
              congr 2
              funext i
              simp only [List.mem_append, List.mem_singleton, Bool.decide_or]
          · have ej : j = ms.length := by omega
            subst ej
            rw [List.take_length] at hD4
            exact .inl ⟨⟨_, hT4, by rw [List.length_map]; exact Nat.le_refl _⟩, F3, acc ++ ms, r2, A4, f3, hD4, g4, by rw [List.append_assoc]; exact hn⟩
      · cases g3
    · have e : i = xs.length := by omega
      subst e
      rw [List.drop_length] at hg
      cases hg
      rw [List.append_nil] at hn
      subst hn
      exact .inl ⟨⟨us, hT2, by rw [hR.len]; exact Nat.le_refl _⟩, q D H2 Fi (A1.trans Ai) hDi⟩
end
section
variable {X : Cx} {el x0 a0 x1 a1 : Expr} {sc : Scope} {pos pos2 p : Pos} {own : List (Str × Nat)} {jx jy : Nat} {m1 m2 : Mq}
theorem se_sortS2 (hc : X.calm = true) (hN : X.N.Nodup) (hm : X.mg "sorted" = none) (hg : Gl X "sorted") (h1 : SQ X a0 m1) (ok : BlkOk X.N X.env.scope sc own) (hx : jx ∈ own.map (·.2)) (hy : jy ∈ own.map (·.2))
    (hg0 : ∀ (s : Shared) (H : Hp) (C : Addr) (cl : List (Str × Addr)) (fp : List Addr), PG (X.blk s H sc (compEnvC sc cl C X.env) fp) x0 (gName jx))
    (h2 : ∀ (s : Shared) (H : Hp) (C : Addr) (cl : List (Str × Addr)) (fp : List Addr), SQ (X.blk s H sc (compEnvC sc cl C X.env) fp) a1 m2)
    (hg1 : ∀ (s : Shared) (H : Hp) (C : Addr) (cl : List (Str × Addr)) (fp : List Addr), PG (X.blk s H sc (compEnvC sc cl C X.env) fp) x1 (gName jy))
    (he : ∀ (s : Shared) (H : Hp) (C : Addr) (cl : List (Str × Addr)) (fp : List Addr), PE (X.blk s H sc (compEnvC sc cl C X.env) fp) el (tVar jy))
    (hs : ∀ x, foldedSetIterable a0 X.env x = pure x := by intro _; rfl) (hs1 : ∀ env x, foldedSetIterable a1 env x = pure x := by intro _ _; rfl)
    (he2 : starEach [cc2 el x0 a0 x1 a1 sc pos2] X.env = (false, eval (cc2 el x0 a0 x1 a1 sc pos2) X.env) :: starEach [] X.env := by rfl) (hpl2 : (backTo pos (starEach [] X.env)).any (·.1) = false := by rfl) :
    SE X (.Call (.Name "sorted" p) [cc2 el x0 a0 x1 a1 sc pos2] [] pos) (eS2 (own.map (·.2)) jx m1 m2) := by
  refine pe_weak (pe_callB (cr_sortedSet hc) hg hm (by decide +kernel) (pa_cons (pe_s2 (vs1 := [jy]) (wi1 := iTup X.K (tQ X.kx m2)) (g := gName jx) (g1 := gName jy) (te := tVar jy) hc hN (pi_tup h1) ok (fun i hi => by rw [List.mem_singleton.mp hi]; exact hy) hg0 (fun s H C cl fp => pi_tup (h2 s H C cl fp)) hg1 he hs hs1) pa_nil he2) (by decide) (by decide) he2 hpl2) fun σ H Q ⟨G, ρ, F, r0, ρ', W, hm, q⟩ => ?_
  unfold eS2 at hm
  split at hm
  · rename_i hpl
    obtain ⟨d, e1, hm1⟩ := Option.bind_eq_some_iff.mp hm
    obtain ⟨xs, e2, hm2⟩ := Option.bind_eq_some_iff.mp hm1
    obtain ⟨ns, e3, hm3⟩ := Option.bind_eq_some_iff.mp hm2
    clear hm hm1 hm2
    unfold tupDs at e2
    split at e2
    · cases e2
      split at hm3
      · rename_i hl
        cases hm3
        show tS2 X.w (iTup X.K (tQ X.kx m1)) (iTup X.K (tQ X.kx m2)) (gName jx) (gName jy) (tVar jy) (own.map (·.2)) [jy] σ H (fun x H1 => rSortedSet X.w [x] H1 Q)
        refine ts2_of (K := X.kx) (jy := jy) W hx hy (fun v hv => List.all_eq_true.mp hpl v hv) e1 e3 hl.1 fun D H1 F1 A1 hD => ?_
        refine ⟨D, _, _, rfl, hD, hl.2, fun ms b hms hmem _ hb => ?_⟩
        have em : ms = sos ns := asc_uniq hms (sos_lt ns) fun k => by rw [hmem, sos_mem, decide_eq_true_eq]
        subst em
        exact new_fr (W.alc A1) (reps_ints _) hb q
      · cases hm3
    · cases e2
  · cases hm
end
end Sw
namespace K69
open Sw
noncomputable def tx_0123456789abcd : List Nat := [9, 10, 32, 33, 34, 35, 36, 38, 39, 40, 41, 42, 43, 44, 45, 46, 47, 48, 49, 50, 51, 52, 53, 54, 55, 56, 57, 58, 59, 60, 61, 62, 63, 64, 65, 66, 67, 68, 69, 70, 71, 72, 73, 74, 75, 76, 77, 78, 79, 80, 81, 82, 83, 84, 85, 86, 87, 88, 89, 90, 91, 92, 93, 94, 95, 96]
noncomputable def tx_abcdefghijklmn : List Nat := [97, 98, 99, 100, 101, 102, 103, 104, 105, 106, 107, 108, 109, 110, 111, 112, 113, 114, 115, 116, 117, 118, 119, 120, 121, 122, 123, 124, 125, 126]
/-- _law_draw(_law_script): slots 0=_law_script 1=_law_digits 2=_law_one 3=_law_two 4=_law_cell 5=_law_rest 6=_law_k -/
noncomputable def b_law_draw : S := (sSeq (sAsg 1 (eLst aNil))
  (sSeq (sAsg 2 (eC (.int 7)))
  (sSeq (sAsg 3 (eC (.int 11)))
  (sSeq (sFor (iSq (eVar 0)) (gN 4) (sSeq (sAsg 2 (eBin fMod (eBlt cInt (aCons (eBin fAdd (eBin fMul (eVar 2) (eC (.int 48271))) (eVar 4)) aNil)) (eC (.int 2147483647))))
  (sSeq (sAsg 3 (eBin fMod (eBlt cInt (aCons (eBin fAdd (eBin fMul (eVar 3) (eC (.int 69621))) (eBin fDiv (eVar 4) (eC (.int 1009)))) aNil)) (eC (.int 2147483629))))
  (sSeq (sAsg 5 (eVar 4))
  (sSeq (sIf (tE (eBin fLt (eVar 4) (eBin fPow (eC (.int 10)) (eC (.int 18))))) (sAsg 5 (eC (.int 0))) sNx)
  (sFor (iR1 (aCons (eC (.int 60)) aNil)) (gN 6) (sIf (tE (eBin fGt (eVar 5) (eC (.int 0)))) (sSeq (sApp 1 (eBin fMod (eBlt cInt (aCons (eVar 5) aNil)) (eC (.int 5040))))
  (sAsg 5 (eBin fDiv (eVar 5) (eC (.int 5040))))) sNx)))))))
  (sRet (eLst (aCons (eC (.int 0)) (aCons (eVar 2) (aCons (eVar 3) (aCons (eVar 1) (aCons (eC (.int 3)) aNil)))))))))))
noncomputable def f_law_draw : Fn := fnS 1 7 b_law_draw
/-- _law_is_marks(_law_told): slots 0=_law_told 1=_law_mark_here -/
noncomputable def b_law_is_marks : S := (sSeq (sIf (tNot (tE (eUn (fIsi "tuple") (eVar 0)))) (sRet (eC (.bl false))) sNx)
  (sSeq (sFor (iSq (eVar 0)) (gN 1) (sIf (tNot (tE (eUn (fIsi "bool") (eVar 1)))) (sRet (eC (.bl false))) sNx))
  (sRet (eC (.bl true)))))
noncomputable def f_law_is_marks : Fn := fnS 1 2 b_law_is_marks
/-- _law_kept(_law_given, _law_machine_here): slots 0=_law_given 1=_law_machine_here -/
noncomputable def b_law_kept : S := (sRet (eAnd (eBin fEq (eUn (fAt "Machine" "cells") (eVar 0)) (eBin fIx (eVar 1) (eC (.int 0)))) (eAnd (eBin fEq (eUn (fAt "Machine" "rows") (eVar 0)) (eBin fIx (eVar 1) (eC (.int 1)))) (eBin fEq (eUn (fAt "Machine" "accepting") (eVar 0)) (eBin fIx (eVar 1) (eC (.int 2)))))))
noncomputable def f_law_kept : Fn := fnS 2 2 b_law_kept
/-- _law_mark(_law_head, _law_loop, _law_length): slots 0=_law_head 1=_law_loop 2=_law_length -/
noncomputable def b_law_mark : S := (sSeq (sIf (tE (eBin fLt (eVar 2) (eBlt cLen (aCons (eVar 0) aNil)))) (sRet (eBin fIx (eVar 0) (eVar 2))) sNx)
  (sRet (eBin fIx (eVar 1) (eBin fMod (eBlt cInt (aCons (eBin fSub (eVar 2) (eBlt cLen (aCons (eVar 0) aNil))) aNil)) (eBlt cLen (aCons (eVar 1) aNil))))))
noncomputable def f_law_mark : Fn := fnS 3 3 b_law_mark
/-- _law_sequence(_law_machine_here): slots 0=_law_machine_here 1=_law_known 2=_law_marks 3=_law_reached 4=_law_k 5=_law_later 6=_law_state 7=_law_target -/
noncomputable def b_law_sequence : S := (sSeq (sDNew 1)
  (sSeq (sAsg 2 (eLst aNil))
  (sSeq (sAsg 3 (eTup (aCons (eC (.int 0)) aNil)))
  (sSeq (sFor (iR1 (aCons (eC (.int 20000)) aNil)) (gN 4) (sSeq (sIf (tE (eDIn 1 (eVar 3))) (sRet (eLst (aCons (eVar 2) (aCons (eDGet 1 (eVar 3)) aNil)))) sNx)
  (sSeq (sDPut 1 (eVar 3) (eVar 4))
  (sSeq (sApp 2 (eBin fIn (eC (.bl true)) (eLc [6] (iSq (eVar 3)) (gN 6) tYesM (eBin fIx (eBin fIx (eVar 0) (eC (.int 2))) (eVar 6)))))
  (sSeq (sAsg 5 (eLst aNil))
  (sSeq (sFor (iSq (eVar 3)) (gN 6) (sAsg 5 (eAdd (eVar 5) (eLc [7] (iSq (eBin fIx (eBin fIx (eVar 0) (eC (.int 1))) (eVar 6))) (gN 7) (tE (eBin fNi (eVar 7) (eVar 5))) (eVar 7)))))
  (sAsg 3 (eBlt cTup (aCons (eSoS (aCons (eVar 5) aNil)) aNil)))))))))
  (sRet (eLst (aCons (eVar 2) (aCons (eC (.int 0)) aNil))))))))
noncomputable def f_law_sequence : Fn := fnS 1 8 b_law_sequence
/-- least_loop(loop): slots 0=loop 1=size -/
noncomputable def b_least_loop : S := (sSeq (sFor (iR2 (aCons (eC (.int 1)) (aCons (eBlt cLen (aCons (eVar 0) aNil)) aNil))) (gN 1) (sIf (tE (eBin fEq (eVar 0) (eAdd (eSl fSlA (eVar 0) (oSome (eVar 1)) oNo) (eSl fSlA (eVar 0) oNo (oSome (eVar 1)))))) (sRet (eSl fSlA (eVar 0) oNo (oSome (eVar 1)))) sNx))
  (sRet (eVar 0)))
noncomputable def f_least_loop : Fn := fnS 1 2 b_least_loop
/-- successors(rows, reached): slots 0=rows 1=reached 2=state 3=later -/
noncomputable def b_successors : S := (sRet (eBlt cTup (aCons (eS2 [2, 3] 2 (qVar 1) (qBin fIx (qVar 0) (qVar 2))) aNil)))
noncomputable def f_successors : Fn := fnS 2 4 b_successors
/-- length_cycle(machine): slots 0=machine 1=numbers 2=marks 3=reached 4=head 5=loop 6=state -/
noncomputable def b_length_cycle : S := (sSeq (sDNew 1)
  (sSeq (sAsg 2 (eLst aNil))
  (sSeq (sAsg 3 (eTup (aCons (eC (.int 0)) aNil)))
  (sSeq (sWhile (tE (eDNin 1 (eVar 3))) (sSeq (sDPut 1 (eVar 3) (eBlt cLen (aCons (eVar 2) aNil)))
  (sSeq (sApp 2 (eBlt cAny (aCons (eLc [6] (iSq (eVar 3)) (gN 6) tYesM (eBin fIx (eUn (fAt "Machine" "accepting") (eVar 0)) (eVar 6))) aNil)))
  (sAsg 3 (eCall f_successors [] (aCons (eUn (fAt "Machine" "rows") (eVar 0)) (aCons (eVar 3) aNil)))))))
  (sSeq (sAsg 4 (eSl fSlA (eVar 2) oNo (oSome (eDGet 1 (eVar 3)))))
  (sSeq (sAsg 5 (eCall f_least_loop [] (aCons (eSl fSlA (eVar 2) (oSome (eDGet 1 (eVar 3))) oNo) aNil)))
  (sSeq (sWhile (tAnd (tE (eBin fGt (eBlt cLen (aCons (eVar 4) aNil)) (eC (.int 0)))) (tE (eBin fEq (eBin fIx (eVar 4) (eUn fNeg (eC (.int 1)))) (eBin fIx (eVar 5) (eUn fNeg (eC (.int 1))))))) (sSeq (sAsg 5 (eAdd (eLst (aCons (eBin fIx (eVar 5) (eUn fNeg (eC (.int 1)))) aNil)) (eSl fSlA (eVar 5) oNo (oSome (eUn fNeg (eC (.int 1)))))))
  (sAsg 4 (eSl fSlA (eVar 4) oNo (oSome (eUn fNeg (eC (.int 1))))))))
  (sRet (eTup (aCons (eBlt cTup (aCons (eVar 4) aNil)) (aCons (eBlt cTup (aCons (eVar 5) aNil)) aNil)))))))))))
noncomputable def f_length_cycle : Fn := fnS 1 7 b_length_cycle
/-- _law_holds(_law_machine_here, _law_given): slots 0=_law_machine_here 1=_law_given 2=_law_told 3=_law_head 4=_law_loop 5=_law_sequence_here 6=_law_marks 7=_law_length 8=_law_size 9=_law_due -/
noncomputable def b_law_holds : S := (sSeq (sAsg 2 (eCall f_length_cycle [] (aCons (eVar 1) aNil)))
  (sSeq (sIf (tOr (tNot (tE (eUn (fIsi "tuple") (eVar 2)))) (tOr (tE (eBin fNe (eBlt cLen (aCons (eVar 2) aNil)) (eC (.int 2)))) (tOr (tNot (tE (eCall f_law_is_marks [] (aCons (eBin fIx (eVar 2) (eC (.int 0))) aNil)))) (tNot (tE (eCall f_law_is_marks [] (aCons (eBin fIx (eVar 2) (eC (.int 1))) aNil))))))) (sRet (eC (.bl false))) sNx)
  (sSeq (sAsg 3 (eBin fIx (eVar 2) (eC (.int 0))))
  (sSeq (sAsg 4 (eBin fIx (eVar 2) (eC (.int 1))))
  (sSeq (sAsg 5 (eCall f_law_sequence [] (aCons (eVar 0) aNil)))
  (sSeq (sAsg 6 (eBin fIx (eVar 5) (eC (.int 0))))
  (sSeq (sIf (tOr (tE (eBin fEq (eBlt cLen (aCons (eVar 4) aNil)) (eC (.int 0)))) (tE (eBin fGt (eBin fAdd (eBlt cLen (aCons (eVar 3) aNil)) (eBlt cLen (aCons (eVar 4) aNil))) (eBlt cLen (aCons (eVar 6) aNil))))) (sRet (eC (.bl false))) sNx)
  (sSeq (sFor (iR1 (aCons (eBin fMul (eC (.int 3)) (eBlt cLen (aCons (eVar 6) aNil))) aNil)) (gN 7) (sSeq (sAsg 9 (eCall f_law_mark [] (aCons (eSl fSlA (eVar 6) oNo (oSome (eBin fIx (eVar 5) (eC (.int 1))))) (aCons (eSl fSlA (eVar 6) (oSome (eBin fIx (eVar 5) (eC (.int 1)))) oNo) (aCons (eVar 7) aNil)))))
  (sIf (tE (eBin fNe (eCall f_law_mark [] (aCons (eVar 3) (aCons (eVar 4) (aCons (eVar 7) aNil)))) (eVar 9))) (sRet (eC (.bl false))) sNx)))
  (sSeq (sFor (iR2 (aCons (eC (.int 1)) (aCons (eBlt cLen (aCons (eVar 4) aNil)) aNil))) (gN 8) (sIf (tE (eBin fEq (eVar 4) (eAdd (eSl fSlA (eVar 4) (oSome (eVar 8)) oNo) (eSl fSlA (eVar 4) oNo (oSome (eVar 8)))))) (sRet (eC (.bl false))) sNx))
  (sSeq (sIf (tAnd (tE (eBin fGt (eBlt cLen (aCons (eVar 3) aNil)) (eC (.int 0)))) (tE (eBin fEq (eBin fIx (eVar 3) (eBin fSub (eBlt cLen (aCons (eVar 3) aNil)) (eC (.int 1)))) (eBin fIx (eVar 4) (eBin fSub (eBlt cLen (aCons (eVar 4) aNil)) (eC (.int 1))))))) (sRet (eC (.bl false))) sNx)
  (sRet (eCall f_law_kept [] (aCons (eVar 1) (aCons (eVar 0) aNil))))))))))))))
noncomputable def f_law_holds : Fn := fnS 2 10 b_law_holds
/-- _law_next(_law_draw_here, _law_many): slots 0=_law_draw_here 1=_law_many 2=_law_at -/
noncomputable def b_law_next : S := (sSeq (sAsg 2 (eBin fIx (eVar 0) (eC (.int 0))))
  (sSeq (sIf (tE (eBin fLt (eVar 2) (eBlt cLen (aCons (eBin fIx (eVar 0) (eC (.int 3))) aNil)))) (sSeq (sSetI 0 (eC (.int 0)) (eBin fAdd (eVar 2) (eC (.int 1))))
  (sRet (eBin fMod (eBlt cInt (aCons (eBin fIx (eBin fIx (eVar 0) (eC (.int 3))) (eVar 2)) aNil)) (eVar 1)))) sNx)
  (sSeq (sSetI 0 (eC (.int 1)) (eBin fMod (eBlt cInt (aCons (eBin fAdd (eBin fMul (eBin fIx (eVar 0) (eC (.int 1))) (eC (.int 48271))) (eC (.int 12345))) aNil)) (eC (.int 2147483647))))
  (sSeq (sSetI 0 (eC (.int 2)) (eBin fMod (eBlt cInt (aCons (eBin fAdd (eBin fMul (eBin fIx (eVar 0) (eC (.int 2))) (eC (.int 69621))) (eC (.int 777))) aNil)) (eC (.int 2147483629))))
  (sRet (eBin fMod (eBlt cInt (aCons (eBin fAdd (eBin fDiv (eBin fIx (eVar 0) (eC (.int 1))) (eC (.int 64))) (eBin fDiv (eBin fIx (eVar 0) (eC (.int 2))) (eC (.int 128)))) aNil)) (eVar 1)))))))
noncomputable def f_law_next : Fn := fnS 2 3 b_law_next
/-- _law_signs(): slots 0=_law_signs_here -/
noncomputable def b_law_signs : S := (sSeq (sAsg 0 (eC (.str tx_0123456789abcd)))
  (sRet (eBin fAdd (eVar 0) (eC (.str tx_abcdefghijklmn)))))
noncomputable def f_law_signs : Fn := fnS 0 1 b_law_signs
/-- _law_letters(_law_draw_here): slots 0=_law_draw_here 1=_law_choice 2=_law_signs_here 3=_law_first 4=_law_second 5=_law_third 6=_law_k -/
noncomputable def b_law_letters : S := (sSeq (sAsg 1 (eCall f_law_next [true, false] (aCons (eVar 0) (aCons (eC (.int 6)) aNil))))
  (sSeq (sIf (tE (eBin fEq (eVar 1) (eC (.int 0)))) (sRet (eC (.str [10, 97, 98]))) sNx)
  (sSeq (sIf (tE (eBin fEq (eVar 1) (eC (.int 1)))) (sRet (eC (.str [32, 97, 98]))) sNx)
  (sSeq (sIf (tE (eBin fEq (eVar 1) (eC (.int 2)))) (sRet (eC (.str [97, 98, 99]))) sNx)
  (sSeq (sAsg 2 (eCall f_law_signs [] aNil))
  (sSeq (sAsg 3 (eCall f_law_next [true, false] (aCons (eVar 0) (aCons (eC (.int 96)) aNil))))
  (sSeq (sAsg 4 (eBin fMod (eBlt cInt (aCons (eBin fAdd (eBin fAdd (eVar 3) (eC (.int 1))) (eCall f_law_next [true, false] (aCons (eVar 0) (aCons (eC (.int 95)) aNil)))) aNil)) (eC (.int 96))))
  (sSeq (sAsg 5 (eBin fMod (eBlt cInt (aCons (eBin fAdd (eBin fAdd (eVar 3) (eC (.int 1))) (eCall f_law_next [true, false] (aCons (eVar 0) (aCons (eC (.int 95)) aNil)))) aNil)) (eC (.int 96))))
  (sSeq (sIf (tE (eBin fEq (eVar 5) (eVar 4))) (sAsg 5 (eBin fMod (eBlt cInt (aCons (eBin fAdd (eVar 5) (eC (.int 1))) aNil)) (eC (.int 96)))) sNx)
  (sSeq (sIf (tE (eBin fEq (eVar 5) (eVar 3))) (sAsg 5 (eBin fMod (eBlt cInt (aCons (eBin fAdd (eVar 5) (eC (.int 1))) aNil)) (eC (.int 96)))) sNx)
  (sRet (eMet fJoin (eC (.str [])) (aCons (eLc [6] (iR1 (aCons (eC (.int 96)) aNil)) (gN 6) (tOr (tE (eBin fEq (eVar 6) (eVar 3))) (tOr (tE (eBin fEq (eVar 6) (eVar 4))) (tE (eBin fEq (eVar 6) (eVar 5))))) (eBin fIx (eVar 2) (eVar 6))) aNil)))))))))))))
noncomputable def f_law_letters : Fn := fnS 1 7 b_law_letters
/-- _law_division(_law_draw_here, _law_letters_here): slots 0=_law_draw_here 1=_law_letters_here 2=_law_signs_here 3=_law_choice 4=_law_places 5=_law_low 6=_law_many 7=_law_parts 8=_law_k 9=_law_rest 10=_law_group 11=_law_part -/
noncomputable def b_law_division : S := (sSeq (sAsg 2 (eCall f_law_signs [] aNil))
  (sSeq (sAsg 3 (eCall f_law_next [true, false] (aCons (eVar 0) (aCons (eC (.int 12)) aNil))))
  (sSeq (sIf (tE (eBin fEq (eVar 3) (eC (.int 0)))) (sRet (eTup (aCons (eVar 2) aNil))) sNx)
  (sSeq (sIf (tE (eBin fEq (eVar 3) (eC (.int 11)))) (sSeq (sAsg 5 (eCall f_law_next [true, false] (aCons (eVar 0) (aCons (eC (.int 84)) aNil))))
  (sSeq (sAsg 9 (eAdd (eSl fSlA (eVar 2) oNo (oSome (eVar 5))) (eSl fSlA (eVar 2) (oSome (eBin fAdd (eVar 5) (eC (.int 12)))) oNo)))
  (sRet (eBlt cTup (aCons (eSorted (aCons (eAdd (eLst (aCons (eVar 9) aNil)) (eLc [8] (iR2 (aCons (eVar 5) (aCons (eBin fAdd (eVar 5) (eC (.int 12))) aNil))) (gN 8) tYesM (eBin fIx (eVar 2) (eVar 8)))) aNil)) aNil))))) sNx)
  (sSeq (sAsg 4 (eLst (aCons (eC (.int 1)) (aCons (eC (.int 2)) (aCons (eC (.int 3)) aNil)))))
  (sSeq (sIf (tE (eBin fLt (eVar 3) (eC (.int 5)))) (sAsg 4 (eLc [8] (iR1 (aCons (eC (.int 3)) aNil)) (gN 8) tYesM (eCall f_law_next [true, false] (aCons (eVar 0) (aCons (eC (.int 4)) aNil))))) sNx)
  (sSeq (sAsg 5 (eC (.int 96)))
  (sSeq (sAsg 6 (eC (.int 0)))
  (sSeq (sIf (tE (eBin fIn (eVar 3) (eTup (aCons (eC (.int 1)) (aCons (eC (.int 5)) (aCons (eC (.int 6)) aNil)))))) (sSeq (sAsg 5 (eCall f_law_next [true, false] (aCons (eVar 0) (aCons (eC (.int 96)) aNil))))
  (sAsg 6 (eBin fAdd (eC (.int 1)) (eCall f_law_next [true, false] (aCons (eVar 0) (aCons (eC (.int 30)) aNil)))))) sNx)
  (sSeq (sAsg 7 (eLst (aCons (eC (.str [])) (aCons (eC (.str [])) (aCons (eC (.str [])) (aCons (eC (.str [])) (aCons (eC (.str [])) aNil)))))))
  (sSeq (sFor (iR1 (aCons (eC (.int 96)) aNil)) (gN 8) (sSeq (sAsg 10 (eC (.int 0)))
  (sSeq (sIf (tAnd (tE (eBin fLe (eVar 5) (eVar 8))) (tE (eBin fLt (eVar 8) (eAdd (eVar 5) (eVar 6))))) (sAsg 10 (eC (.int 4))) sNx)
  (sSeq (sIf (tE (eBin fIn (eBin fIx (eVar 2) (eVar 8)) (eVar 1))) (sAsg 10 (eBin fIx (eVar 4) (eMet fFind (eVar 1) (aCons (eBin fIx (eVar 2) (eVar 8)) aNil)))) sNx)
  (sSetI 7 (eVar 10) (eAdd (eBin fIx (eVar 7) (eVar 10)) (eBin fIx (eVar 2) (eVar 8))))))))
  (sRet (eBlt cTup (aCons (eSorted (aCons (eLc [11] (iSq (eVar 7)) (gN 11) (tE (eBin fNe (eVar 11) (eC (.str [])))) (eVar 11)) aNil)) aNil))))))))))))))
noncomputable def f_law_division : Fn := fnS 2 12 b_law_division
/-- _law_machine(_law_draw_here, _law_letters_here, _law_most): slots 0=_law_draw_here 1=_law_letters_here 2=_law_most 3=_law_cells 4=_law_many 5=_law_shape 6=_law_rows 7=_law_marks 8=_law_state 9=_law_row 10=_law_cell 11=_law_later -/
noncomputable def b_law_machine : S := (sSeq (sAsg 3 (eCall f_law_division [true, false] (aCons (eVar 0) (aCons (eVar 1) aNil))))
  (sSeq (sAsg 4 (eBin fAdd (eC (.int 1)) (eCall f_law_next [true, false] (aCons (eVar 0) (aCons (eVar 2) aNil)))))
  (sSeq (sAsg 5 (eCall f_law_next [true, false] (aCons (eVar 0) (aCons (eC (.int 6)) aNil))))
  (sSeq (sAsg 6 (eLst aNil))
  (sSeq (sAsg 7 (eLst aNil))
  (sSeq (sFor (iR1 (aCons (eVar 4) aNil)) (gN 8) (sSeq (sAsg 9 (eLst aNil))
  (sSeq (sFor (iSq (eVar 3)) (gN 10) (sSeq (sAsg 11 (eCall f_law_next [true, false] (aCons (eVar 0) (aCons (eVar 4) aNil))))
  (sSeq (sIf (tE (eBin fEq (eVar 5) (eC (.int 0)))) (sAsg 11 (eBlt cMin (aCons (eBin fSub (eVar 4) (eC (.int 1))) (aCons (eBin fAdd (eBin fAdd (eVar 8) (eC (.int 1))) (eBin fDiv (eVar 11) (eC (.int 2)))) aNil)))) sNx)
  (sSeq (sIf (tAnd (tE (eBin fEq (eVar 5) (eC (.int 1)))) (tE (eBin fEq (eCall f_law_next [true, false] (aCons (eVar 0) (aCons (eC (.int 2)) aNil))) (eC (.int 0))))) (sAsg 11 (eBin fMod (eBlt cInt (aCons (eBin fAdd (eVar 8) (eC (.int 1))) aNil)) (eVar 4))) sNx)
  (sSeq (sIf (tAnd (tE (eBin fEq (eVar 5) (eC (.int 2)))) (tOr (tE (eBin fEq (eVar 8) (eBin fSub (eVar 4) (eC (.int 1))))) (tE (eBin fEq (eCall f_law_next [true, false] (aCons (eVar 0) (aCons (eC (.int 2)) aNil))) (eC (.int 0)))))) (sAsg 11 (eBin fSub (eVar 4) (eC (.int 1)))) sNx)
  (sApp 9 (eVar 11)))))))
  (sSeq (sApp 6 (eBlt cTup (aCons (eVar 9) aNil)))
  (sApp 7 (eBin fLt (eCall f_law_next [true, false] (aCons (eVar 0) (aCons (eC (.int 5)) aNil))) (eC (.int 2))))))))
  (sSeq (sIf (tAnd (tE (eBin fIn (eVar 5) (eTup (aCons (eC (.int 0)) (aCons (eC (.int 2)) aNil))))) (tE (eBin fGt (eCall f_law_next [true, false] (aCons (eVar 0) (aCons (eC (.int 4)) aNil))) (eC (.int 0))))) (sSetI 7 (eBin fSub (eVar 4) (eC (.int 1))) (eC (.bl false))) sNx)
  (sSeq (sIf (tAnd (tE (eBin fNi (eC (.bl true)) (eVar 7))) (tE (eBin fGt (eCall f_law_next [true, false] (aCons (eVar 0) (aCons (eC (.int 8)) aNil))) (eC (.int 0))))) (sSetI 7 (eCall f_law_next [true, false] (aCons (eVar 0) (aCons (eVar 4) aNil))) (eC (.bl true))) sNx)
  (sRet (eTup (aCons (eVar 3) (aCons (eBlt cTup (aCons (eVar 6) aNil)) (aCons (eBlt cTup (aCons (eVar 7) aNil)) aNil)))))))))))))
noncomputable def f_law_machine : Fn := fnS 3 12 b_law_machine
/-- __init__(self, cells, rows, accepting): slots 0=self 1=cells 2=rows 3=accepting -/
noncomputable def i_Machine : SI0 := (iSeq (iFld "cells" (eVar 1))
  (iSeq (iFld "rows" (eVar 2))
  (iSeq (iFld "accepting" (eVar 3))
  iNx)))
noncomputable def g_Machine : List D → Option (List PySem.Str × List D) := fun ds => if ds.length = 3 then (i_Machine (.no :: (ds.map .d ++ List.replicate (4 - (3 + 1)) .no), [], [])).bind fun r => some r.2 else none
theorem g_Machine_len : ∀ (ds : List D) (z : List PySem.Str × List D), g_Machine ds = some z → ds.length = 3 := fun ds z h => by
  unfold g_Machine at h
  split at h
  · assumption
  · cases h
/-- _law_made(_law_machine_here): slots 0=_law_machine_here -/
noncomputable def b_law_made : S := (sRet (eMake "Machine" g_Machine (aCons (eBin fIx (eVar 0) (eC (.int 0))) (aCons (eBin fIx (eVar 0) (eC (.int 1))) (aCons (eBin fIx (eVar 0) (eC (.int 2))) aNil)))))
noncomputable def f_law_made : Fn := fnS 1 1 b_law_made
/-- _law_ring(_law_draw_here, _law_cells, _law_start, _law_many, _law_dead): slots 0=_law_draw_here 1=_law_cells 2=_law_start 3=_law_many 4=_law_dead 5=_law_kept_here 6=_law_rows 7=_law_k 8=_law_row 9=_law_cell 10=_law_later -/
noncomputable def b_law_ring : S := (sSeq (sAsg 5 (eCall f_law_next [true, false] (aCons (eVar 0) (aCons (eBlt cLen (aCons (eVar 1) aNil)) aNil))))
  (sSeq (sAsg 6 (eLst aNil))
  (sSeq (sFor (iR1 (aCons (eVar 3) aNil)) (gN 7) (sSeq (sAsg 8 (eLst aNil))
  (sSeq (sFor (iR1 (aCons (eBlt cLen (aCons (eVar 1) aNil)) aNil)) (gN 9) (sSeq (sAsg 10 (eBin fAdd (eVar 2) (eBin fMod (eBlt cInt (aCons (eBin fAdd (eVar 7) (eC (.int 1))) aNil)) (eVar 3))))
  (sSeq (sIf (tAnd (tE (eBin fNe (eVar 9) (eVar 5))) (tE (eBin fEq (eCall f_law_next [true, false] (aCons (eVar 0) (aCons (eC (.int 3)) aNil))) (eC (.int 0))))) (sAsg 10 (eVar 4)) sNx)
  (sApp 8 (eVar 10)))))
  (sApp 6 (eBlt cTup (aCons (eVar 8) aNil))))))
  (sRet (eVar 6)))))
noncomputable def f_law_ring : Fn := fnS 5 11 b_law_ring
/-- _law_wheels(_law_draw_here, _law_letters_here): slots 0=_law_draw_here 1=_law_letters_here 2=_law_cells 3=_law_chain 4=_law_first 5=_law_second 6=_law_dead 7=_law_rows 8=_law_marks 9=_law_k 10=_law_cell -/
noncomputable def b_law_wheels : S := (sSeq (sAsg 2 (eCall f_law_division [true, false] (aCons (eVar 0) (aCons (eVar 1) aNil))))
  (sSeq (sAsg 3 (eBin fAdd (eC (.int 1)) (eCall f_law_next [true, false] (aCons (eVar 0) (aCons (eC (.int 3)) aNil)))))
  (sSeq (sAsg 4 (eBin fAdd (eC (.int 1)) (eCall f_law_next [true, false] (aCons (eVar 0) (aCons (eC (.int 5)) aNil)))))
  (sSeq (sAsg 5 (eBin fAdd (eC (.int 1)) (eCall f_law_next [true, false] (aCons (eVar 0) (aCons (eC (.int 5)) aNil)))))
  (sSeq (sAsg 6 (eAdd (eAdd (eVar 3) (eVar 4)) (eVar 5)))
  (sSeq (sAsg 7 (eLc [9] (iR1 (aCons (eBin fSub (eVar 3) (eC (.int 1))) aNil)) (gN 9) tYesM (eBlt cTup (aCons (eLc [10] (iSq (eVar 2)) (gN 10) tYesM (eBin fAdd (eVar 9) (eC (.int 1)))) aNil))))
  (sSeq (sApp 7 (eBlt cTup (aCons (eLc [10] (iSq (eVar 2)) (gN 10) tYesM (eBin fIx (eLst (aCons (eVar 3) (aCons (eAdd (eVar 3) (eVar 4)) (aCons (eVar 6) aNil)))) (eCall f_law_next [true, false] (aCons (eVar 0) (aCons (eC (.int 3)) aNil))))) aNil)))
  (sSeq (sAsg 7 (eAdd (eVar 7) (eCall f_law_ring [true, false, false, false, false] (aCons (eVar 0) (aCons (eVar 2) (aCons (eVar 3) (aCons (eVar 4) (aCons (eVar 6) aNil))))))))
  (sSeq (sAsg 7 (eAdd (eVar 7) (eCall f_law_ring [true, false, false, false, false] (aCons (eVar 0) (aCons (eVar 2) (aCons (eAdd (eVar 3) (eVar 4)) (aCons (eVar 5) (aCons (eVar 6) aNil))))))))
  (sSeq (sApp 7 (eBlt cTup (aCons (eLc [10] (iSq (eVar 2)) (gN 10) tYesM (eVar 6)) aNil)))
  (sSeq (sAsg 8 (eLc [9] (iR1 (aCons (eVar 6) aNil)) (gN 9) tYesM (eBin fEq (eCall f_law_next [true, false] (aCons (eVar 0) (aCons (eC (.int 3)) aNil))) (eC (.int 0)))))
  (sSeq (sIf (tE (eBin fEq (eCall f_law_next [true, false] (aCons (eVar 0) (aCons (eC (.int 2)) aNil))) (eC (.int 0)))) (sSeq (sAsg 8 (eLc [9] (iR1 (aCons (eVar 6) aNil)) (gN 9) tYesM (eAnd (eBin fIx (eVar 8) (eVar 9)) (eBin fGe (eVar 9) (eVar 3)))))
  (sSetI 8 (eVar 3) (eC (.bl true)))) sNx)
  (sRet (eTup (aCons (eVar 2) (aCons (eBlt cTup (aCons (eVar 7) aNil)) (aCons (eBlt cTup (aCons (eAdd (eVar 8) (eLst (aCons (eC (.bl false)) aNil))) aNil)) aNil)))))))))))))))))
noncomputable def f_law_wheels : Fn := fnS 2 11 b_law_wheels
/-- law(_law_script): slots 0=_law_script 1=_law_draw_here 2=_law_letters_here 3=_law_machines 4=_law_k 5=_law_given 6=_law_machine_here -/
noncomputable def b_law : S := (sSeq (sAsg 1 (eCall f_law_draw [] (aCons (eVar 0) aNil)))
  (sSeq (sAsg 2 (eCall f_law_letters [true] (aCons (eVar 1) aNil)))
  (sSeq (sAsg 3 (eLst aNil))
  (sSeq (sFor (iR1 (aCons (eC (.int 2)) aNil)) (gN 4) (sIf (tE (eBin fEq (eCall f_law_next [true, false] (aCons (eVar 1) (aCons (eC (.int 3)) aNil))) (eC (.int 0)))) (sApp 3 (eCall f_law_machine [true, false, false] (aCons (eVar 1) (aCons (eVar 2) (aCons (eC (.int 6)) aNil))))) (sApp 3 (eCall f_law_wheels [true, false] (aCons (eVar 1) (aCons (eVar 2) aNil))))))
  (sSeq (sAsg 5 (eLc [6] (iSq (eVar 3)) (gN 6) tYesM (eCall f_law_made [] (aCons (eVar 6) aNil))))
  (sSeq (sFor (iSq (eTup (aCons (eC (.int 0)) (aCons (eC (.int 1)) (aCons (eC (.int 0)) aNil))))) (gN 4) (sIf (tNot (tE (eCall f_law_holds [] (aCons (eBin fIx (eVar 3) (eVar 4)) (aCons (eBin fIx (eVar 5) (eVar 4)) aNil))))) (sRet (eC (.bl false))) sNx))
  (sRet (eC (.bl true)))))))))
noncomputable def f_law : Fn := fnS 1 7 b_law
end K69
namespace K69
noncomputable def fx (L : List Bool) (i : Nat) : Bool := L.getD (i % L.length) false
theorem fx_add (L : List Bool) (i k : Nat) : fx L (i + L.length * k) = fx L i := by unfold fx; rw [Nat.add_mul_mod_self_left]
theorem fx_lt (L : List Bool) (i : Nat) (h : i < L.length) : fx L i = L.getD i false := by unfold fx; rw [Nat.mod_eq_of_lt h]
/-- turned by s -/
noncomputable def rt (L : List Bool) (s : Nat) : List Bool := L.drop s ++ L.take s
theorem rt_get (L : List Bool) (s i : Nat) (hs : s ≤ L.length) (hi : i < L.length) : (rt L s).getD i false = fx L (i + s) := by
  unfold rt fx
  rw [List.getD_eq_getElem?_getD, List.getD_eq_getElem?_getD]
  by_cases h : i < L.length - s
  · rw [List.getElem?_append_left (by rw [List.length_drop]; exact h), List.getElem?_drop, Nat.mod_eq_of_lt (by omega), Nat.add_comm]
  · rw [List.getElem?_append_right (by rw [List.length_drop]; omega), List.length_drop, List.getElem?_take]
    have e : (i + s) % L.length = i - (L.length - s) := by
      rw [Nat.mod_eq_sub_mod (by omega), Nat.mod_eq_of_lt (by omega)]
      omega
    rw [e, if_pos (by omega)]
theorem rt_len (L : List Bool) (s : Nat) : (rt L s).length = L.length := by
  unfold rt
  rw [List.length_append, List.length_drop, List.length_take]
  omega
theorem rt_iff (L : List Bool) (s : Nat) (hs : s ≤ L.length) : L = rt L s ↔ ∀ i, fx L (i + s) = fx L i := by
  constructor
  · intro h i
    by_cases h0 : L.length = 0
    · rw [List.length_eq_zero_iff] at h0; subst h0; rfl
    have hi : i % L.length < L.length := Nat.mod_lt _ (by omega)
    have e := rt_get L s (i % L.length) hs hi
    rw [← h] at e
    have e2 : fx L (i % L.length + s) = fx L (i + s) := by unfold fx; rw [Nat.mod_add_mod]
    rw [e2] at e
    exact e.symm
  · intro h
    refine List.ext_getElem? fun i => ?_
    by_cases hi : i < L.length
    · have e := rt_get L s i hs hi
      rw [h i, fx_lt L i hi, List.getD_eq_getElem?_getD, List.getD_eq_getElem?_getD, List.getElem?_eq_getElem hi, List.getElem?_eq_getElem (by rw [rt_len]; exact hi)] at e
      rw [List.getElem?_eq_getElem hi, List.getElem?_eq_getElem (by rw [rt_len]; exact hi)]
      exact congrArg some e.symm
    · rw [List.getElem?_eq_none (by omega), List.getElem?_eq_none (by rw [rt_len]; omega)]
noncomputable def Prim (p : List Bool) : Prop := ∀ s, 0 < s → s < p.length → p ≠ rt p s
theorem per_mul {L : List Bool} {s : Nat} (h : ∀ i, fx L (i + s) = fx L i) : ∀ k i, fx L (i + s * k) = fx L i
  | 0, i => by simp
  | k + 1, i => by rw [Nat.mul_succ, ← Nat.add_assoc, h, per_mul h k]
/-- the shortest list that repeats to L -/
theorem least_ok (L : List Bool) (s : Nat) (s0 : 0 < s) (sl : s < L.length) (hs : L = rt L s) (hm : ∀ t, 0 < t → t < s → L ≠ rt L t) : (∀ i, fx (L.take s) i = fx L i) ∧ Prim (L.take s) := by
  have per := (rt_iff L s (by omega)).mp hs
  have lt : (L.take s).length = s := by rw [List.length_take]; omega
  have hd : L.length % s = 0 := by
    have r := Nat.mod_lt L.length s0
    by_cases h0 : L.length % s = 0
    · exact h0
    · exfalso
      refine hm (L.length % s) (by omega) r ((rt_iff L _ (by omega)).mpr fun i => ?_)
      have e1 := per_mul per (L.length / s) (i + L.length % s)
      rw [Nat.add_assoc, Nat.mod_add_div] at e1
      have e2 := fx_add L i 1
      rw [Nat.mul_one] at e2
      rw [← e1, e2]
  have same : ∀ i, fx (L.take s) i = fx L i := fun i => by
    have e1 := per_mul per (i / s) (i % s)
    rw [Nat.mod_add_div] at e1
    have hi : i % s < s := Nat.mod_lt _ s0
    rw [e1, fx_lt L _ (by omega)]
    unfold fx
    rw [lt, List.getD_eq_getElem?_getD, List.getD_eq_getElem?_getD, List.getElem?_take, if_pos hi]
  refine ⟨same, fun t t0 tl e => ?_⟩
  rw [lt] at tl
  have p2 := (rt_iff (L.take s) t (by omega)).mp e
  exact hm t t0 tl ((rt_iff L t (by omega)).mpr fun i => by rw [← same, ← same]; exact p2 i)
/-- the mark of a length -/
noncomputable def mk (h l : List Bool) (n : Nat) : Bool := if n < h.length then h.getD n false else fx l (n - h.length)
theorem shift_fx (l : List Bool) (b : Bool) (i : Nat) : fx (b :: l) (i + 1) = fx (l ++ [b]) i := by
  unfold fx
  rw [List.length_append, List.length_singleton, List.length_cons]
  have hi : i % (l.length + 1) < l.length + 1 := Nat.mod_lt _ (by omega)
  rw [List.getD_eq_getElem?_getD, List.getD_eq_getElem?_getD]
  by_cases h : i % (l.length + 1) = l.length
  · have e : (i + 1) % (l.length + 1) = 0 := by rw [← Nat.mod_add_mod, h, Nat.mod_self]
    rw [e, h]
    simp
  · have e : (i + 1) % (l.length + 1) = i % (l.length + 1) + 1 := by rw [← Nat.mod_add_mod, Nat.mod_eq_of_lt (by omega)]
    rw [e, List.getElem?_cons_succ, List.getElem?_append_left (by omega)]
theorem turn_mk (h l : List Bool) (b : Bool) (n : Nat) : mk h (b :: l) n = mk (h ++ [b]) (l ++ [b]) n := by
  unfold mk
  rw [List.length_append, List.length_singleton]
  by_cases h1 : n < h.length
  · rw [if_pos h1, if_pos (by omega), List.getD_eq_getElem?_getD, List.getD_eq_getElem?_getD, List.getElem?_append_left h1]
  · rw [if_neg h1]
    by_cases h2 : n = h.length
    · subst h2
      rw [if_pos (by omega), Nat.sub_self]
      unfold fx
      rw [Nat.zero_mod]
      simp
    · rw [if_neg (by omega)]
      obtain ⟨k, rfl⟩ : ∃ k, n = h.length + 1 + k := ⟨n - h.length - 1, by omega⟩
      rw [show h.length + 1 + k - h.length = k + 1 by omega, show h.length + 1 + k - (h.length + 1) = k by omega]
      exact shift_fx l b k
theorem turn_prim (l : List Bool) (b : Bool) (p : Prim (l ++ [b])) : Prim (b :: l) := fun s s0 sl e => by
  have sl' : s < (l ++ [b]).length := by simpa using sl
  refine p s s0 sl' ((rt_iff _ s (by omega)).mpr fun i => ?_)
  have := (rt_iff _ s (by omega)).mp e
  rw [← shift_fx, ← shift_fx, show i + s + 1 = i + 1 + s by omega]
  exact this (i + 1)
noncomputable def cd (p : Nat → Bool) : Nat → Nat
  | 0 => 0
  | n + 1 => cd p n + if p n then 2 ^ n else 0
theorem cd_lt (p : Nat → Bool) : ∀ n, cd p n < 2 ^ n
  | 0 => by simp [cd]
  | n + 1 => by
    have := cd_lt p n
    unfold cd
    rw [Nat.pow_succ]
    split <;> omega
theorem cd_inj {p q : Nat → Bool} : ∀ {n : Nat}, cd p n = cd q n → ∀ i, i < n → p i = q i
  | 0, _, i, h => by omega
  | n + 1, e, i, h => by
    have h1 := cd_lt p n
    have h2 := cd_lt q n
    unfold cd at e
    have both : p n = q n ∧ cd p n = cd q n := by
      cases e1 : p n <;> cases e2 : q n <;> simp [e1, e2] at e <;> first | exact ⟨rfl, e⟩ | (exfalso; omega)
    by_cases hi : i = n
    · subst hi; exact both.1
    · exact cd_inj both.2 i (by omega)
theorem pigeons (l : List Nat) (n : Nat) (nd : l.Nodup) (h : ∀ x ∈ l, x < n) : l.length ≤ n := by
  induction n generalizing l with
  | zero =>
    cases l with
    | nil => simp
    | cons x l => exact absurd (h x List.mem_cons_self) (Nat.not_lt_zero _)
  | succ n ih =>
    have e := List.length_erase (a := n) (l := l)
    have := ih (l.erase n) (nd.erase n) fun x hx => by
      have h1 := h x (List.mem_of_mem_erase hx)
      have h2 : x ≠ n := fun z => by subst z; exact (nd.not_mem_erase) hx
      omega
    rw [e] at this
    split at this <;> omega
end K69
namespace K69
open Sw L2
structure Mc where
  cells : List (List Nat)
  rows : List (List Nat)
  marks : List Bool
noncomputable abbrev nD (n : Nat) : D := .int (n : Nat)
noncomputable abbrev cellsD (m : Mc) : D := .tup (m.cells.map .str)
noncomputable abbrev rowD (r : List Nat) : D := .tup (r.map nD)
noncomputable abbrev rowsD (m : Mc) : D := .tup (m.rows.map rowD)
noncomputable abbrev marksD (m : Mc) : D := .tup (m.marks.map .bl)
noncomputable abbrev MD (m : Mc) : D := .tup [cellsD m, rowsD m, marksD m]
noncomputable abbrev OD (m : Mc) : D := .obj "Machine" ["cells", "rows", "accepting"] [cellsD m, rowsD m, marksD m]
structure Ok (m : Mc) : Prop where
  n1 : 1 ≤ m.rows.length
  n2 : m.rows.length ≤ 14
  ml : m.marks.length = m.rows.length
  rw : ∀ r ∈ m.rows, r.length = m.cells.length ∧ ∀ t ∈ r, t < m.rows.length
  c2 : m.cells.length ≤ 13
  pt : m.cells.flatten.Perm SGN
  ne : ∀ c ∈ m.cells, c ≠ []
end K69
open Sw L2
local macro_rules | `(tactic| walk_at "fn") => `(tactic| (fail))
local macro_rules | `(tactic| walk_at "zev") => `(tactic| (with_reducible refine ev_meth ?_))
local macro_rules | `(tactic| walk_at "zev") => `(tactic| (first | with_reducible refine ev_eNot ?_ | with_reducible refine ev_eIf ?_ | with_reducible refine ev_chain ?_ | with_reducible refine ev_call ?_ | with_reducible refine ev_prop ?_))
local macro_rules | `(tactic| walk_at "zev") => `(tactic| (first | with_reducible refine ev_tAnd ?_ | with_reducible refine ev_tOr ?_ | with_reducible refine ev_tNot ?_ | with_reducible refine ev_eAnd ?_ | with_reducible refine ev_eOr ?_))
local macro_rules | `(tactic| walk_at "zev") => `(tactic| (first | with_reducible refine ev_sl ?_ | with_reducible refine ev_tup ?_ | with_reducible refine ev_lst ?_ | with_reducible refine ev_tE ?_ | with_reducible refine ev_tyes ?_))
local macro_rules | `(tactic| walk_at "zev") => `(tactic| (first | with_reducible refine ev_acons ?_ | with_reducible refine ev_blt ?_ | with_reducible refine ev_met ?_ | with_reducible refine ev_ono ?_ | with_reducible refine ev_osome ?_))
local macro_rules | `(tactic| walk_at "zev") => `(tactic| (first | ((with_reducible refine' ev_vi ?s0 ?_); (case s0 => (rfl))) | with_reducible refine ev_bin ?_ | with_reducible refine ev_add ?_ | with_reducible refine ev_un ?_ | with_reducible refine ev_anil ?_))
local macro_rules | `(tactic| walk_at "zev") => `(tactic| (first | ((with_reducible refine' ev_tAnd_d ?s0 ?s1 ?_); (case s0 => (intro Q q; walk_at "g"; (first | exact q | exact toD_n q | exact toD_t q | exact toD_f q | exact toD_b q))); (case s1 => (intro hp Q q; walk_at "g"; (first | exact q | exact toD_n q | exact toD_t q | exact toD_f q | exact toD_b q)))) | ((with_reducible refine' ev_tOr_d ?s0 ?s1 ?_); (case s0 => (intro Q q; walk_at "g"; (first | exact q | exact toD_n q | exact toD_t q | exact toD_f q | exact toD_b q))); (case s1 => (intro hp Q q; walk_at "g"; (first | exact q | exact toD_n q | exact toD_t q | exact toD_f q | exact toD_b q)))) | with_reducible refine ev_c ?_ | ((with_reducible refine' ev_vd ?s0 ?_); (case s0 => (rfl))) | ((with_reducible refine' ev_vo ?s0 ?_); (case s0 => (rfl)))))
local macro_rules | `(tactic| walk_at "zgv") => `(tactic| (((with_reducible refine' giv_ixs_all ?s0 ?s1 ?s2 ?_); (case s0 => (first | assumption | decide | omega | (show _ ≤ 16777216; omega) | (show _ < 16777216; omega) | (simp only [List.length_append, List.length_cons, List.length_nil, List.length_replicate, List.length_map, List.length_take, List.length_drop, List.length_dropLast]; first | omega | (show _ ≤ 16777216; omega)))); (case s1 => (first | assumption | decide | omega)); (case s2 => (first | assumption | (refine Int.lt_of_lt_of_le (by assumption) ?_; decide) | (show _ < (_ : Int); omega) | (simp only [List.length_append, List.length_cons, List.length_nil]; omega))); intro _ _)))
local macro_rules | `(tactic| walk_at "zgv") => `(tactic| (first | with_reducible refine giv q_isi_bool_int ?_ | with_reducible refine giv q_isi_bool_str ?_ | with_reducible refine giv q_isi_bool_lst ?_ | with_reducible refine giv q_isi_bool_tup ?_ | ((with_reducible refine' giv ?s0 ?_); (case s0 => (first | exact (rfl : _ = some (D.bl true)) | exact (rfl : _ = some (D.bl false)))))))
local macro_rules | `(tactic| walk_at "zgv") => `(tactic| (first | with_reducible refine giv q_isi_int_str ?_ | with_reducible refine giv q_isi_int_lst ?_ | with_reducible refine giv q_isi_int_tup ?_ | with_reducible refine giv q_isi_bool_non ?_ | with_reducible refine giv q_isi_bool_bl ?_))
local macro_rules | `(tactic| walk_at "zgv") => `(tactic| (first | with_reducible refine giv q_isi_str_lst ?_ | with_reducible refine giv q_isi_str_tup ?_ | with_reducible refine giv q_isi_int_non ?_ | with_reducible refine giv q_isi_int_bl ?_ | with_reducible refine giv q_isi_int_int ?_))
local macro_rules | `(tactic| walk_at "zgv") => `(tactic| (first | with_reducible refine giv q_isi_list_tup ?_ | with_reducible refine giv q_isi_str_non ?_ | with_reducible refine giv q_isi_str_bl ?_ | with_reducible refine giv q_isi_str_int ?_ | with_reducible refine giv q_isi_str_str ?_))
local macro_rules | `(tactic| walk_at "zgv") => `(tactic| (first | with_reducible refine giv q_isi_list_non ?_ | with_reducible refine giv q_isi_list_bl ?_ | with_reducible refine giv q_isi_list_int ?_ | with_reducible refine giv q_isi_list_str ?_ | with_reducible refine giv q_isi_list_lst ?_))
local macro_rules | `(tactic| walk_at "zgv") => `(tactic| (first | with_reducible refine giv q_isi_tuple_bl ?_ | with_reducible refine giv q_isi_tuple_int ?_ | with_reducible refine giv q_isi_tuple_str ?_ | with_reducible refine giv q_isi_tuple_lst ?_ | with_reducible refine giv q_isi_tuple_tup ?_))
local macro_rules | `(tactic| walk_at "zgv") => `(tactic| (first | with_reducible refine giv r_ntn4 ?_ | with_reducible refine giv r_ntn5 ?_ | with_reducible refine giv r_eqn1 ?_ | with_reducible refine giv r_eqn2 ?_ | with_reducible refine giv q_isi_tuple_non ?_))
local macro_rules | `(tactic| walk_at "zgv") => `(tactic| (first | with_reducible refine giv r_isn4 ?_ | with_reducible refine giv r_isn5 ?_ | with_reducible refine giv r_ntn1 ?_ | with_reducible refine giv r_ntn2 ?_ | with_reducible refine giv r_ntn3 ?_))
local macro_rules | `(tactic| walk_at "zgv") => `(tactic| (first | with_reducible refine giv r_max2 ?_ | with_reducible refine giv r_min3 ?_ | with_reducible refine giv r_isn1 ?_ | with_reducible refine giv r_isn2 ?_ | with_reducible refine giv r_isn3 ?_))
local macro_rules | `(tactic| walk_at "zgv") => `(tactic| (first | with_reducible refine giv r_fIsi3 ?_ | with_reducible refine giv r_fIsi4 ?_ | with_reducible refine giv r_fIsi5 ?_ | with_reducible refine giv r_fIsi6 ?_ | with_reducible refine giv r_min2 ?_))
local macro_rules | `(tactic| walk_at "zgv") => `(tactic| (first | with_reducible refine giv r_int1 ?_ | with_reducible refine giv r_fFind ?_ | with_reducible refine giv r_rev1 ?_ | with_reducible refine giv r_fIsi1 ?_ | with_reducible refine giv r_fIsi2 ?_))
local macro_rules | `(tactic| walk_at "zgv") => `(tactic| (first | with_reducible refine giv r_ins ?_ | with_reducible refine giv r_nis ?_ | with_reducible refine giv r_neg ?_ | with_reducible refine giv r_len2 ?_ | with_reducible refine giv r_len3 ?_))
local macro_rules | `(tactic| walk_at "zgv") => `(tactic| (first | with_reducible refine giv r_nei ?_ | with_reducible refine giv r_nes ?_ | with_reducible refine giv r_neb ?_ | with_reducible refine giv r_isb ?_ | with_reducible refine giv r_ntb ?_))
local macro_rules | `(tactic| walk_at "zgv") => `(tactic| (first | with_reducible refine giv r_gt ?_ | with_reducible refine giv r_ge ?_ | with_reducible refine giv r_eqi ?_ | with_reducible refine giv r_eqs ?_ | with_reducible refine giv r_eqb ?_))
local macro_rules | `(tactic| walk_at "zgv") => `(tactic| (first | with_reducible refine giv r_add1 ?_ | with_reducible refine giv r_sub ?_ | with_reducible refine giv r_lt ?_ | with_reducible refine giv r_lts ?_ | with_reducible refine giv r_le ?_))
local macro_rules | `(tactic| walk_at "zgv") => `(tactic| (first | ((with_reducible refine' giv_orr ?s0 ?_); (case s0 => (rfl))) | with_reducible refine giv_orl ?_ | ((with_reducible refine' giv_own2 ?s0 ?s1 ?_); (case s0 => (exact isOf_obj)); (case s1 => (exact isOf_obj))) | ((with_reducible refine' giv_own1 ?s0 ?_); (case s0 => (exact isOf_obj))) | ((with_reducible refine' giv_ownIn ?s0 ?s1 ?_); (case s0 => (exact isOf_obj)); (case s1 => (rfl)))))
local macro_rules | `(tactic| walk_at "zgv") => `(tactic| (first | ((with_reducible refine' giv_str ?s0 ?_); (case s0 => (first | assumption | decide | omega))) | with_reducible refine giv_strN ?_ | with_reducible refine giv_strS ?_ | ((with_reducible refine' giv_at ?s0 ?_); (case s0 => (rfl))) | with_reducible refine giv_isC ?_))
local macro_rules | `(tactic| walk_at "zgv") => `(tactic| (first | ((with_reducible refine' giv_sldT ?s0 ?s1 ?_); (case s0 => (first | assumption | decide | omega)); (case s1 => (first | assumption | decide | omega))) | ((with_reducible refine' giv_sltT ?s0 ?s1 ?_); (case s0 => (first | assumption | decide | omega)); (case s1 => (first | assumption | decide | omega))) | with_reducible refine giv_A ?_ | with_reducible refine giv_tup ?_ | with_reducible refine giv_tupt ?_))
local macro_rules | `(tactic| walk_at "zgv") => `(tactic| (first | ((with_reducible refine' giv_sldl ?s0 ?_); (case s0 => (first | assumption | decide | omega))) | ((with_reducible refine' giv_sls ?s0 ?_); (case s0 => (first | assumption | decide | omega | (show _ ≤ 16777216; omega) | (show _ < 16777216; omega) | (simp only [List.length_append, List.length_cons, List.length_nil, List.length_replicate, List.length_map, List.length_take, List.length_drop, List.length_dropLast]; first | omega | (show _ ≤ 16777216; omega))))) | with_reducible refine giv_sll ?_ | ((with_reducible refine' giv_lens ?s0 ?_); (case s0 => (first | assumption | decide | omega | (show _ ≤ 16777216; omega) | (show _ < 16777216; omega) | (simp only [List.length_append, List.length_cons, List.length_nil, List.length_replicate, List.length_map, List.length_take, List.length_drop, List.length_dropLast]; first | omega | (show _ ≤ 16777216; omega))))) | ((with_reducible refine' giv_revs ?s0 ?_); (case s0 => (first | assumption | decide | omega | (show _ ≤ 16777216; omega) | (show _ < 16777216; omega) | (simp only [List.length_append, List.length_cons, List.length_nil, List.length_replicate, List.length_map, List.length_take, List.length_drop, List.length_dropLast]; first | omega | (show _ ≤ 16777216; omega)))))))
local macro_rules | `(tactic| walk_at "zgv") => `(tactic| (first | ((with_reducible refine' giv_slm1 ?s0 ?_); (case s0 => (first | assumption | decide | omega | (show _ ≤ 16777216; omega) | (show _ < 16777216; omega) | (simp only [List.length_append, List.length_cons, List.length_nil, List.length_replicate, List.length_map, List.length_take, List.length_drop, List.length_dropLast]; first | omega | (show _ ≤ 16777216; omega))))) | ((with_reducible refine' giv_slt ?s0 ?s1 ?_); (case s0 => (first | assumption | decide | omega | (show _ ≤ 16777216; omega) | (show _ < 16777216; omega) | (simp only [List.length_append, List.length_cons, List.length_nil, List.length_replicate, List.length_map, List.length_take, List.length_drop, List.length_dropLast]; first | omega | (show _ ≤ 16777216; omega)))); (case s1 => (first | assumption | decide | omega))) | ((with_reducible refine' giv_sld ?s0 ?s1 ?_); (case s0 => (first | assumption | decide | omega | (show _ ≤ 16777216; omega) | (show _ < 16777216; omega) | (simp only [List.length_append, List.length_cons, List.length_nil, List.length_replicate, List.length_map, List.length_take, List.length_drop, List.length_dropLast]; first | omega | (show _ ≤ 16777216; omega)))); (case s1 => (first | assumption | decide | omega))) | ((with_reducible refine' giv_slm ?s0 ?s1 ?s2 ?_); (case s0 => (first | assumption | decide | omega | (show _ ≤ 16777216; omega) | (show _ < 16777216; omega) | (simp only [List.length_append, List.length_cons, List.length_nil, List.length_replicate, List.length_map, List.length_take, List.length_drop, List.length_dropLast]; first | omega | (show _ ≤ 16777216; omega)))); (case s1 => (first | assumption | decide | omega)); (case s2 => (first | assumption | decide | omega))) | ((with_reducible refine' giv_sltl ?s0 ?_); (case s0 => (first | assumption | decide | omega)))))
local macro_rules | `(tactic| walk_at "zgv") => `(tactic| (first | ((with_reducible refine' giv_addl ?s0 ?_); (case s0 => (first | assumption | decide | omega | (show _ ≤ 16777216; omega) | (show _ < 16777216; omega) | (simp only [List.length_append, List.length_cons, List.length_nil, List.length_replicate, List.length_map, List.length_take, List.length_drop, List.length_dropLast]; first | omega | (show _ ≤ 16777216; omega))))) | ((with_reducible refine' giv_ixl ?s0 ?_); (case s0 => (first | assumption | rfl | exact atI_zero))) | ((with_reducible refine' giv_ixt ?s0 ?_); (case s0 => (first | assumption | rfl | exact atI_zero))) | ((with_reducible refine' giv_ixs ?s0 ?s1 ?_); (case s0 => (first | assumption | decide | omega | (show _ ≤ 16777216; omega) | (show _ < 16777216; omega) | (simp only [List.length_append, List.length_cons, List.length_nil, List.length_replicate, List.length_map, List.length_take, List.length_drop, List.length_dropLast]; first | omega | (show _ ≤ 16777216; omega)))); (case s1 => (first | assumption | rfl))) | ((with_reducible refine' giv_dr4 ?s0 ?_); (case s0 => (assumption)))))
local macro_rules | `(tactic| walk_at "zgv") => `(tactic| (first | ((with_reducible refine' giv_mod ?s0 ?_); (case s0 => (first | assumption | decide | omega | (show _ ≤ 16777216; omega) | (show _ < 16777216; omega) | (simp only [List.length_append, List.length_cons, List.length_nil, List.length_replicate, List.length_map, List.length_take, List.length_drop, List.length_dropLast]; first | omega | (show _ ≤ 16777216; omega))))) | ((with_reducible refine' giv_div ?s0 ?_); (case s0 => (first | assumption | decide | omega | (show _ ≤ 16777216; omega) | (show _ < 16777216; omega) | (simp only [List.length_append, List.length_cons, List.length_nil, List.length_replicate, List.length_map, List.length_take, List.length_drop, List.length_dropLast]; first | omega | (show _ ≤ 16777216; omega))))) | ((with_reducible refine' giv_mul ?s0 ?_); (case s0 => (first | assumption | exact cMul_r (by decide) | exact cMul_r (by omega)))) | ((with_reducible refine' giv_muls ?s0 ?_); (case s0 => (first | assumption | decide | omega | (show _ ≤ 16777216; omega) | (show _ < 16777216; omega) | (simp only [List.length_append, List.length_cons, List.length_nil, List.length_replicate, List.length_map, List.length_take, List.length_drop, List.length_dropLast]; first | omega | (show _ ≤ 16777216; omega))))) | ((with_reducible refine' giv_adds ?s0 ?_); (case s0 => (first | assumption | decide | omega | (show _ ≤ 16777216; omega) | (show _ < 16777216; omega) | (simp only [List.length_append, List.length_cons, List.length_nil, List.length_replicate, List.length_map, List.length_take, List.length_drop, List.length_dropLast]; first | omega | (show _ ≤ 16777216; omega)))))))
local macro_rules | `(tactic| walk_at "zbr") => `(tactic| (first | ((with_reducible refine' brn_dt ?s0 ?_); (case s0 => decide)) | ((with_reducible refine' brn_df ?s0 ?_); (case s0 => decide)) | ((with_reducible refine' brn_nt ?s0 ?_); (case s0 => decide)) | ((with_reducible refine' brn_nf ?s0 ?_); (case s0 => decide))))
local macro_rules | `(tactic| walk_at "zbr") => `(tactic| (first | with_reducible refine brn_t ?_ | with_reducible refine brn_f ?_ | with_reducible refine brn_nT ?_ | with_reducible refine brn_nF ?_ | with_reducible refine brn_nn ?_))
local macro_rules | `(tactic| walk_at "zfv") => `(tactic| ((walk_at "fn")))
local macro_rules | `(tactic| walk_at "zfv") => `(tactic| (with_reducible refine fv_signs ?_))
local macro_rules | `(tactic| walk_at "zfv") => `(tactic| (((with_reducible refine' fv_drawE ?s0 ?_); (case s0 => assumption); intro _ _)))
local macro_rules | `(tactic| walk_at "zfv") => `(tactic| (((with_reducible refine' fv_nextE ?s0 ?s1 ?_); (case s0 => assumption); (case s1 => (first | assumption | decide | omega)); intro _ _ _ _ _; (try dsimp only [puts, put, agI, outsOf, slOf, List.set_cons_zero, List.set_cons_succ, List.getElem?_cons_zero, List.getElem?_cons_succ, wipeR, backR, Option.getD_some, stl]))))
local macro_rules | `(tactic| walk_at "zot") => `(tactic| (first | with_reducible refine add2_i ?_ | ((with_reducible refine' add2_s ?s0 ?_); (case s0 => (first | assumption | decide | omega | (show _ ≤ 16777216; omega) | (show _ < 16777216; omega) | (simp only [List.length_append, List.length_cons, List.length_nil, List.length_replicate, List.length_map, List.length_take, List.length_drop, List.length_dropLast]; first | omega | (show _ ≤ 16777216; omega))))) | ((with_reducible refine' add2_l ?s0 ?_); (case s0 => (first | assumption | decide | omega | (show _ ≤ 16777216; omega) | (show _ < 16777216; omega) | (simp only [List.length_append, List.length_cons, List.length_nil, List.length_replicate, List.length_map, List.length_take, List.length_drop, List.length_dropLast]; first | omega | (show _ ≤ 16777216; omega))))) | ((with_reducible refine' add2_t ?s0 ?_); (case s0 => (first | assumption | decide | omega | (show _ ≤ 16777216; omega) | (show _ < 16777216; omega) | (simp only [List.length_append, List.length_cons, List.length_nil, List.length_replicate, List.length_map, List.length_take, List.length_drop, List.length_dropLast]; first | omega | (show _ ≤ 16777216; omega))))) | ((with_reducible refine' own_at ?s0 (And.intro ?s1 ?_)); (case s0 => rfl); (case s1 => exact ⟨_, by assumption⟩); intro _ _; (try dsimp only [puts, put, agI, outsOf, slOf, List.set_cons_zero, List.set_cons_succ, List.getElem?_cons_zero, List.getElem?_cons_succ, wipeR, backR, Option.getD_some, stl]))))
local macro_rules | `(tactic| walk_at "zot") => `(tactic| (first | ((with_reducible refine' ex_asg' ?s0 ?_); (case s0 => (first | rfl | assumption)); (try dsimp only [puts, put, agI, outsOf, slOf, List.set_cons_zero, List.set_cons_succ, List.getElem?_cons_zero, List.getElem?_cons_succ, wipeR, backR, Option.getD_some, stl])) | ((with_reducible refine' ex_asg'' ?s0 ?_); (case s0 => (rfl)); (try dsimp only [puts, put, agI, outsOf, slOf, List.set_cons_zero, List.set_cons_succ, List.getElem?_cons_zero, List.getElem?_cons_succ, wipeR, backR, Option.getD_some, stl])) | ((with_reducible refine' ex_asgT ?s0 ?_); (case s0 => (rfl)); (try dsimp only [puts, put, agI, outsOf, slOf, List.set_cons_zero, List.set_cons_succ, List.getElem?_cons_zero, List.getElem?_cons_succ, wipeR, backR, Option.getD_some, stl])) | ((with_reducible refine' nbw_z ?_); (try dsimp only [puts, put, agI, outsOf, slOf, List.set_cons_zero, List.set_cons_succ, List.getElem?_cons_zero, List.getElem?_cons_succ, wipeR, backR, Option.getD_some, stl])) | ((with_reducible refine' nbw_r ?_); (try dsimp only [puts, put, agI, outsOf, slOf, List.set_cons_zero, List.set_cons_succ, List.getElem?_cons_zero, List.getElem?_cons_succ, wipeR, backR, Option.getD_some, stl]))))
local macro_rules | `(tactic| walk_at "zot") => `(tactic| (first | with_reducible refine isB ?_ | with_reducible refine isBD ?_ | ((with_reducible refine' frzs' ?s0 (And.intro ?s1 ?_)); (case s0 => rfl); (case s1 => (first | decide | simp)); (try dsimp only [puts, put, agI, outsOf, slOf, List.set_cons_zero, List.set_cons_succ, List.getElem?_cons_zero, List.getElem?_cons_succ, wipeR, backR, Option.getD_some, stl])) | ((with_reducible refine' arg ?s0 ?s1 ?s2 ?_); (case s0 => (rfl)); (case s1 => (rfl)); (case s2 => (first | exact List.nodup_nil | exact nodup1 | simp [agI])); (try dsimp only [puts, put, agI, outsOf, slOf, List.set_cons_zero, List.set_cons_succ, List.getElem?_cons_zero, List.getElem?_cons_succ, wipeR, backR, Option.getD_some, stl])) | ((with_reducible refine' ex_asg ?s0 ?_); (case s0 => (first | rfl | assumption)); (try dsimp only [puts, put, agI, outsOf, slOf, List.set_cons_zero, List.set_cons_succ, List.getElem?_cons_zero, List.getElem?_cons_succ, wipeR, backR, Option.getD_some, stl]))))
local macro_rules | `(tactic| walk_at "zot") => `(tactic| (first | ((with_reducible refine' sees ?s0 ?_); (case s0 => (rfl))) | ((with_reducible refine' obp ?s0 ?_); (case s0 => (first | exact isOb_obj rfl | exact isOb_obj (by decide)))) | with_reducible refine fbp ?_ | with_reducible refine fzp ?_ | with_reducible refine isI ?_))
local macro_rules | `(tactic| walk_at "zot") => `(tactic| (first | with_reducible refine ret_z ?_ | with_reducible refine ret_r ?_ | ((with_reducible refine' ret_b ?s0 ?_); (case s0 => (rfl))) | ((with_reducible refine' see2 ?s0 ?s1 ?_); (case s0 => (rfl)); (case s1 => (rfl))) | ((with_reducible refine' see1 ?s0 ?_); (case s0 => (rfl)))))
local macro_rules | `(tactic| walk_at "zsv") => `(tactic| (first | with_reducible refine sv_ret_l ?_ | with_reducible refine sv_nx ?_ | with_reducible refine sv_asgT_s ?_ | with_reducible refine sv_asgT_l ?_ | with_reducible refine sv_set4_s ?_))
local macro_rules | `(tactic| walk_at "zsv") => `(tactic| (first | with_reducible refine sv_drop_s ?_ | ((with_reducible refine' sv_app_s ?s0 ?_); (case s0 => (rfl))) | ((with_reducible refine' sv_app_l ?s0 ?_); (case s0 => (rfl))) | with_reducible refine sv_asg_l ?_ | with_reducible refine sv_if_l ?_))
local macro_rules | `(tactic| walk_at "zsv") => `(tactic| (first | with_reducible refine sv_asg_s ?_ | with_reducible refine sv_nx_s ?_ | with_reducible refine sv_if_s ?_ | with_reducible refine sv_ret_s ?_ | with_reducible refine sv_seq_s ?_))
local macro_rules | `(tactic| walk_at "s1") => `(tactic| ((with_reducible refine gSv ?_); (walk_at "zsv")))
local macro_rules | `(tactic| walk_at "s1") => `(tactic| (walk_at "zot"))
local macro_rules | `(tactic| walk_at "s1") => `(tactic| ((with_reducible refine gFv ?_); (walk_at "zfv")))
local macro_rules | `(tactic| walk_at "s1") => `(tactic| ((with_reducible refine gBrn ?_); (walk_at "zbr")))
local macro_rules | `(tactic| walk_at "s1") => `(tactic| ((with_reducible refine gGiv ?_); (walk_at "zgv")))
local macro_rules | `(tactic| walk_at "s1") => `(tactic| ((with_reducible refine gEv ?_); (walk_at "zev")))
local macro_rules | `(tactic| walk_at "zsw") => `(tactic| (first | with_reducible refine sv_nx ?_ | with_reducible refine sv_asgT_s ?_ | with_reducible refine sv_asgT_l ?_ | with_reducible refine sv_set4_s ?_))
local macro_rules | `(tactic| walk_at "zsw") => `(tactic| (first | ((with_reducible refine' sv_app_s ?s0 ?_); (case s0 => (rfl))) | ((with_reducible refine' sv_app_l ?s0 ?_); (case s0 => (rfl))) | with_reducible refine sv_asg_l ?_ | with_reducible refine sv_if_l ?_ | with_reducible refine sv_ret_l ?_))
local macro_rules | `(tactic| walk_at "zsw") => `(tactic| (first | with_reducible refine sv_asg_s ?_ | with_reducible refine sv_nx_s ?_ | with_reducible refine sv_ret_s ?_ | with_reducible refine sv_seq_s ?_ | with_reducible refine sv_drop_s ?_))
local macro_rules | `(tactic| walk_at "s2") => `(tactic| ((with_reducible refine gSv ?_); (walk_at "zsw")))
local macro_rules | `(tactic| walk_at "s2") => `(tactic| (walk_at "zot"))
local macro_rules | `(tactic| walk_at "s2") => `(tactic| ((with_reducible refine gFv ?_); (walk_at "zfv")))
local macro_rules | `(tactic| walk_at "s2") => `(tactic| ((with_reducible refine gBrn ?_); (walk_at "zbr")))
local macro_rules | `(tactic| walk_at "s2") => `(tactic| ((with_reducible refine gGiv ?_); (walk_at "zgv")))
local macro_rules | `(tactic| walk_at "s2") => `(tactic| ((with_reducible refine gEv ?_); (walk_at "zev")))
local macro_rules | `(tactic| walk_at "b") => `(tactic| (((with_reducible refine brn_c ?_ ?_) <;> intro _ <;> (first | (exfalso; omega) | contradiction | (subst_vars; contradiction) | skip))))
local macro_rules | `(tactic| walk_at "b") => `(tactic| (((with_reducible refine brn_nd ?_ ?_) <;> intro _ <;> (first | (exfalso; omega) | skip))))
local macro_rules | `(tactic| walk_at "b") => `(tactic| (((with_reducible refine brn_d ?_ ?_) <;> intro _ <;> (first | (exfalso; omega) | skip))))
local macro_rules | `(tactic| walk_at "b") => `(tactic| (((with_reducible refine' giv_ixl_all ?s0 ?s1 ?_); (case s0 => (first | assumption | decide | omega)); (case s1 => (first | assumption | (refine Int.lt_of_lt_of_le (by assumption) ?_; decide) | (show _ < (_ : Int); omega) | (simp only [List.length_append, List.length_cons, List.length_nil]; omega))); repeat' (first | exact all_nil | refine all_cons ?_ ?_))))
local macro_rules | `(tactic| walk_at "n") => `(tactic| (try dsimp only [puts, put, agI, outsOf, slOf, List.map, List.set_cons_zero, List.set_cons_succ, List.getElem?_cons_zero, List.getElem?_cons_succ, wipeR, backR, Option.getD_some, List.replicate, List.cons_append, List.nil_append, List.append_eq, List.append_nil, Nat.reduceSub, FEnd, Ret, noBw, stl]))
local macro_rules | `(tactic| walk_at "g") => `(tactic| (repeat (walk_at "s1")))
local macro_rules | `(tactic| walk_at "gS") => `(tactic| (repeat (walk_at "s2")))
local macro_rules | `(tactic| walk_at "x") => `(tactic| (repeat' (first | (walk_at "s1") | (walk_at "b"))))
local macro_rules | `(tactic| walk_at "xS") => `(tactic| (repeat' (first | (walk_at "s2") | (walk_at "b"))))
namespace K69
open Sw L2
theorem next_eq : f_law_next = lawNext := rfl
theorem draw_eq : f_law_draw = lawDraw := rfl
theorem signs_eq : f_law_signs = lawSigns := rfl
theorem letters_eq : f_law_letters = lawLetters := rfl
theorem made_ok (m : Mc) {Q : Vl → List (List D) → Prop} (q : Q (.fz (OD m)) []) : Fv f_law_made [.da (MD m)] Q := by
  refine fv_fn rfl ?_
  walk_at "n"
  unfold b_law_made MD
  walk_at "g"
  refine ev_make ?_
  walk_at "g"
  refine ⟨_, _, _, _, rfl, rfl, ?_⟩
  walk_at "g"
  walk_at "n"
  exact q
theorem atIn {u : List Int} {j : Nat} (h : j < u.length) : atI (u.map D.int) ((j : Nat) : Int) = some (.int (u.getD j 0)) := by
  rw [atI_lit', List.getElem?_map, List.getElem?_eq_getElem h, List.getD_eq_getElem?_getD, List.getElem?_eq_getElem h]; rfl
end K69
namespace K69
open Sw L2
theorem SGN_lim : SGN.length ≤ lim := by rw [SGN_len]; decide
theorem ok_cells {m : Mc} (h : Ok m) : okDs (m.cells.map D.str) = true := by
  have : ∀ c ∈ m.cells, ∀ x ∈ c, x ∈ SGN := fun c hc x hx => h.pt.mem_iff.mp (List.mem_flatten.mpr ⟨c, hc, hx⟩)
  have small : ∀ x ∈ SGN, x < 55296 := by decide
  generalize m.cells = cs at this
  induction cs with
  | nil => rfl
  | cons c cs ih =>
    rw [List.map_cons, okDs, ih fun d hd => this d (List.mem_cons_of_mem _ hd)]
    have : okD (.str c) = true := by
      unfold okD
      exact List.all_eq_true.mpr fun x hx => decide_eq_true (small x (this c List.mem_cons_self x hx))
    rw [this]; rfl
theorem ok_row (r : List Nat) : okDs (r.map nD) = true ∧ dpDs (r.map nD) = 0 := by
  induction r with
  | nil => exact ⟨rfl, rfl⟩
  | cons n r ih => exact ⟨by rw [List.map_cons, okDs, ih.1]; rfl, by rw [List.map_cons, dpDs, ih.2]; rfl⟩
theorem ok_rows (rs : List (List Nat)) : okDs (rs.map rowD) = true ∧ dpDs (rs.map rowD) ≤ 1 := by
  induction rs with
  | nil => exact ⟨rfl, by simp [dpDs]⟩
  | cons r rs ih =>
    obtain ⟨a, b⟩ := ok_row r
    refine ⟨?_, ?_⟩
    · rw [List.map_cons, okDs, ih.1, okD, a]; rfl
    · rw [List.map_cons, dpDs, dpD, b]; omega
theorem ok_marks (ms : List Bool) : okDs (ms.map D.bl) = true ∧ dpDs (ms.map D.bl) = 0 := by
  induction ms with
  | nil => exact ⟨rfl, rfl⟩
  | cons n r ih => exact ⟨by rw [List.map_cons, okDs, ih.1]; rfl, by rw [List.map_cons, dpDs, ih.2]; rfl⟩
theorem dp_strs (ts : List (List Nat)) : dpDs (ts.map D.str) = 0 := by
  induction ts with
  | nil => rfl
  | cons n r ih => rw [List.map_cons, dpDs, ih]; rfl
theorem kept_ok (m : Mc) (h : Ok m) {Q : Vl → List (List D) → Prop} (q : Q (.fz (.bl true)) []) : Fv f_law_kept [.da (OD m), .da (MD m)] Q := by
  have e1 := eq_tup (xs := m.cells.map D.str) (shD_of (by rw [okD]; exact ok_cells h) (by rw [dpD, dp_strs]; omega))
  have e2 := eq_tup (xs := m.rows.map rowD) (shD_of (by rw [okD]; exact (ok_rows _).1) (by rw [dpD]; have := (ok_rows m.rows).2; omega))
  have e3 := eq_tup (xs := m.marks.map D.bl) (shD_of (by rw [okD]; exact (ok_marks _).1) (by rw [dpD, (ok_marks _).2]; omega))
  refine fv_fn rfl ?_
  walk_at "n"
  unfold b_law_kept
  walk_at "g"
  refine giv e1 ?_
  walk_at "g"
  refine giv e2 ?_
  walk_at "g"
  refine giv e3 ?_
  walk_at "g"
  walk_at "n"
  exact q
end K69
namespace K69
open Sw L2
structure Cs (cells : List (List Nat)) : Prop where
  pt : cells.flatten.Perm SGN
  ne : ∀ c ∈ cells, c ≠ []
theorem Cs.len {cells : List (List Nat)} (h : Cs cells) : cells.length ≤ 96 := by
  have e := h.pt.length_eq
  rw [SGN_len] at e
  have : ∀ cs : List (List Nat), (∀ c ∈ cs, c ≠ []) → cs.length ≤ cs.flatten.length := fun cs => by
    induction cs with
    | nil => intro _; simp
    | cons c cs ih =>
      intro h
      have := ih fun d hd => h d (List.mem_cons_of_mem _ hd)
      have h1 : c.length ≠ 0 := fun z => h c List.mem_cons_self (List.length_eq_zero_iff.mp z)
      rw [List.flatten_cons, List.length_append, List.length_cons]
      omega
  have := this cells h.ne
  omega
theorem Cs.pos {cells : List (List Nat)} (h : Cs cells) : 1 ≤ cells.length := by
  cases cells with
  | nil => have := h.pt.length_eq; rw [SGN_len] at this; simp at this
  | cons c cs => simp
theorem cs_sort {ps : List (List Nat)} (h : ps.flatten.Perm SGN) (n : ∀ p ∈ ps, p ≠ []) : Cs (sortT ps) :=
  ⟨(sortT_perm ps).flatten.trans h, fun c hc => n c ((sortT_perm ps).mem_iff.mp hc)⟩
theorem flat_set : ∀ (ps : List (List Nat)) (g : Nat) (c : Nat), g < ps.length → (ps.set g (ps.getD g [] ++ [c])).flatten.Perm (ps.flatten ++ [c])
  | [], _, _, h => by simp at h
  | p :: ps, 0, c, _ => by
    rw [List.set_cons_zero, List.getD_cons_zero, List.flatten_cons, List.flatten_cons, List.append_assoc, List.append_assoc]
    exact List.Perm.append_left p List.perm_append_comm
  | p :: ps, g + 1, c, h => by
    rw [List.set_cons_succ, List.getD_cons_succ, List.flatten_cons, List.flatten_cons, List.append_assoc]
    exact List.Perm.append_left p (flat_set ps g c (by simpa using h))
theorem flat_ne : ∀ ps : List (List Nat), (ps.filter fun p => !decide (p = [])).flatten = ps.flatten
  | [] => rfl
  | p :: ps => by
    rw [List.filter_cons, List.flatten_cons]
    by_cases h : p = []
    · subst h; simp [flat_ne ps]
    · rw [if_pos (by simp [h]), List.flatten_cons, flat_ne ps]
theorem atS {k : Nat} (h : k < 96) : atI SGN ((k : Nat) : Int) = some (SGN[k]'(by rw [SGN_len]; exact h)) := by rw [atI_lit']; exact List.getElem?_eq_getElem _
theorem ev_ir2 {ms : M (List Vl)} {ρ : Rho} {QD : List D → Rho → Prop} (h : Ev ms ρ fun rs ρ1 => ∃ i j, rs = [.fz (.int i), .fz (.int j)] ∧ -1000000 ≤ i ∧ i ≤ 1000000 ∧ -1000000 ≤ j ∧ j ≤ 1000000 ∧ QD (rngL i (j - i).toNat) ρ1) : Ev (iR2 ms) ρ QD := by
  obtain ⟨r, ρ1, e1, i, j, rfl, h0, h1, h2, h3, q⟩ := h
  refine ⟨_, ρ1, ?_, q⟩
  unfold iR2
  rw [e1]
  show (if _ then _ else _) = _
  rw [if_pos ⟨by omega, by omega, by omega, by omega⟩]
theorem sgn_split (low : Nat) (h : low < 84) : ((SGN.take low ++ SGN.drop (low + 12)) :: ((List.range 12).map fun i => [SGN.getD (low + i) 0])).flatten.Perm SGN := by
  have e : ((List.range 12).map fun i => [SGN.getD (low + i) 0]).flatten = (SGN.drop low).take 12 := by
    have : ∀ n, low + n ≤ 96 → ((List.range n).map fun i => [SGN.getD (low + i) 0]).flatten = (SGN.drop low).take n := fun n hn => by
      induction n with
      | zero => rfl
      | succ n ih =>
        rw [List.range_succ, List.map_append, List.flatten_append, ih (by omega)]
        have hh : (SGN.drop low)[n]? = some (SGN.getD (low + n) 0) := by
          rw [List.getElem?_drop, List.getD_eq_getElem?_getD, List.getElem?_eq_getElem (by rw [SGN_len]; omega)]; rfl
        rw [take_s hh]
        rfl
    exact this 12 (by omega)
  rw [List.flatten_cons, e, List.append_assoc]
  have e2 : SGN = SGN.take low ++ ((SGN.drop low).take 12 ++ SGN.drop (low + 12)) := by
    conv => lhs; rw [← List.take_append_drop low SGN, ← List.take_append_drop 12 (SGN.drop low), List.drop_drop]
  conv => rhs; rw [e2]
  exact List.Perm.append_left _ List.perm_append_comm
theorem division_ok {xs : List D} {e : Int} {L : List Nat} (hd : DrE e xs) (hL : Ltr L) {Q : Vl → List (List D) → Prop}
    (q : ∀ (cells : List (List Nat)) (ys : List D), Cs cells → cells.length ≤ 13 → DrE e ys → Q (.fz (.tup (cells.map .str))) [ys]) : Fv f_law_division [.li xs, .da (.str L)] Q := by
  have hS : SGN.length ≤ lim := SGN_lim
  have hS' : SGN.length = 96 := SGN_len
  obtain ⟨l3, ls⟩ := hL
  refine fv_fn rfl ?_
  walk_at "n"
  unfold b_law_division
  rw [next_eq, signs_eq]
  walk_at "gS"
  rename_i ch ys c0 c1 hd
  refine sv_if_s ?_
  walk_at "g"
  refine brn_d (fun z => ?_) (fun z => sv_nx_s ?_)
  · walk_at "g"
    walk_at "n"
    exact q [SGN] _ ⟨by simp, by decide⟩ (by decide) hd
  refine sv_if_s ?_
  walk_at "g"
  refine brn_d (fun z => ?_) (fun z => sv_nx_s ?_)
  · walk_at "g"
    rename_i low ys l0 l1 hd
    refine ev_sorted ?_
    walk_at "g"
    refine ev_lcm (List.range 12) (fun i => .int (low + (i : Int))) (fun i => .str [SGN.getD (low.toNat + i) 0]) rfl (by decide) ?_ ?_ ?_
    · intro Q' q'
      refine ev_ir2 ?_
      walk_at "g"
      exact ⟨_, _, rfl, by omega, by omega, by omega, by omega, by rw [show (low + 12 - low).toNat = 12 by omega]; exact q'⟩
    · intro i hi Q' q'
      have hi' := List.mem_range.mp hi
      have at' : atI SGN (low + (i : Int)) = some (SGN.getD (low.toNat + i) 0) := by
        rw [show low + (i : Int) = ((low.toNat + i : Nat) : Int) by omega, atS (by omega), List.getD_eq_getElem?_getD, List.getElem?_eq_getElem (by omega)]; rfl
      walk_at "g"
      exact q'
    refine see2 rfl rfl ?_
    refine add2_l (by simp [lim]) ?_
    walk_at "g"
    have el : low.toNat < 84 := by omega
    have e12 : (low + 12).toNat = low.toNat + 12 := by omega
    refine ⟨_, ((SGN.take low.toNat ++ SGN.drop (low.toNat + 12)) :: ((List.range 12).map fun i => [SGN.getD (low.toNat + i) 0])).map .str, (sortT ((SGN.take low.toNat ++ SGN.drop (low.toNat + 12)) :: ((List.range 12).map fun i => [SGN.getD (low.toNat + i) 0]))).map .str, rfl, ?_, sortD_strs (by simp), ?_⟩
    · rw [e12, List.map_cons, List.map_map]
      rfl
    walk_at "g"
    walk_at "n"
    refine q _ _ (cs_sort (sgn_split _ el) fun p hp => ?_) (by rw [(sortT_perm _).length_eq]; simp) hd
    rcases List.mem_cons.mp hp with rfl | hp
    · intro z
      have := congrArg List.length z
      rw [List.length_append, List.length_take, List.length_drop, hS'] at this
      simp at this
      omega
    · obtain ⟨i, _, rfl⟩ := List.mem_map.mp hp
      simp
  rename_i z0
  -- where the letters go
  refine sv_then (fun ρ => ∃ (ps : List Int) (ys : List D), ρ = [.io ys, .d (.str L), .d (.str SGN), .d (.int ch), .ow (ps.map .int), .no, .no, .no, .no, .no, .no, .no] ∧ DrE e ys ∧ ps.length = 3 ∧ ∀ p ∈ ps, 0 ≤ p ∧ p < 4) ?_ ?_
  · walk_at "g"
    exact ⟨[1, 2, 3], _, rfl, hd, rfl, by decide⟩
  rintro ρ ⟨ps, ys, rfl, hd, hp, hpr⟩
  refine sv_then (fun ρ => ∃ (ps : List Int) (ys : List D), ρ = [.io ys, .d (.str L), .d (.str SGN), .d (.int ch), .ow (ps.map .int), .no, .no, .no, .no, .no, .no, .no] ∧ DrE e ys ∧ ps.length = 3 ∧ ∀ p ∈ ps, 0 ≤ p ∧ p < 4) ?_ ?_
  · walk_at "g"
    refine brn_d (fun z => ?_) (fun z => ?_)
    · walk_at "g"
      refine ev_lc (fun i acc ρ' => ∃ (qs : List Int) (ys : List D), acc = qs.map .int ∧ ρ' = [.io ys, .d (.str L), .d (.str SGN), .d (.int ch), .ow (ps.map .int), .no, .no, .no, .no, .no, .no, .no] ∧ DrE e ys ∧ qs.length = i ∧ ∀ p ∈ qs, 0 ≤ p ∧ p < 4) (ev_ir1 ?_)
      walk_at "g"
      refine ⟨_, rfl, by omega, by omega, rfl, ⟨[], ys, rfl, rfl, hd, rfl, fun _ h => absurd h List.not_mem_nil⟩, ?_, ?_⟩
      · rintro i y hy acc ρ ⟨qs, ys, rfl, rfl, hd, hq, hqr⟩
        obtain ⟨hi, rfl⟩ := rngL_get hy
        refine ⟨_, asg_z rfl, ev_tyes (brn_t ?_)⟩
        walk_at "n"
        walk_at "g"
        rename_i r ys r0 r1 hd
        refine ⟨_, _, rfl, by rw [List.length_map]; show _ < 16777216; omega, qs ++ [r], ys, by rw [List.map_append]; rfl, rfl, hd, by simp [hq], ?_⟩
        intro p hp
        rcases List.mem_append.mp hp with h | h
        · exact hqr p h
        · rw [List.mem_singleton.mp h]; exact ⟨r0, r1⟩
      · rintro acc ρ ⟨qs, ys, rfl, rfl, hd, hq, hqr⟩
        walk_at "n"
        walk_at "g"
        exact ⟨qs, ys, rfl, hd, by rw [hq, rngL_len]; rfl, hqr⟩
    · walk_at "g"
      exact ⟨ps, ys, rfl, hd, hp, hpr⟩
  clear hd hp hpr
  rintro ρ ⟨ps, ys, rfl, hd, hp, hpr⟩
  walk_at "gS"
  refine sv_then (fun ρ => ∃ (lo mn : Int) (ys : List D), ρ = [.io ys, .d (.str L), .d (.str SGN), .d (.int ch), .ow (ps.map .int), .d (.int lo), .d (.int mn), .no, .no, .no, .no, .no] ∧ DrE e ys) ?_ ?_
  · walk_at "g"
    refine giv (z := .bl (inD (.int ch) [.int 1, .int 5, .int 6])) rfl ?_
    walk_at "g"
    refine brn_c (fun z => ?_) (fun z => ?_)
    · walk_at "g"
      exact ⟨_, _, _, rfl, by assumption⟩
    · walk_at "g"
      exact ⟨_, _, _, rfl, hd⟩
  clear hd
  rintro ρ ⟨lo, mn, ys, rfl, hd⟩
  walk_at "gS"
  refine sv_then (fun ρ => ∃ (cs : List (List Nat)) (x8 x10 : Sl), ρ = [.io ys, .d (.str L), .d (.str SGN), .d (.int ch), .ow (ps.map .int), .d (.int lo), .d (.int mn), .ow (cs.map .str), x8, .no, x10, .no] ∧ cs.length = 5 ∧ cs.flatten.Perm SGN)
    (sv_for (fun k ρ => ∃ (cs : List (List Nat)) (x8 x10 : Sl), ρ = [.io ys, .d (.str L), .d (.str SGN), .d (.int ch), .ow (ps.map .int), .d (.int lo), .d (.int mn), .ow (cs.map .str), x8, .no, x10, .no] ∧ cs.length = 5 ∧ cs.flatten.Perm (SGN.take k) ∧ ioQ (some x8) = false ∧ ioQ (some x10) = false) (ev_ir1 ?_)) ?_
  · walk_at "g"
    refine ⟨_, rfl, by omega, by omega, ⟨[[], [], [], [], []], _, _, rfl, rfl, by simp, rfl, rfl⟩, ?_, ?_⟩
    · rintro k y hy ρ ⟨cs, x8, x10, rfl, hc, hpt, h8, h10⟩
      obtain ⟨hk, rfl⟩ := rngL_get hy
      have hk' : k < 96 := hk
      have at' := atS hk'
      have hm : SGN[k]'(by omega) ∈ SGN := List.getElem_mem _
      have hg : SGN[k]? = some (SGN[k]'(by omega)) := List.getElem?_eq_getElem _
      generalize SGN[k]'(by omega) = c at at' hm hg
      refine ⟨_, asg_z (by exact h8), ?_⟩
      walk_at "n"
      rw [Int.zero_add]
      walk_at "gS"
      refine sv_then (fun ρ => ∃ g : Int, ρ = [.io ys, .d (.str L), .d (.str SGN), .d (.int ch), .ow (ps.map .int), .d (.int lo), .d (.int mn), .ow (cs.map .str), .d (.int (k : Nat)), .no, .d (.int g), .no] ∧ 0 ≤ g ∧ g < 5) ?_ ?_
      · walk_at "g"
        refine brn_d (fun z => ?_) (fun z => ?_)
        · walk_at "g"; exact ⟨_, rfl, by omega, by omega⟩
        · walk_at "g"; exact ⟨_, rfl, by omega, by omega⟩
      rintro ρ ⟨g, rfl, g0, g1⟩
      refine sv_then (fun ρ => ∃ g : Int, ρ = [.io ys, .d (.str L), .d (.str SGN), .d (.int ch), .ow (ps.map .int), .d (.int lo), .d (.int mn), .ow (cs.map .str), .d (.int (k : Nat)), .no, .d (.int g), .no] ∧ 0 ≤ g ∧ g < 5) ?_ ?_
      · walk_at "g"
        refine brn_d (fun z => ?_) (fun z => ?_)
        · have hix := List.idxOf_lt_length_of_mem z
          have atp : atI (ps.map D.int) (findC L c) = some (.int (ps.getD (L.idxOf c) 0)) := by rw [findC_in z]; exact atIn (by omega)
          have hr := hpr (ps.getD (L.idxOf c) 0) (by rw [List.getD_eq_getElem?_getD, List.getElem?_eq_getElem (by omega)]; exact List.getElem_mem _)
          walk_at "g"
          exact ⟨_, rfl, hr.1, by omega⟩
        · walk_at "g"
          exact ⟨g, rfl, g0, g1⟩
      clear g0 g1
      rintro ρ ⟨g, rfl, g0, g1⟩
      obtain ⟨gn, rfl⟩ := Int.eq_ofNat_of_zero_le g0
      have hgn : gn < cs.length := by omega
      have atc : atI (cs.map D.str) ((gn : Nat) : Int) = some (.str (cs.getD gn [])) := by
        rw [atI_lit', List.getElem?_map, List.getElem?_eq_getElem hgn, List.getD_eq_getElem?_getD, List.getElem?_eq_getElem hgn]; rfl
      have lc : (cs.getD gn []).length ≤ 96 := by
        have h1 := hpt.length_eq
        rw [List.length_take, hS'] at h1
        have h2 : cs.getD gn [] ∈ cs := by rw [List.getD_eq_getElem?_getD, List.getElem?_eq_getElem hgn]; exact List.getElem_mem _
        have h3 := (List.sublist_flatten_of_mem h2).length_le
        omega
      refine sv_seti_l ?_
      walk_at "g"
      refine ⟨_, _, rfl, rfl, ?_⟩
      walk_at "g"
      refine ⟨_, gn, rfl, ixN_nat (by rw [List.length_map]; exact hgn), ?_⟩
      walk_at "n"
      refine ⟨cs.set gn (cs.getD gn [] ++ [c]), _, _, by rw [List.map_set], by rw [List.length_set]; exact hc, ?_, rfl, rfl⟩
      rw [take_s hg]
      exact (flat_set cs gn c hgn).trans (hpt.append_right _)
    · rintro ρ ⟨cs, x8, x10, rfl, hc, hpt, h8, h10⟩
      rw [rngL_len, List.take_of_length_le (by rw [hS']; decide)] at hpt
      exact ⟨cs, _, _, rfl, hc, hpt⟩
  rintro ρ ⟨cs, x8, x10, rfl, hc, hpt⟩
  walk_at "g"
  refine ev_sorted ?_
  walk_at "g"
  refine ev_lcfR (ρ1 := [.io ys, .d (.str L), .d (.str SGN), .d (.int ch), .ow (ps.map .int), .d (.int lo), .d (.int mn), .d (.lst (cs.map .str)), x8, .no, x10, .no]) cs D.str (fun p => !decide (p = [])) D.str rfl (by rw [hc]; decide) ?_ ?_ ?_ ?_
  · intro Q' q'
    refine ev_isq ?_
    walk_at "g"
    exact ⟨_, _, _, rfl, rfl, q'⟩
  · intro p _ Q' q'
    walk_at "g"
    exact q'
  · intro p _ _ Q' q'
    walk_at "g"
    exact q'
  walk_at "g"
  have hfl := List.length_filter_le (fun p : List Nat => !decide (p = [])) cs
  refine ⟨_, _, _, rfl, rfl, sortD_strs (by omega), ?_⟩
  walk_at "g"
  walk_at "n"
  refine q _ _ (cs_sort (by rw [flat_ne]; exact hpt) fun p hp => ?_) (by rw [(sortT_perm _).length_eq]; omega) hd
  have := (List.mem_filter.mp hp).2
  simpa using this
end K69
namespace K69
open Sw L2
theorem ni_bls {ms : List Bool} {Q : D → Prop} (q : ∀ b, Q (.bl b)) : Giv (fNi (.bl true) (.lst (ms.map D.bl))) Q := by
  have fl : (ms.map D.bl).all flatD = true := List.all_eq_true.mpr fun x hx => by obtain ⟨b, _, rfl⟩ := List.mem_map.mp hx; rfl
  refine giv (z := .bl (!inD (.bl true) (ms.map D.bl))) ?_ (q _)
  show orF fNiS (fInQ true) _ _ = _
  unfold orF
  rw [show fNiS (.bl true) (.lst (ms.map D.bl)) = none from rfl]
  show fInQ true _ _ = _
  unfold fInQ
  dsimp only
  rw [fl]
  rfl
theorem rows_of (zs : List D) (n N : Nat) (hl : zs.length = n) (h : ∀ z ∈ zs, ∃ t : Nat, z = nD t ∧ t < N) : ∃ r : List Nat, zs = r.map nD ∧ r.length = n ∧ ∀ t ∈ r, t < N := by
  subst hl
  induction zs with
  | nil => exact ⟨[], rfl, rfl, fun _ h => absurd h List.not_mem_nil⟩
  | cons z zs ih =>
    obtain ⟨r, rfl, h1, h2⟩ := ih fun y hy => h y (List.mem_cons_of_mem _ hy)
    obtain ⟨t, rfl, ht⟩ := h z List.mem_cons_self
    exact ⟨t :: r, rfl, by simp, fun y hy => by
      rcases List.mem_cons.mp hy with rfl | hy
      · exact ht
      · exact h2 y hy⟩
theorem marks_of (zs : List D) (n : Nat) (hl : zs.length = n) (h : ∀ z ∈ zs, ∃ b, z = .bl b) : ∃ ms : List Bool, zs = ms.map D.bl ∧ ms.length = n := by
  subst hl
  induction zs with
  | nil => exact ⟨[], rfl, rfl⟩
  | cons z zs ih =>
    obtain ⟨r, rfl, h1⟩ := ih fun y hy => h y (List.mem_cons_of_mem _ hy)
    obtain ⟨t, rfl⟩ := h z List.mem_cons_self
    exact ⟨t :: r, rfl, by simp⟩
theorem mk_ok {cells : List (List Nat)} (hc : Cs cells) (h13 : cells.length ≤ 13) {rs : List (List Nat)} {ms : List Bool} {N : Nat} (n1 : 1 ≤ N) (n2 : N ≤ 14) (h1 : rs.length = N) (h2 : ms.length = N) (h3 : ∀ r ∈ rs, r.length = cells.length ∧ ∀ t ∈ r, t < N) : Ok ⟨cells, rs, ms⟩ :=
  ⟨by show 1 ≤ rs.length; omega, by show rs.length ≤ 14; omega, by show ms.length = rs.length; omega, fun r hr => ⟨(h3 r hr).1, fun t ht => by have := (h3 r hr).2 t ht; show t < rs.length; omega⟩, h13, hc.pt, hc.ne⟩
end K69
namespace K69
open Sw L2
theorem in_ints {k : Int} {ks : List D} {Q : D → Prop} (h : ks.all flatD = true) (q : ∀ b, Q (.bl b)) : Giv (fIn (.int k) (.tup ks)) Q := by
  refine giv (z := .bl (inD (.int k) ks)) ?_ (q _)
  show orF fInS (fInQ false) _ _ = _
  unfold orF
  rw [show fInS (.int k) (.tup ks) = none from rfl]
  show fInQ false _ _ = _
  unfold fInQ
  dsimp only
  rw [h]
  rfl
theorem machine_ok {xs : List D} {e : Int} {L : List Nat} (hd : DrE e xs) (hL : Ltr L) {Q : Vl → List (List D) → Prop}
    (q : ∀ (m : Mc) (ys : List D), Ok m → DrE e ys → Q (.fz (MD m)) [ys]) : Fv f_law_machine [.li xs, .da (.str L), .da (.int 6)] Q := by
  refine fv_fn rfl ?_
  walk_at "n"
  unfold b_law_machine
  rw [next_eq]
  walk_at "gS"
  refine division_ok hd hL fun cells ys hc h13 hd => ?_
  have cl := hc.len
  have cp := hc.pos
  walk_at "gS"
  rename_i r0 ys0 r00 r01 hd0 sh ys sh0 sh1 hd
  obtain ⟨N, hN⟩ : ∃ N : Nat, 1 + r0 = (N : Nat) := ⟨(1 + r0).toNat, by omega⟩
  rw [hN]
  have N1 : 1 ≤ N := by omega
  have N5 : N ≤ 6 := by omega
  clear hN hd0 r00 r01
  refine sv_then (fun ρ => ∃ (rs : List (List Nat)) (ms : List Bool) (ys : List D) (x8 x9 x10 x11 : Sl), ρ = [.io ys, .d (.str L), .d (.int 6), .d (.tup (cells.map .str)), .d (.int (N : Nat)), .d (.int sh), .ow (rs.map rowD), .ow (ms.map .bl), x8, x9, x10, x11] ∧ DrE e ys ∧ rs.length = N ∧ ms.length = N ∧ ∀ r ∈ rs, r.length = cells.length ∧ ∀ t ∈ r, t < N)
    (sv_for (fun i ρ => ∃ (rs : List (List Nat)) (ms : List Bool) (ys : List D) (x8 x9 x10 x11 : Sl), ρ = [.io ys, .d (.str L), .d (.int 6), .d (.tup (cells.map .str)), .d (.int (N : Nat)), .d (.int sh), .ow (rs.map rowD), .ow (ms.map .bl), x8, x9, x10, x11] ∧ DrE e ys ∧ rs.length = i ∧ ms.length = i ∧ ioQ (some x8) = false ∧ ioQ (some x9) = false ∧ ioQ (some x10) = false ∧ ioQ (some x11) = false ∧ ∀ r ∈ rs, r.length = cells.length ∧ ∀ t ∈ r, t < N) (ev_ir1 ?_)) ?_
  · walk_at "g"
    refine ⟨_, rfl, by omega, by omega, ⟨[], [], _, _, _, _, _, rfl, hd, rfl, rfl, rfl, rfl, rfl, rfl, fun _ h => absurd h List.not_mem_nil⟩, ?_, ?_⟩
    · rintro i y hy ρ ⟨rs, ms, ys, x8, x9, x10, x11, rfl, hd, hl, hm, h8, h9, h10, h11, hr⟩
      obtain ⟨hi, rfl⟩ := rngL_get hy
      refine ⟨_, asg_z (by exact h8), ?_⟩
      walk_at "n"
      rw [Int.zero_add]
      walk_at "gS"
      refine sv_then (fun ρ => ∃ (r : List Nat) (ys : List D) (x10 x11 : Sl), ρ = [.io ys, .d (.str L), .d (.int 6), .d (.tup (cells.map .str)), .d (.int (N : Nat)), .d (.int sh), .ow (rs.map rowD), .ow (ms.map .bl), .d (.int (i : Nat)), .ow (r.map nD), x10, x11] ∧ DrE e ys ∧ r.length = cells.length ∧ (∀ t ∈ r, t < N) ∧ ioQ (some x10) = false ∧ ioQ (some x11) = false)
        (sv_for (fun j ρ => ∃ (r : List Nat) (ys : List D) (x10 x11 : Sl), ρ = [.io ys, .d (.str L), .d (.int 6), .d (.tup (cells.map .str)), .d (.int (N : Nat)), .d (.int sh), .ow (rs.map rowD), .ow (ms.map .bl), .d (.int (i : Nat)), .ow (r.map nD), x10, x11] ∧ DrE e ys ∧ r.length = j ∧ (∀ t ∈ r, t < N) ∧ ioQ (some x10) = false ∧ ioQ (some x11) = false) (ev_isq ?_)) ?_
      · walk_at "g"
        refine ⟨_, _, _, rfl, rfl, ⟨[], _, _, _, rfl, hd, rfl, fun _ h => absurd h List.not_mem_nil, h10, h11⟩, ?_, ?_⟩
        · rintro j y hy ρ ⟨r, ys, x10, x11, rfl, hd, hrl, hrt, h10, h11⟩
          obtain ⟨c, hcj, rfl⟩ := mapS_get hy
          have hj := (List.getElem?_eq_some_iff.mp hcj).1
          refine ⟨_, asg_z (by exact h10), ?_⟩
          walk_at "n"
          walk_at "gS"
          rename_i la ys la0 la1 hd
          have P : ∀ (la : Int) (ys : List D), Rho := fun la ys => [.io ys, .d (.str L), .d (.int 6), .d (.tup (cells.map .str)), .d (.int (N : Nat)), .d (.int sh), .ow (rs.map rowD), .ow (ms.map .bl), .d (.int (i : Nat)), .ow (r.map nD), .d (.str c), .d (.int la)]
          refine sv_then (fun ρ => ∃ (la : Int) (ys : List D), ρ = [.io ys, .d (.str L), .d (.int 6), .d (.tup (cells.map .str)), .d (.int (N : Nat)), .d (.int sh), .ow (rs.map rowD), .ow (ms.map .bl), .d (.int (i : Nat)), .ow (r.map nD), .d (.str c), .d (.int la)] ∧ DrE e ys ∧ 0 ≤ la ∧ la < N) ?_ ?_
          · walk_at "g"
            refine brn_d (fun z => ?_) (fun z => ?_)
            · walk_at "g"
              exact ⟨_, _, rfl, hd, by omega, by omega⟩
            · walk_at "g"
              exact ⟨_, _, rfl, hd, la0, la1⟩
          clear hd la0 la1
          rintro ρ ⟨la, ys, rfl, hd, la0, la1⟩
          refine sv_then (fun ρ => ∃ (la : Int) (ys : List D), ρ = [.io ys, .d (.str L), .d (.int 6), .d (.tup (cells.map .str)), .d (.int (N : Nat)), .d (.int sh), .ow (rs.map rowD), .ow (ms.map .bl), .d (.int (i : Nat)), .ow (r.map nD), .d (.str c), .d (.int la)] ∧ DrE e ys ∧ 0 ≤ la ∧ la < N) ?_ ?_
          · refine sv_if_l (ev_tAnd ?_)
            walk_at "g"
            refine brn_d (fun z => ?_) (fun z => ?_)
            · walk_at "g"
              refine brn_d (fun z => ?_) (fun z => ?_)
              · walk_at "g"
                exact ⟨_, _, rfl, by assumption, Int.emod_nonneg _ (by omega), Int.emod_lt_of_pos _ (by omega)⟩
              · walk_at "g"
                exact ⟨_, _, rfl, by assumption, la0, la1⟩
            · refine brn_f ?_
              walk_at "g"
              exact ⟨_, _, rfl, hd, la0, la1⟩
          clear hd la0 la1
          rintro ρ ⟨la, ys, rfl, hd, la0, la1⟩
          refine sv_then (fun ρ => ∃ (la : Int) (ys : List D), ρ = [.io ys, .d (.str L), .d (.int 6), .d (.tup (cells.map .str)), .d (.int (N : Nat)), .d (.int sh), .ow (rs.map rowD), .ow (ms.map .bl), .d (.int (i : Nat)), .ow (r.map nD), .d (.str c), .d (.int la)] ∧ DrE e ys ∧ 0 ≤ la ∧ la < N) ?_ ?_
          · refine sv_if_l (ev_tAnd ?_)
            walk_at "g"
            refine brn_d (fun z => ?_) (fun z => ?_)
            · refine ev_tOr ?_
              walk_at "g"
              refine brn_d (fun z => ?_) (fun z => ?_)
              · refine brn_t ?_
                walk_at "g"
                exact ⟨_, _, rfl, hd, by omega, by omega⟩
              · walk_at "g"
                refine brn_d (fun z => ?_) (fun z => ?_)
                · walk_at "g"
                  exact ⟨_, _, rfl, by assumption, by omega, by omega⟩
                · walk_at "g"
                  exact ⟨_, _, rfl, by assumption, la0, la1⟩
            · refine brn_f ?_
              walk_at "g"
              exact ⟨_, _, rfl, hd, la0, la1⟩
          clear hd la0 la1
          rintro ρ ⟨la, ys, rfl, hd, la0, la1⟩
          obtain ⟨ln, rfl⟩ := Int.eq_ofNat_of_zero_le la0
          walk_at "g"
          refine app rfl rfl (by rw [List.length_map]; show _ < 16777216; omega) ?_
          walk_at "n"
          refine ⟨r ++ [ln], ys, _, _, by rw [List.map_append]; rfl, hd, by simp [hrl], ?_, rfl, rfl⟩
          intro t ht
          rcases List.mem_append.mp ht with h | h
          · exact hrt t h
          · rw [List.mem_singleton.mp h]; omega
        · rintro ρ ⟨r, ys, x10, x11, rfl, hd, hrl, hrt, h10, h11⟩
          rw [List.length_map] at hrl
          exact ⟨r, _, _, _, rfl, hd, hrl, hrt, h10, h11⟩
      rintro ρ ⟨r, ys, x10, x11, rfl, hd, hrl, hrt, h10, h11⟩
      walk_at "g"
      refine app rfl rfl (by rw [List.length_map]; show _ < 16777216; omega) ?_
      walk_at "n"
      walk_at "g"
      rename_i t ys t0 t1 hd
      refine app rfl rfl (by rw [List.length_map]; show _ < 16777216; omega) ?_
      walk_at "n"
      refine ⟨rs ++ [r], ms ++ [_], ys, _, .ow (r.map nD), x10, x11, by rw [List.map_append, List.map_append]; rfl, hd, by simp [hl], by simp [hm], rfl, rfl, h10, h11, ?_⟩
      intro r' hr'
      rcases List.mem_append.mp hr' with h | h
      · exact hr r' h
      · rw [List.mem_singleton.mp h]; exact ⟨hrl, hrt⟩
    · rintro ρ ⟨rs, ms, ys, x8, x9, x10, x11, rfl, hd, hl, hm, h8, h9, h10, h11, hr⟩
      rw [rngL_len] at hl hm
      exact ⟨rs, ms, _, _, _, _, _, rfl, hd, by omega, by omega, hr⟩
  clear hd
  rintro ρ ⟨rs, ms, ys, x8, x9, x10, x11, rfl, hd, hl, hm, hr⟩
  refine sv_then (fun ρ => ∃ (ms : List Bool) (ys : List D), ρ = [.io ys, .d (.str L), .d (.int 6), .d (.tup (cells.map .str)), .d (.int (N : Nat)), .d (.int sh), .ow (rs.map rowD), .ow (ms.map .bl), x8, x9, x10, x11] ∧ DrE e ys ∧ ms.length = N) ?_ ?_
  · have fin : ∀ ys, DrE e ys → Sv (sSetI 7 (eBin fSub (eVar 4) (eC (.int 1))) (eC (.bl false))) [.io ys, .d (.str L), .d (.int 6), .d (.tup (cells.map .str)), .d (.int (N : Nat)), .d (.int sh), .ow (rs.map rowD), .ow (ms.map .bl), x8, x9, x10, x11] fun fl ρ1 => match fl with
        | .nx => ∃ (ms : List Bool) (ys : List D), ρ1 = [.io ys, .d (.str L), .d (.int 6), .d (.tup (cells.map .str)), .d (.int (N : Nat)), .d (.int sh), .ow (rs.map rowD), .ow (ms.map .bl), x8, x9, x10, x11] ∧ DrE e ys ∧ ms.length = N
        | fl => False := by
      intro ys hd
      refine sv_seti_l ?_
      walk_at "g"
      refine ⟨_, _, rfl, rfl, ?_⟩
      walk_at "g"
      refine ⟨_, N - 1, rfl, by rw [show (N : Int) - 1 = ((N - 1 : Nat) : Int) by omega]; exact ixN_nat (by rw [List.length_map]; omega), ?_⟩
      walk_at "n"
      exact ⟨ms.set (N - 1) false, ys, by rw [List.map_set], hd, by rw [List.length_set]; exact hm⟩
    refine sv_if_l (ev_tAnd ?_)
    walk_at "g"
    refine in_ints rfl fun b => ?_
    walk_at "g"
    refine brn_c (fun _ => ?_) (fun _ => ?_)
    · walk_at "g"
      refine brn_d (fun z => ?_) (fun z => ?_)
      · exact (fin _ (by assumption)).mono fun fl ρ h => by cases fl <;> first | exact h | exact h.elim
      · walk_at "g"
        exact ⟨ms, _, rfl, by assumption, hm⟩
    · refine brn_f ?_
      walk_at "g"
      exact ⟨ms, _, rfl, hd, hm⟩
  clear hd hm
  rintro ρ ⟨ms, ys, rfl, hd, hm⟩
  refine sv_then (fun ρ => ∃ (ms : List Bool) (ys : List D), ρ = [.io ys, .d (.str L), .d (.int 6), .d (.tup (cells.map .str)), .d (.int (N : Nat)), .d (.int sh), .ow (rs.map rowD), .ow (ms.map .bl), x8, x9, x10, x11] ∧ DrE e ys ∧ ms.length = N) ?_ ?_
  · refine sv_if_l (ev_tAnd ?_)
    walk_at "g"
    refine ni_bls fun b => ?_
    walk_at "g"
    refine brn_c (fun _ => ?_) (fun _ => ?_)
    · walk_at "g"
      refine brn_d (fun z => ?_) (fun z => ?_)
      · refine sv_seti_l ?_
        walk_at "g"
        refine ⟨_, _, rfl, rfl, ?_⟩
        walk_at "g"
        rename_i t ys t0 t1 hd
        obtain ⟨tn, rfl⟩ := Int.eq_ofNat_of_zero_le t0
        refine ⟨_, tn, rfl, ixN_nat (by rw [List.length_map]; omega), ?_⟩
        walk_at "n"
        exact ⟨ms.set tn true, ys, by rw [List.map_set], hd, by rw [List.length_set]; exact hm⟩
      · walk_at "g"
        exact ⟨ms, _, rfl, by assumption, hm⟩
    · refine brn_f ?_
      walk_at "g"
      exact ⟨ms, _, rfl, hd, hm⟩
  clear hd hm
  rintro ρ ⟨ms, ys, rfl, hd, hm⟩
  walk_at "g"
  walk_at "n"
  exact q ⟨cells, rs, ms⟩ ys (mk_ok hc h13 (by omega) (by omega) hl hm hr) hd
end K69
namespace K69
open Sw L2 PySem
noncomputable abbrev RS (R : List Nat) : Sw.D := .tup (R.map nD)
noncomputable def nkR (R : List Nat) : NestedKey := .tup (R.map fun n => .num (n : Nat))
theorem nkDs_nat : ∀ R : List Nat, nkDs (R.map nD) = some (R.map fun n => NestedKey.num (n : Nat))
  | [] => rfl
  | n :: R => by rw [List.map_cons, nkDs, nkDs_nat R]; rfl
theorem nk_R (R : List Nat) : nkD (RS R) = some (nkR R) := by
  show (nkDs (R.map nD)).map NestedKey.tup = _
  rw [nkDs_nat]
  rfl
theorem dep_R : ∀ R : List Nat, NestedKey.depthAll (R.map fun n => NestedKey.num (n : Nat)) ≤ 1
  | [] => Nat.zero_le _
  | n :: R => by
    have := dep_R R
    rw [List.map_cons, NestedKey.depthAll]
    have : (NestedKey.num ((n : Nat) : Int)).depth ≤ 1 := by simp [NestedKey.depth]
    omega
theorem nkT_R (R : List Nat) : nkT (RS R) = some (nkR R) := by
  unfold nkT
  show (nkD (RS R)).bind _ = _
  rw [nk_R]
  have := dep_R R
  show (if _ then _ else _) = _
  rw [if_pos (by unfold nkR; rw [NestedKey.depth]; omega)]
theorem num_inj : ∀ {R S : List Nat}, R.map (fun n => NestedKey.num (n : Nat)) = S.map (fun n => NestedKey.num (n : Nat)) → R = S
  | [], [], _ => rfl
  | [], _ :: _, h => by cases h
  | _ :: _, [], h => by cases h
  | r :: R, s :: S, h => by
    rw [List.map_cons, List.map_cons] at h
    obtain ⟨h1, h2⟩ := List.cons.inj h
    rw [num_inj h2, Int.ofNat.inj (NestedKey.num.inj h1)]
theorem nkR_inj {R S : List Nat} (h : nkR R = nkR S) : R = S := by
  unfold nkR at h
  exact num_inj (NestedKey.tup.inj h)
noncomputable def kvs (f : Nat → List Nat) (k : Nat) : List (Sw.D × Sw.D) := (List.range k).map fun i => (RS (f i), nD i)
theorem kvs_succ (f : Nat → List Nat) (k : Nat) : kvs f (k + 1) = kvs f k ++ [(RS (f k), nD k)] := by unfold kvs; rw [List.range_succ, List.map_append]; rfl
theorem kvs_len (f : Nat → List Nat) (k : Nat) : (kvs f k).length = k := by unfold kvs; rw [List.length_map, List.length_range]
theorem get_none (f : Nat → List Nat) (R : List Nat) : ∀ k, (∀ i, i < k → f i ≠ R) → dGet (kvs f k) (nkR R) = none
  | 0, _ => rfl
  | k + 1, h => by
    have ih := get_none f R k fun i hi => h i (by omega)
    unfold dGet at ih ⊢
    rw [kvs_succ, List.find?_append]
    rw [Option.map_eq_none_iff] at ih ⊢
    rw [ih, Option.none_or, List.find?_cons]
    have : decide (nkD (RS (f k)) = some (nkR R)) = false := by
      rw [decide_eq_false_iff_not, nk_R]
      exact fun e => h k (by omega) (nkR_inj (Option.some.inj e))
    rw [this]
    rfl
theorem get_some (f : Nat → List Nat) (R : List Nat) (j : Nat) (hj : f j = R) (hl : ∀ i, i < j → f i ≠ R) : ∀ k, j < k → dGet (kvs f k) (nkR R) = some (nD j)
  | 0, h => by omega
  | k + 1, h => by
    by_cases e : j = k
    · subst e
      have ih := get_none f R j hl
      unfold dGet at ih ⊢
      rw [Option.map_eq_none_iff] at ih
      rw [kvs_succ, List.find?_append, ih, Option.none_or, List.find?_cons]
      have : decide (nkD (RS (f j)) = some (nkR R)) = true := by rw [decide_eq_true_eq, nk_R, hj]
      rw [this]
      rfl
    · have ih := get_some f R j hj hl k (by omega)
      unfold dGet at ih ⊢
      obtain ⟨p, h1, h2⟩ := Option.map_eq_some_iff.mp ih
      rw [kvs_succ, List.find?_append, h1, Option.some_or, Option.map_some, h2]
theorem put_kvs (f : Nat → List Nat) (k : Nat) (h : ∀ i, i < k → f i ≠ f k) : dPut (kvs f k) (RS (f k)) (nkR (f k)) (nD k) = kvs f (k + 1) := by
  unfold dPut
  rw [get_none f _ k h, kvs_succ]
  rfl
noncomputable def nx (m : Mc) (R : List Nat) : List Nat := (List.range m.rows.length).filter fun t => R.any fun s => (m.rows.getD s []).contains t
noncomputable def sq (m : Mc) : Nat → List Nat
  | 0 => [0]
  | k + 1 => nx m (sq m k)
theorem nx_lt {m : Mc} {R : List Nat} : ∀ t ∈ nx m R, t < m.rows.length := fun t h => List.mem_range.mp (List.mem_filter.mp h).1
theorem sq_lt {m : Mc} (h : Ok m) : ∀ k, ∀ t ∈ sq m k, t < m.rows.length
  | 0, t, ht => by rw [List.mem_singleton.mp ht]; exact h.n1
  | k + 1, t, ht => nx_lt t ht
theorem sq_asc (m : Mc) : ∀ k, (sq m k).Pairwise (· < ·)
  | 0 => List.pairwise_singleton _ _
  | k + 1 => List.pairwise_lt_range.filter _
theorem asc_len {R : List Nat} {N : Nat} (ha : R.Pairwise (· < ·)) (h : ∀ t ∈ R, t < N) : R.length ≤ N := pigeons R N (ha.imp fun z e => by subst e; exact absurd z (Nat.lt_irrefl _)) h
theorem sq_len {m : Mc} (h : Ok m) (k : Nat) : (sq m k).length ≤ 14 := Nat.le_trans (asc_len (sq_asc m k) (sq_lt h k)) h.n2
/-- ascending lists with the same members -/
theorem asc_eq {R S : List Nat} (hR : R.Pairwise (· < ·)) (hS : S.Pairwise (· < ·)) (h : ∀ t, t ∈ R ↔ t ∈ S) : R = S := by
  have nd : ∀ {L : List Nat}, L.Pairwise (· < ·) → L.Nodup := fun z => z.imp fun z e => by subst e; exact absurd z (Nat.lt_irrefl _)
  exact List.Perm.eq_of_pairwise (le := fun a b : Nat => a < b) (fun a b _ _ h h' => by omega) hR hS ((List.perm_ext_iff_of_nodup (nd hR) (nd hS)).mpr h)
noncomputable def Rp (m : Mc) (n : Nat) : Prop := ∃ j, j < n ∧ sq m j = sq m n
theorem least_of {P : Nat → Prop} (n : Nat) (h : P n) : ∃ k, k ≤ n ∧ P k ∧ ∀ i, i < k → ¬ P i := by
  induction n using Nat.strongRecOn with
  | ind n ih =>
    by_cases q : ∃ i, i < n ∧ P i
    · obtain ⟨i, hi, hp⟩ := q
      obtain ⟨k, h1, h2, h3⟩ := ih i hi hp
      exact ⟨k, by omega, h2, h3⟩
    · exact ⟨n, Nat.le_refl _, h, fun i hi hp => q ⟨i, hi, hp⟩⟩
/-- some set comes back soon -/
theorem rep_ex {m : Mc} (h : Ok m) : ∃ n, n ≤ 16384 ∧ Rp m n ∧ ∀ i, i < n → ¬ Rp m i := by
  suffices ∃ n, n ≤ 16384 ∧ Rp m n by
    obtain ⟨n, h1, h2⟩ := this
    obtain ⟨k, a, b, c⟩ := least_of n h2
    exact ⟨k, by omega, b, c⟩
  refine Classical.byContradiction fun no => ?_
  have inj : ∀ i j, i ≤ 16384 → j < i → sq m j ≠ sq m i := fun i j hi hj e => no ⟨i, hi, j, hj, e⟩
  have := pigeons ((List.range 16385).map fun i => cd (fun t => (sq m i).contains t) 14) 16384 ?_ fun x hx => by
    obtain ⟨i, _, rfl⟩ := List.mem_map.mp hx
    exact cd_lt _ 14
  · rw [List.length_map, List.length_range] at this
    omega
  · rw [List.nodup_iff_pairwise_ne, List.pairwise_map]
    refine List.Pairwise.imp_of_mem ?_ List.pairwise_lt_range
    intro i j hi hj hij e
    refine inj j i (by have := List.mem_range.mp hj; omega) hij (asc_eq (sq_asc m i) (sq_asc m j) fun t => ?_)
    by_cases ht : t < 14
    · have := cd_inj e t ht
      simpa using this
    · exact ⟨fun z => absurd (sq_lt h i t z) (by have := h.n2; omega), fun z => absurd (sq_lt h j t z) (by have := h.n2; omega)⟩
/-- the first set that was met before, and where -/
structure Fst (m : Mc) (n j : Nat) : Prop where
  n1 : n ≤ 16384
  lt : j < n
  eq : sq m j = sq m n
  mn : ∀ i, i < n → ¬ Rp m i
theorem fst_ex {m : Mc} (h : Ok m) : ∃ n j, Fst m n j := by
  obtain ⟨n, hn, ⟨j, hj, ej⟩, hmin⟩ := rep_ex h
  exact ⟨n, j, hn, hj, ej, hmin⟩
theorem Fst.get {m : Mc} {n j : Nat} (h : Fst m n j) : dGet (kvs (sq m) n) (nkR (sq m n)) = some (nD j) :=
  get_some (sq m) (sq m n) j h.eq (fun k hk e => h.mn j h.lt ⟨k, hk, e.trans h.eq.symm⟩) n h.lt
theorem Fst.non {m : Mc} {n j i : Nat} (h : Fst m n j) (hi : i ≤ n) (ne : i ≠ n) : ∀ k, k < i → sq m k ≠ sq m i := fun k hk e => h.mn i (by omega) ⟨k, hk, e⟩
noncomputable def mkR (m : Mc) (R : List Nat) : Bool := R.any fun s => m.marks.getD s false
noncomputable def ms (m : Mc) (n : Nat) : List Bool := (List.range n).map fun k => mkR m (sq m k)
theorem ms_succ (m : Mc) (n : Nat) : ms m (n + 1) = ms m n ++ [mkR m (sq m n)] := by unfold ms; rw [List.range_succ, List.map_append]; rfl
theorem ms_len (m : Mc) (n : Nat) : (ms m n).length = n := by unfold ms; rw [List.length_map, List.length_range]
theorem mark_at {m : Mc} (h : Ok m) {s : Nat} (hs : s < m.rows.length) : atI (m.marks.map D.bl) ((s : Nat) : Int) = some (.bl (m.marks.getD s false)) := by
  rw [atI_lit', List.getElem?_map, List.getD_eq_getElem?_getD, List.getElem?_eq_getElem (by rw [h.ml]; exact hs)]; rfl
theorem row_at {m : Mc} {s : Nat} (hs : s < m.rows.length) : atI (m.rows.map rowD) ((s : Nat) : Int) = some (rowD (m.rows.getD s [])) := by
  rw [atI_lit', List.getElem?_map, List.getD_eq_getElem?_getD, List.getElem?_eq_getElem hs]; rfl
noncomputable def tg (m : Mc) (R : List Nat) : List Nat := R.flatMap fun s => m.rows.getD s []
theorem intsD_nat : ∀ R : List Nat, intsD (R.map nD) = some (R.map fun n : Nat => (n : Int))
  | [] => rfl
  | n :: R => by rw [List.map_cons, intsD, intsD_nat R]; rfl
theorem row_mem {m : Mc} {s : Nat} (hs : s < m.rows.length) : m.rows.getD s [] ∈ m.rows := by
  rw [List.getD_eq_getElem?_getD, List.getElem?_eq_getElem hs]; exact List.getElem_mem _
theorem tg_len {m : Mc} (h : Ok m) : ∀ R : List Nat, (∀ s ∈ R, s < m.rows.length) → (tg m R).length ≤ 13 * R.length
  | [], _ => by simp [tg]
  | s :: R, hR => by
    have ih := tg_len h R fun x hx => hR x (List.mem_cons_of_mem _ hx)
    have e := (h.rw _ (row_mem (hR s List.mem_cons_self))).1
    have c := h.c2
    unfold tg at ih ⊢
    rw [List.flatMap_cons, List.length_append, List.length_cons]
    omega
theorem mem_tg {m : Mc} (h : Ok m) {R : List Nat} (hR : ∀ s ∈ R, s < m.rows.length) (t : Nat) : t ∈ tg m R ↔ t ∈ nx m R := by
  unfold tg nx
  rw [List.mem_flatMap, List.mem_filter, List.mem_range, List.any_eq_true]
  constructor
  · rintro ⟨s, hs, ht⟩
    exact ⟨(h.rw _ (row_mem (hR s hs))).2 t ht, s, hs, by simpa using ht⟩
  · rintro ⟨_, s, hs, ht⟩
    exact ⟨s, hs, by simpa using ht⟩
/-- the ascending members of numbers that have those of an ascending list -/
theorem sos_eq {T S : List Nat} (hS : S.Pairwise (· < ·)) (h : ∀ t, t ∈ T ↔ t ∈ S) : sos (T.map fun n : Nat => (n : Int)) = S.map fun n : Nat => (n : Int) := by
  refine asc_uniq (sos_lt _) (by rw [List.pairwise_map]; exact hS.imp fun z => Int.ofNat_lt.mpr z) fun k => ?_
  rw [sos_mem, List.mem_map, List.mem_map]
  exact ⟨fun ⟨a, h1, h2⟩ => ⟨a, (h a).mp h1, h2⟩, fun ⟨a, h1, h2⟩ => ⟨a, (h a).mpr h1, h2⟩⟩
theorem ev_s2 {vs : List Nat} {jx : Nat} {m1 m2 : Mq} {ρ : Rho} {xs : List Sw.D} {ns : List Int} {Q : Vl → Rho → Prop} (hp : (vs.all fun v => plainSl ρ[v]?) = true) (h1 : m1 ρ = some (.tup xs)) (h2 : gath m2 jx (wipeR ρ vs) xs = some ns) (hl : ns.length ≤ 1000) (hs : (sos ns).length < 64)
    (q : Q (.fr ((sos ns).map .int)) ρ) : Ev (eS2 vs jx m1 m2) ρ Q := ⟨_, ρ, by unfold eS2; rw [if_pos hp, h1]; simp only [Option.bind_some, tupDs, h2]; rw [if_pos ⟨hl, hs⟩], q⟩
theorem gath_ok {m : Mc} (Y : Sw.D) : ∀ R : List Nat, (∀ s ∈ R, s < m.rows.length) → gath (qBin fIx (qVar 0) (qVar 2)) 2 [.d (rowsD m), .d Y, .no, .no] (R.map nD) = some ((tg m R).map fun n : Nat => (n : Int))
  | [], _ => rfl
  | s :: R, hR => by
    have ih := gath_ok Y R fun x hx => hR x (List.mem_cons_of_mem _ hx)
    have hs := hR s List.mem_cons_self
    rw [List.map_cons, gath]
    show (qBin fIx (qVar 0) (qVar 2) [.d (rowsD m), .d Y, .d (nD s), .no]).bind _ = _
    have e1 : qBin fIx (qVar 0) (qVar 2) [.d (rowsD m), .d Y, .d (nD s), .no] = some (rowD (m.rows.getD s [])) := by
      show fIx (.tup (m.rows.map rowD)) (.int (s : Nat)) = _
      rw [r_ixt, row_at hs]
    rw [e1]
    show (intsD ((m.rows.getD s []).map nD)).bind _ = _
    rw [intsD_nat, Option.bind_some, ih, Option.bind_some]
    unfold tg
    rw [List.flatMap_cons, List.map_append]
theorem nx_asc (m : Mc) (R : List Nat) : (nx m R).Pairwise (· < ·) := by unfold nx; exact List.pairwise_lt_range.filter _
theorem nx_len {m : Mc} (h : Ok m) (R : List Nat) : (nx m R).length ≤ 14 := Nat.le_trans (asc_len (nx_asc m R) nx_lt) h.n2
theorem successors_ok {m : Mc} (h : Ok m) {R : List Nat} (ha : R.Pairwise (· < ·)) (hR : ∀ s ∈ R, s < m.rows.length) {Q : Vl → List (List Sw.D) → Prop} (q : Q (.fz (RS (nx m R))) []) : Fv f_successors [.da (rowsD m), .da (RS R)] Q := by
  refine fv_fn rfl ?_
  walk_at "n"
  unfold b_successors
  walk_at "g"
  have hl := asc_len ha hR
  have n2 := h.n2
  have e : sos ((tg m R).map fun n : Nat => (n : Int)) = (nx m R).map fun n : Nat => (n : Int) := sos_eq (nx_asc m R) (mem_tg h hR)
  refine ev_s2 (xs := R.map nD) (ns := (tg m R).map fun n : Nat => (n : Int)) rfl rfl (gath_ok _ R hR) (by rw [List.length_map]; have := tg_len h R hR; omega) (by rw [e, List.length_map]; have := nx_len h R; omega) ?_
  rw [e, List.map_map]
  walk_at "g"
  walk_at "n"
  exact q
end K69
namespace K69
open Sw L2
theorem at_bl {L : List Bool} {k : Nat} (h : k < L.length) : atI (L.map D.bl) ((k : Nat) : Int) = some (.bl (L.getD k false)) := by
  rw [atI_lit', List.getElem?_map, List.getD_eq_getElem?_getD, List.getElem?_eq_getElem h]; rfl
theorem ring_ok {xs : List D} {e : Int} (hd : DrE e xs) {cells : List (List Nat)} (cp : 1 ≤ cells.length) (cl : cells.length ≤ 13) {S M E N : Nat} (m0 : 1 ≤ M) (m1 : M ≤ 5) (hS : S + M ≤ N) (hE : E < N) (hN : N ≤ 14) {Q : Vl → List (List D) → Prop}
    (q : ∀ (rs : List (List Nat)) (ys : List D), rs.length = M → (∀ r ∈ rs, r.length = cells.length ∧ ∀ t ∈ r, t < N) → DrE e ys → Q (.fr (rs.map rowD)) [ys]) : Fv f_law_ring [.li xs, .da (.tup (cells.map .str)), .da (nD S), .da (nD M), .da (nD E)] Q := by
  refine fv_fn rfl ?_
  walk_at "n"
  unfold b_law_ring
  rw [next_eq]
  walk_at "gS"
  refine fv_nextE (by assumption) (by rw [List.length_map]; omega) ?_
  intro kp ys k0 k1 hd
  rw [List.length_map] at k1
  walk_at "gS"
  refine sv_then (fun ρ => ∃ (rs : List (List Nat)) (ys : List D) (x7 x8 x9 x10 : Sl), ρ = [.io ys, .d (.tup (cells.map .str)), .d (nD S), .d (nD M), .d (nD E), .d (.int kp), .ow (rs.map rowD), x7, x8, x9, x10] ∧ DrE e ys ∧ rs.length = M ∧ ∀ r ∈ rs, r.length = cells.length ∧ ∀ t ∈ r, t < N)
    (sv_for (fun i ρ => ∃ (rs : List (List Nat)) (ys : List D) (x7 x8 x9 x10 : Sl), ρ = [.io ys, .d (.tup (cells.map .str)), .d (nD S), .d (nD M), .d (nD E), .d (.int kp), .ow (rs.map rowD), x7, x8, x9, x10] ∧ DrE e ys ∧ rs.length = i ∧ ioQ (some x7) = false ∧ ioQ (some x8) = false ∧ ioQ (some x9) = false ∧ ioQ (some x10) = false ∧ ∀ r ∈ rs, r.length = cells.length ∧ ∀ t ∈ r, t < N) (ev_ir1 ?_)) ?_
  · walk_at "g"
    refine ⟨_, rfl, by omega, by omega, ⟨[], _, _, _, _, _, rfl, hd, rfl, rfl, rfl, rfl, rfl, fun _ h => absurd h List.not_mem_nil⟩, ?_, ?_⟩
    · rintro i y hy ρ ⟨rs, ys, x7, x8, x9, x10, rfl, hd, hl, h7, h8, h9, h10, hr⟩
      obtain ⟨hi, rfl⟩ := rngL_get hy
      refine ⟨_, asg_z (by exact h7), ?_⟩
      walk_at "n"
      rw [Int.zero_add]
      walk_at "gS"
      refine sv_then (fun ρ => ∃ (r : List Nat) (ys : List D) (x9 x10 : Sl), ρ = [.io ys, .d (.tup (cells.map .str)), .d (nD S), .d (nD M), .d (nD E), .d (.int kp), .ow (rs.map rowD), .d (nD i), .ow (r.map nD), x9, x10] ∧ DrE e ys ∧ r.length = cells.length ∧ (∀ t ∈ r, t < N) ∧ ioQ (some x9) = false ∧ ioQ (some x10) = false)
        (sv_for (fun j ρ => ∃ (r : List Nat) (ys : List D) (x9 x10 : Sl), ρ = [.io ys, .d (.tup (cells.map .str)), .d (nD S), .d (nD M), .d (nD E), .d (.int kp), .ow (rs.map rowD), .d (nD i), .ow (r.map nD), x9, x10] ∧ DrE e ys ∧ r.length = j ∧ (∀ t ∈ r, t < N) ∧ ioQ (some x9) = false ∧ ioQ (some x10) = false) (ev_ir1 ?_)) ?_
      · walk_at "g"
        refine ⟨_, rfl, by rw [List.length_map]; omega, by rw [List.length_map]; omega, ⟨[], _, _, _, rfl, hd, rfl, (fun _ h => absurd h List.not_mem_nil), h9, h10⟩, ?_, ?_⟩
        · rintro j y hy ρ ⟨r, ys, x9, x10, rfl, hd, hrl, hrt, h9, h10⟩
          obtain ⟨hj, rfl⟩ := rngL_get hy
          rw [List.length_map] at hj
          refine ⟨_, asg_z (by exact h9), ?_⟩
          walk_at "n"
          rw [Int.zero_add]
          walk_at "gS"
          have em : (S : Int) + ((i : Int) + 1) % (M : Int) = ((S + (i + 1) % M : Nat) : Int) := by
            rw [Int.natCast_add, Int.natCast_emod]
            rfl
          rw [em]
          have lt : (i + 1) % M < M := Nat.mod_lt _ (by omega)
          refine sv_then (fun ρ => ∃ (la : Nat) (ys : List D), ρ = [.io ys, .d (.tup (cells.map .str)), .d (nD S), .d (nD M), .d (nD E), .d (.int kp), .ow (rs.map rowD), .d (nD i), .ow (r.map nD), .d (nD j), .d (nD la)] ∧ DrE e ys ∧ la < N) ?_ ?_
          · refine sv_if_l (ev_tAnd ?_)
            walk_at "g"
            refine brn_nd (fun z => ?_) (fun z => ?_)
            · walk_at "g"
              refine brn_d (fun z => ?_) (fun z => ?_)
              · walk_at "g"
                exact ⟨_, _, rfl, by assumption, hE⟩
              · walk_at "g"
                exact ⟨_, _, rfl, by assumption, by omega⟩
            · refine brn_f ?_
              walk_at "g"
              exact ⟨_, _, rfl, hd, by omega⟩
          clear hd
          rintro ρ ⟨la, ys, rfl, hd, hla⟩
          walk_at "g"
          refine app rfl rfl (by rw [List.length_map]; show _ < 16777216; omega) ?_
          walk_at "n"
          refine ⟨r ++ [la], ys, _, _, by rw [List.map_append]; rfl, hd, by simp [hrl], ?_, rfl, rfl⟩
          intro t ht
          rcases List.mem_append.mp ht with h | h
          · exact hrt t h
          · rw [List.mem_singleton.mp h]; exact hla
        · rintro ρ ⟨r, ys, x9, x10, rfl, hd, hrl, hrt, h9, h10⟩
          rw [rngL_len, List.length_map] at hrl
          exact ⟨r, _, _, _, rfl, hd, by omega, hrt, h9, h10⟩
      clear hd h9 h10
      rintro ρ ⟨r, ys, x9, x10, rfl, hd, hrl, hrt, h9, h10⟩
      walk_at "g"
      refine app rfl rfl (by rw [List.length_map]; show _ < 16777216; omega) ?_
      walk_at "n"
      refine ⟨rs ++ [r], ys, _, .ow (r.map nD), x9, x10, by rw [List.map_append]; rfl, hd, by simp [hl], rfl, rfl, h9, h10, ?_⟩
      intro r' hr'
      rcases List.mem_append.mp hr' with h | h
      · exact hr r' h
      · rw [List.mem_singleton.mp h]; exact ⟨hrl, hrt⟩
    · rintro ρ ⟨rs, ys, x7, x8, x9, x10, rfl, hd, hl, h7, h8, h9, h10, hr⟩
      rw [rngL_len] at hl
      exact ⟨rs, _, _, _, _, _, rfl, hd, by omega, hr⟩
  clear hd
  rintro ρ ⟨rs, ys, x7, x8, x9, x10, rfl, hd, hl, hr⟩
  walk_at "g"
  walk_at "n"
  exact q rs ys hl hr hd
theorem wheels_ok {xs : List D} {e : Int} {L : List Nat} (hd : DrE e xs) (hL : Ltr L) {Q : Vl → List (List D) → Prop}
    (q : ∀ (m : Mc) (ys : List D), Ok m → DrE e ys → Q (.fz (MD m)) [ys]) : Fv f_law_wheels [.li xs, .da (.str L)] Q := by
  refine fv_fn rfl ?_
  walk_at "n"
  unfold b_law_wheels
  rw [next_eq]
  walk_at "gS"
  refine division_ok hd hL fun cells ys hc h13 hd => ?_
  have cp := hc.pos
  walk_at "gS"
  rename_i c0 _ c1 c2 _ f0 _ f1 f2 _ s0 ys s1 s2 hd
  obtain ⟨c, ec⟩ : ∃ c : Nat, 1 + c0 = (c : Nat) := ⟨(1 + c0).toNat, by omega⟩
  obtain ⟨f, ef⟩ : ∃ f : Nat, 1 + f0 = (f : Nat) := ⟨(1 + f0).toNat, by omega⟩
  obtain ⟨s, es⟩ : ∃ s : Nat, 1 + s0 = (s : Nat) := ⟨(1 + s0).toNat, by omega⟩
  rw [ec, ef, es]
  have hc1 : 1 ≤ c := by omega
  have hc3 : c ≤ 3 := by omega
  have hf1 : 1 ≤ f := by omega
  have hf5 : f ≤ 5 := by omega
  have hs1 : 1 ≤ s := by omega
  have hs5 : s ≤ 5 := by omega
  rw [show (c : Int) + (f : Int) + (s : Int) = ((c + f + s : Nat) : Int) by omega]
  generalize hE : c + f + s = E
  clear c1 c2 f1 f2 s1 s2 ec ef es
  refine ev_lcm (List.range (c - 1)) (fun k => .int (0 + (k : Nat))) (fun k => rowD (cells.map fun _ => k + 1)) rfl (by rw [List.length_range]; show _ ≤ 16777216; omega) ?_ ?_ ?_
  · intro Q' q'
    refine ev_ir1 ?_
    walk_at "g"
    refine ⟨_, rfl, by omega, by omega, ?_⟩
    rw [show ((c : Int) - 1).toNat = c - 1 by omega]
    exact q'
  · intro k _ Q' q'
    walk_at "n"
    walk_at "g"
    refine ev_lcm cells D.str (fun _ => nD (k + 1)) rfl (by show _ ≤ 16777216; omega) ?_ ?_ ?_
    · intro Q' q'
      refine ev_isq ?_
      walk_at "g"
      exact ⟨_, _, _, rfl, rfl, q'⟩
    · intro x _ Q' q'
      walk_at "n"
      walk_at "g"
      rw [show (0 + (k : Int) + 1) = ((k + 1 : Nat) : Int) by omega]
      exact q'
    walk_at "g"
    rw [show (cells.map fun _ => nD (k + 1)) = (cells.map fun _ => k + 1).map nD by rw [List.map_map]; rfl]
    exact q'
  obtain ⟨rs, hrs, hl, hr⟩ : ∃ rs : List (List Nat), ((List.range (c - 1)).map fun k => rowD (cells.map fun _ => k + 1)) = rs.map rowD ∧ rs.length = c - 1 ∧ ∀ r ∈ rs, r.length = cells.length ∧ ∀ t ∈ r, t < E + 1 := by
    refine ⟨(List.range (c - 1)).map fun k => cells.map fun _ => k + 1, by rw [List.map_map]; rfl, by simp, fun r hr => ?_⟩
    obtain ⟨k, hk, rfl⟩ := List.mem_map.mp hr
    have := List.mem_range.mp hk
    refine ⟨by simp, fun t ht => ?_⟩
    obtain ⟨_, _, rfl⟩ := List.mem_map.mp ht
    omega
  rw [hrs]
  clear hrs
  walk_at "gS"
  refine ev_lc_draw (v := 9) (cells.map .str) (fun z => ∃ t : Nat, z = nD t ∧ t < E + 1) hd (by rfl) (by rw [List.length_map]; show _ ≤ 16777216; omega) ?_ ?_ ?_
  · intro Q' q'
    refine ev_isq ?_
    walk_at "g"
    exact ⟨_, _, _, rfl, rfl, q'⟩
  · intro x _ ys hd Q' q'
    walk_at "n"
    walk_at "x"
    · exact q' _ _ ⟨c, rfl, by omega⟩ (by assumption)
    · exact q' _ _ ⟨c + f, rfl, by omega⟩ (by assumption)
    · exact q' _ _ ⟨E, rfl, by omega⟩ (by assumption)
  clear hd
  intro zs ys hz hzp hd
  obtain ⟨row, rfl, hrl, hrt⟩ := rows_of zs cells.length (E + 1) (by rw [hz, List.length_map]) hzp
  walk_at "g"
  refine app rfl rfl (by rw [List.length_map]; show _ < 16777216; omega) ?_
  walk_at "n"
  walk_at "g"
  refine ring_ok hd cp h13 (S := c) (M := f) (E := E) (N := E + 1) hf1 hf5 (by omega) (by omega) (by omega) ?_
  clear hd hzp hz
  intro rs1 ys hl1 hr1 hd
  walk_at "g"
  rw [show (c : Int) + (f : Int) = ((c + f : Nat) : Int) from rfl]
  refine ring_ok hd cp h13 (S := c + f) (M := s) (E := E) (N := E + 1) hs1 hs5 (by omega) (by omega) (by omega) ?_
  clear hd
  intro rs2 ys hl2 hr2 hd
  walk_at "g"
  refine ev_lcm cells D.str (fun _ => nD E) rfl (by show _ ≤ 16777216; omega) ?_ ?_ ?_
  · intro Q' q'
    refine ev_isq ?_
    walk_at "g"
    exact ⟨_, _, _, rfl, rfl, q'⟩
  · intro x _ Q' q'
    walk_at "n"
    walk_at "g"
    exact q'
  obtain ⟨R, hR, hRl, hRr⟩ : ∃ R : List (List Nat), rs.map rowD ++ [D.tup (row.map nD)] ++ rs1.map rowD ++ rs2.map rowD ++ [D.tup (cells.map fun _ => nD E)] = R.map rowD ∧ R.length = E + 1 ∧ ∀ r ∈ R, r.length = cells.length ∧ ∀ t ∈ r, t < E + 1 := by
    refine ⟨rs ++ [row] ++ rs1 ++ rs2 ++ [cells.map fun _ => E], ?_, ?_, ?_⟩
    · have e : (cells.map fun _ => nD E) = (cells.map fun _ => E).map nD := by rw [List.map_map]; rfl
      rw [e]
      simp only [List.map_append, List.map_cons, List.map_nil]
    · simp only [List.length_append, List.length_cons, List.length_nil]
      omega
    · intro r h
      simp only [List.mem_append, List.mem_singleton] at h
      rcases h with (((h | h) | h) | h) | h
      · exact hr r h
      · subst h; exact ⟨hrl, hrt⟩
      · exact hr1 r h
      · exact hr2 r h
      · subst h
        refine ⟨by simp, fun t ht => ?_⟩
        obtain ⟨_, _, rfl⟩ := List.mem_map.mp ht
        omega
  walk_at "g"
  refine app rfl rfl ?_ ?_
  · simp only [List.length_append, List.length_map, List.length_cons, List.length_nil]
    show _ < 16777216
    omega
  rw [hR]
  clear hR hr hr1 hr2 hl hl1 hl2 hrl hrt
  walk_at "n"
  walk_at "g"
  refine ev_lc_draw (v := 8) (rngL 0 E) (fun z => ∃ b, z = .bl b) hd rfl (by rw [rngL_len]; show _ ≤ 16777216; omega) ?_ ?_ ?_
  · intro Q' q'
    refine ev_ir1 ?_
    walk_at "g"
    exact ⟨_, rfl, by omega, by omega, q'⟩
  · intro x _ ys hd Q' q'
    walk_at "n"
    walk_at "g"
    exact q' _ _ ⟨_, rfl⟩ (by assumption)
  clear hd
  intro zs ys hz hzp hd
  obtain ⟨ms, rfl, hm⟩ := marks_of zs E (by rw [hz, rngL_len]) hzp
  clear hz hzp
  walk_at "gS"
  refine sv_then (fun ρ => ∃ (ms : List Bool) (ys : List D), ρ = [.io ys, .d (.str L), .d (.tup (cells.map .str)), .d (nD c), .d (nD f), .d (nD s), .d (nD E), .ow (R.map rowD), .ow (ms.map .bl), .no, .no] ∧ DrE e ys ∧ ms.length = E) ?_ ?_
  · refine sv_if_l ?_
    walk_at "g"
    refine brn_d (fun z => ?_) (fun z => ?_)
    · walk_at "gS"
      refine ev_lcm (List.range E) (fun k => .int (0 + (k : Nat))) (fun k => .bl (ms.getD k false && decide (c ≤ k))) rfl (by rw [List.length_range]; show _ ≤ 16777216; omega) ?_ ?_ ?_
      · intro Q' q'
        refine ev_ir1 ?_
        walk_at "g"
        exact ⟨_, rfl, by omega, by omega, q'⟩
      · intro k hk Q' q'
        have := List.mem_range.mp hk
        rw [Int.zero_add] at q' ⊢
        walk_at "n"
        walk_at "g"
        refine giv_ixl (at_bl (by omega)) ?_
        walk_at "g"
        refine brn_c (fun h => ?_) (fun h => ?_)
        · walk_at "g"
          have e : (ms.getD k false && decide (c ≤ k)) = decide ((c : Int) ≤ (k : Int)) := by rw [h, Bool.true_and]; exact decide_eq_decide.mpr (by omega)
          rw [e] at q'
          exact q'
        · rw [h, Bool.false_and] at q'
          exact q'
      walk_at "g"
      refine sv_seti_l ?_
      walk_at "g"
      refine ⟨_, _, rfl, rfl, ?_⟩
      walk_at "g"
      refine ⟨_, c, rfl, ixN_nat (by rw [List.length_map, List.length_range]; omega), ?_⟩
      walk_at "n"
      exact ⟨((List.range E).map fun k => ms.getD k false && decide (c ≤ k)).set c true, _, by rw [List.map_set, List.map_map]; rfl, by assumption, by rw [List.length_set, List.length_map, List.length_range]⟩
    · walk_at "g"
      exact ⟨ms, _, rfl, by assumption, hm⟩
  clear hd hm
  rintro ρ ⟨ms, ys, rfl, hd, hm⟩
  walk_at "g"
  walk_at "n"
  rw [show ms.map D.bl ++ [D.bl false] = (ms ++ [false]).map D.bl by rw [List.map_append]; rfl]
  exact q ⟨cells, R, ms ++ [false]⟩ ys (mk_ok hc h13 (by omega) (by omega) hRl (by simp [hm]) hRr) hd
end K69
namespace K69
open Sw L2
theorem inD_nat {t : Nat} : ∀ {L : List Nat}, inD (nD t) (L.map nD) = decide (t ∈ L)
  | [] => by simp [inD]
  | k :: L => by
    have ih := inD_nat (t := t) (L := L)
    unfold inD at ih ⊢
    rw [List.map_cons, List.any_cons, ih]
    show (decide ((k : Int) = (t : Int)) || decide (t ∈ L)) = _
    by_cases e : k = t
    · simp [e]
    · have e1 : ¬ (k : Int) = (t : Int) := by omega
      have e2 : ¬ t = k := fun z => e z.symm
      simp [e1, e2]
theorem flat_nat : ∀ {L : List Nat}, (L.map nD).all flatD = true
  | [] => rfl
  | _ :: L => by rw [List.map_cons, List.all_cons, flat_nat (L := L)]; rfl
theorem ni_nat {t : Nat} {L : List Nat} {Q : D → Prop} (q : Q (.bl (!decide (t ∈ L)))) : Giv (fNi (nD t) (.lst (L.map nD))) Q := by
  refine giv (z := .bl (!decide (t ∈ L))) ?_ q
  show orF fNiS (fInQ true) _ _ = _
  unfold orF
  rw [show fNiS (nD t) (.lst (L.map nD)) = none from rfl]
  show fInQ true _ _ = _
  unfold fInQ
  dsimp only
  rw [flat_nat, inD_nat]
  rfl
theorem inD_bls : ∀ {bs : List Bool}, inD (.bl true) (bs.map D.bl) = bs.any id
  | [] => by simp [inD]
  | b :: bs => by
    have ih := inD_bls (bs := bs)
    unfold inD at ih ⊢
    rw [List.map_cons, List.any_cons, ih, List.any_cons]
    cases b <;> rfl
theorem in_bls {bs : List Bool} {Q : D → Prop} (q : Q (.bl (bs.any id))) : Giv (fIn (.bl true) (.lst (bs.map D.bl))) Q := by
  have fl : (bs.map D.bl).all flatD = true := List.all_eq_true.mpr fun x hx => by obtain ⟨b, _, rfl⟩ := List.mem_map.mp hx; rfl
  refine giv (z := .bl (bs.any id)) ?_ q
  show orF fInS (fInQ false) _ _ = _
  unfold orF
  rw [show fInS (.bl true) (.lst (bs.map D.bl)) = none from rfl]
  show fInQ false _ _ = _
  unfold fInQ
  dsimp only
  rw [fl, inD_bls]
  rfl
theorem ev_sos {xs : M (List Vl)} {ρ : Rho} {Q : Vl → Rho → Prop} (h : Ev xs ρ fun rs ρ1 => ∃ r ns, rs = [r] ∧ look ρ1 r = some (.lst (ns.map .int)) ∧ ns.length ≤ 1000 ∧ (sos ns).length < 64 ∧ Q (.fr ((sos ns).map .int)) ρ1) : Ev (eSoS xs) ρ Q := by
  obtain ⟨_, ρ1, e1, r, ns, rfl, e2, h1, h2, q⟩ := h
  exact ⟨_, ρ1, by unfold eSoS; simp only [e1, Option.bind_some, e2, intsD_map]; rw [if_pos ⟨h1, h2⟩], q⟩
theorem tg_snoc (m : Mc) (R : List Nat) (s : Nat) : tg m (R ++ [s]) = tg m R ++ m.rows.getD s [] := by unfold tg; rw [List.flatMap_append]; simp
theorem sequence_ok {m : Mc} (h : Ok m) {n j : Nat} (hF : Fst m n j) {Q : Vl → List (List D) → Prop} (q : Q (.fr [.lst ((ms m n).map .bl), nD j]) []) : Fv f_law_sequence [.da (MD m)] Q := by
  have n2 := h.n2
  have hn := hF.n1
  refine fv_fn rfl ?_
  walk_at "n"
  unfold b_law_sequence
  refine sv_dnew_s rfl ?_
  walk_at "n"
  walk_at "gS"
  refine sv_then (fun ρ => False) (sv_for (fun i ρ => i ≤ n ∧ ∃ x4 x5 x6 : Sl, ρ = [.d (MD m), .dc (kvs (sq m) i), .ow ((ms m i).map .bl), .d (RS (sq m i)), x4, x5, x6, .no] ∧ ioQ (some x4) = false ∧ ioQ (some x5) = false ∧ plainSl (some x6) = true) (ev_ir1 ?_)) ?_
  · walk_at "g"
    refine ⟨_, rfl, by omega, by omega, ⟨Nat.zero_le _, _, _, _, rfl, rfl, rfl, rfl⟩, ?_, ?_⟩
    · rintro i y hy ρ ⟨hin, x4, x5, x6, rfl, h4, h5, h6⟩
      obtain ⟨hi, rfl⟩ := rngL_get hy
      have h6' : ioQ (some x6) = false := by cases x6 <;> first | rfl | cases h6
      rw [Int.zero_add]
      refine ⟨_, asg_z (by exact h4), ?_⟩
      walk_at "n"
      refine sv_if_s ?_
      walk_at "g"
      refine ev_din ?_
      walk_at "g"
      refine ⟨_, _, _, _, rfl, rfl, nkT_R _, ?_⟩
      by_cases e : i = n
      · subst e
        rw [hF.get, Option.isSome_some]
        walk_at "g"
        refine ev_dget rfl ?_
        walk_at "g"
        refine ⟨_, _, _, _, _, rfl, rfl, nkT_R _, hF.get, ?_⟩
        walk_at "g"
        walk_at "n"
        exact q
      · have nr := hF.non hin e
        rw [get_none (sq m) (sq m i) i nr, Option.isSome_none]
        walk_at "g"
        refine sv_dput_s ?_
        walk_at "g"
        refine ⟨_, _, _, rfl, rfl, ?_⟩
        walk_at "g"
        refine ⟨_, _, _, _, rfl, rfl, nkT_R _, by rw [kvs_len]; show _ < 16777216; omega, ?_⟩
        rw [put_kvs (sq m) i nr]
        walk_at "n"
        have hlt := sq_lt h i
        have hln := sq_len h i
        refine sv_app_s rfl ?_
        walk_at "g"
        refine ev_lcm (sq m i) nD (fun s => .bl (m.marks.getD s false)) (by exact h6) (by show _ ≤ 16777216; omega) ?_ ?_ ?_
        · intro Q' q'
          refine ev_isq ?_
          walk_at "g"
          exact ⟨_, _, _, rfl, rfl, q'⟩
        · intro s hs Q' q'
          walk_at "n"
          walk_at "g"
          refine giv_ixt (mark_at h (hlt s hs)) ?_
          walk_at "g"
          exact q'
        rw [show (fun s => D.bl (m.marks.getD s false)) = D.bl ∘ fun s => m.marks.getD s false from rfl, ← List.map_map]
        walk_at "g"
        refine in_bls ?_
        walk_at "g"
        refine app rfl rfl (by rw [List.length_map, ms_len]; show _ < 16777216; omega) ?_
        walk_at "n"
        walk_at "gS"
        have hmk : ((sq m i).map fun s => m.marks.getD s false).any id = mkR m (sq m i) := by rw [List.any_map]; rfl
        rw [hmk]
        have hms : (ms m i).map D.bl ++ [D.bl (mkR m (sq m i))] = (ms m (i + 1)).map D.bl := by rw [ms_succ, List.map_append]; rfl
        rw [hms]
        refine sv_then (fun ρ => ∃ (L : List Nat) (x6 : Sl), ρ = [.d (MD m), .dc (kvs (sq m) (i + 1)), .ow ((ms m (i + 1)).map .bl), .d (RS (sq m i)), .d (nD i), .ow (L.map nD), x6, .no] ∧ plainSl (some x6) = true ∧ L.length ≤ 13 * 14 ∧ ∀ t, t ∈ L ↔ t ∈ tg m (sq m i))
          (sv_for (fun k ρ => ∃ (L : List Nat) (x6 : Sl), ρ = [.d (MD m), .dc (kvs (sq m) (i + 1)), .ow ((ms m (i + 1)).map .bl), .d (RS (sq m i)), .d (nD i), .ow (L.map nD), x6, .no] ∧ plainSl (some x6) = true ∧ L.length ≤ 13 * k ∧ ∀ t, t ∈ L ↔ t ∈ tg m ((sq m i).take k)) (ev_isq ?_)) ?_
        · walk_at "g"
          refine ⟨_, _, _, rfl, rfl, ⟨[], _, rfl, h6, by simp, fun t => by simp [tg]⟩, ?_, ?_⟩
          · rintro k y hy ρ ⟨L, x6, rfl, h6, hL, hm⟩
            obtain ⟨s, hs, rfl⟩ : ∃ s, (sq m i)[k]? = some s ∧ y = nD s := by
              rw [List.getElem?_map] at hy
              obtain ⟨s, a, b⟩ := Option.map_eq_some_iff.mp hy
              exact ⟨s, a, b.symm⟩
            have hk : k < (sq m i).length := (List.getElem?_eq_some_iff.mp hs).1
            have hsm : s ∈ sq m i := List.mem_of_getElem? hs
            have hsl := hlt s hsm
            have h6' : ioQ (some x6) = false := by cases x6 <;> first | rfl | cases h6
            refine ⟨_, asg_z (by exact h6'), ?_⟩
            walk_at "n"
            have hrow := h.rw _ (row_mem hsl)
            have c2 := h.c2
            walk_at "g"
            refine ev_lcf (m.rows.getD s []) nD (fun t => !decide (t ∈ L)) nD rfl (by show _ ≤ 16777216; omega) ?_ ?_ ?_ ?_
            · intro Q' q'
              refine ev_isq ?_
              walk_at "g"
              refine giv_ixt (row_at hsl) ?_
              walk_at "g"
              exact ⟨_, _, _, rfl, rfl, q'⟩
            · intro t ht Q' q'
              walk_at "n"
              walk_at "g"
              refine ni_nat ?_
              walk_at "g"
              exact q'
            · intro t ht _ Q' q'
              walk_at "n"
              walk_at "g"
              exact q'
            have fl : ((m.rows.getD s []).filter fun t => !decide (t ∈ L)).length ≤ 13 := Nat.le_trans (List.length_filter_le _ _) (by omega)
            walk_at "g"
            refine ⟨L ++ (m.rows.getD s []).filter fun t => !decide (t ∈ L), _, by rw [List.map_append], rfl, by rw [List.length_append]; omega, fun t => ?_⟩
            have et : (sq m i).take (k + 1) = (sq m i).take k ++ [s] := by rw [List.take_add_one, hs]; rfl
            rw [et, tg_snoc, List.mem_append, List.mem_append, ← hm, List.mem_filter]
            by_cases hc : t ∈ L <;> simp [hc]
          · rintro ρ ⟨L, x6, rfl, h6, hL, hm⟩
            rw [List.length_map] at hL hm
            rw [List.take_length] at hm
            exact ⟨L, x6, rfl, h6, by omega, hm⟩
        rintro ρ ⟨L, x6, rfl, h6, hL, hm⟩
        have e : sos (L.map fun n : Nat => (n : Int)) = (nx m (sq m i)).map fun n : Nat => (n : Int) := sos_eq (nx_asc m _) fun t => by rw [hm, mem_tg h hlt]
        walk_at "g"
        refine ev_sos ?_
        walk_at "g"
        refine ⟨_, L.map fun n : Nat => (n : Int), rfl, by rw [List.map_map]; rfl, by rw [List.length_map]; omega, by rw [e, List.length_map]; have := nx_len h (sq m i); omega, ?_⟩
        rw [e, List.map_map]
        walk_at "g"
        walk_at "n"
        exact ⟨by omega, _, _, _, rfl, rfl, rfl, h6⟩
    · rintro ρ ⟨h1, _⟩
      rw [rngL_len] at h1
      omega
  rintro ρ hf
  exact hf.elim
end K69
namespace K69
open Sw L2
theorem bl_eqv (a b : Bool) : PySem.PyData.eqv (toP (.bl a)) (toP (.bl b)) = decide (a = b) := by cases a <;> cases b <;> rfl
theorem bls_eqv : ∀ xs ys : List Bool, PySem.PyData.eqvAll (toPs (xs.map D.bl)) (toPs (ys.map D.bl)) = decide (xs = ys)
  | [], [] => rfl
  | [], y :: ys => by simp [toPs, PySem.PyData.eqvAll]
  | x :: xs, [] => by simp [toPs, PySem.PyData.eqvAll]
  | x :: xs, y :: ys => by
    rw [List.map_cons, List.map_cons, toPs, toPs, PySem.PyData.eqvAll, bl_eqv, bls_eqv xs ys]
    by_cases h1 : x = y <;> by_cases h2 : xs = ys <;> simp [h1, h2]
theorem marks_eq (xs ys : List Bool) : fEq (.tup (xs.map D.bl)) (.tup (ys.map D.bl)) = some (.bl (decide (xs = ys))) := by
  have sh : ∀ zs : List Bool, shD (.tup (zs.map D.bl)) = true := fun zs => shD_of (by rw [okD]; exact (ok_marks zs).1) (by rw [dpD, (ok_marks zs).2]; omega)
  show orF fEqS fEqD _ _ = _
  unfold orF
  rw [show fEqS (.tup (xs.map D.bl)) (.tup (ys.map D.bl)) = none from rfl]
  show fEqD _ _ = _
  unfold fEqD
  rw [if_pos (by rw [sh, sh]; rfl)]
  congr 2
  simp only [toP, PySem.PyData.eqv]
  exact bls_eqv xs ys
theorem marks_eqL (xs ys : List Bool) : fEq (.lst (xs.map D.bl)) (.lst (ys.map D.bl)) = some (.bl (decide (xs = ys))) := by
  have sh : ∀ zs : List Bool, shD (.lst (zs.map D.bl)) = true := fun zs => shD_of (by rw [okD]; exact (ok_marks zs).1) (by rw [dpD, (ok_marks zs).2]; omega)
  show orF fEqS fEqD _ _ = _
  unfold orF
  rw [show fEqS (.lst (xs.map D.bl)) (.lst (ys.map D.bl)) = none from rfl]
  show fEqD _ _ = _
  unfold fEqD
  rw [if_pos (by rw [sh, sh]; rfl)]
  congr 2
  simp only [toP, PySem.PyData.eqv]
  exact bls_eqv xs ys
theorem rt_map (L : List Bool) (s : Nat) : (L.map D.bl).drop s ++ (L.map D.bl).take s = (rt L s).map D.bl := by unfold rt; rw [List.map_append, List.map_drop, List.map_take]
theorem least_loop_ok {L : List Bool} (l0 : 1 ≤ L.length) (l1 : L.length ≤ 20000) {Q : Vl → List (List D) → Prop}
    (q : ∀ p : List Bool, 1 ≤ p.length → p.length ≤ L.length → (∀ i, fx p i = fx L i) → Prim p → Q (.fz (.lst (p.map .bl))) []) : Fv f_least_loop [.da (.lst (L.map .bl))] Q := by
  refine fv_fn rfl ?_
  walk_at "n"
  unfold b_least_loop
  refine sv_then (fun ρ => ∃ x1, ρ = [.d (.lst (L.map .bl)), x1] ∧ Prim L) (sv_for (fun i ρ => ∃ x1, ρ = [.d (.lst (L.map .bl)), x1] ∧ ioQ (some x1) = false ∧ ∀ t, 0 < t → t < 1 + i → L ≠ rt L t) (ev_ir2 ?_)) ?_
  · walk_at "g"
    refine ⟨_, _, rfl, by omega, by omega, by rw [List.length_map]; omega, by rw [List.length_map]; omega, ⟨_, rfl, rfl, fun t h1 h2 => by omega⟩, ?_, ?_⟩
    · rintro i y hy ρ ⟨x1, rfl, h1, hno⟩
      obtain ⟨hi, rfl⟩ := rngL_get hy
      refine ⟨_, asg_z (by exact h1), ?_⟩
      walk_at "n"
      rw [show (1 : Int) + (i : Int) = ((1 + i : Nat) : Int) by omega]
      refine sv_if_l ?_
      walk_at "g"
      rw [Int.toNat_natCast, rt_map]
      refine giv (marks_eqL _ _) ?_
      walk_at "g"
      rw [List.length_map] at hi
      refine brn_d (fun z => ?_) (fun z => ?_)
      · walk_at "g"
        walk_at "n"
        obtain ⟨a, b⟩ := least_ok L (1 + i) (by omega) (by omega) z fun t h1 h2 => hno t h1 (by omega)
        rw [Int.toNat_natCast, ← List.map_take]
        exact q _ (by rw [List.length_take]; omega) (by rw [List.length_take]; omega) a b
      · walk_at "g"
        refine ⟨_, rfl, rfl, fun t h1 h2 => ?_⟩
        by_cases e : t = 1 + i
        · subst e; exact z
        · exact hno t h1 (by omega)
    · rintro ρ ⟨x1, rfl, _, hno⟩
      rw [rngL_len, List.length_map] at hno
      exact ⟨_, rfl, fun t h1 h2 => hno t h1 (by omega)⟩
  rintro ρ ⟨x1, rfl, hp⟩
  walk_at "g"
  walk_at "n"
  exact q L l0 (Nat.le_refl _) (fun _ => rfl) hp
theorem any_map {α : Type} {h : α → Bool} {l : List α} : cAny [.lst (l.map fun a => D.bl (h a))] = some (.bl (l.any h)) := by
  rw [show (fun a => D.bl (h a)) = D.bl ∘ h from rfl, ← List.map_map]
  unfold cAny
  dsimp only
  rw [bools_map]
  show some (D.bl ((l.map h).any id)) = _
  rw [List.any_map]
  rfl
noncomputable def Lq (s : Sl) (L : List Bool) : Prop := s = .d (.lst (L.map .bl)) ∨ s = .ow (L.map .bl)
theorem length_cycle_ok {m : Mc} (h : Ok m) {n j : Nat} (hF : Fst m n j) {Q : Vl → List (List D) → Prop}
    (q : ∀ hd lp : List Bool, 1 ≤ lp.length → hd.length + lp.length ≤ n → (∀ k, mk hd lp k = mk ((ms m n).take j) ((ms m n).drop j) k) → Prim lp → (∀ a b c d, hd = a ++ [b] → lp = c ++ [d] → b ≠ d) → Q (.fz (.tup [.tup (hd.map .bl), .tup (lp.map .bl)])) []) :
    Fv f_length_cycle [.da (OD m)] Q := by
  have n2 := h.n2
  have hn := hF.n1
  refine fv_fn rfl ?_
  walk_at "n"
  unfold b_length_cycle
  refine sv_dnew_s rfl ?_
  walk_at "n"
  walk_at "gS"
  refine sv_then (fun ρ => ρ = [.d (OD m), .dc (kvs (sq m) n), .ow ((ms m n).map .bl), .d (RS (sq m n)), .no, .no, .no])
    (sv_while (fun k ρ => ∃ i, k = n - i ∧ i ≤ n ∧ ρ = [.d (OD m), .dc (kvs (sq m) i), .ow ((ms m i).map .bl), .d (RS (sq m i)), .no, .no, .no]) ?_ n _ ⟨0, rfl, Nat.zero_le _, rfl⟩) ?_
  · rintro k ρ ⟨i, rfl, hi, rfl⟩
    walk_at "g"
    refine ev_dnin ?_
    walk_at "g"
    refine ⟨_, _, _, _, rfl, rfl, nkT_R _, ?_⟩
    by_cases e : i = n
    · subst e
      rw [hF.get, Option.isSome_some, Bool.not_true]
      walk_at "g"
      rfl
    · have nr := hF.non hi e
      rw [get_none (sq m) (sq m i) i nr, Option.isSome_none, Bool.not_false]
      walk_at "g"
      refine sv_dput_s ?_
      walk_at "g"
      refine ⟨_, _, _, rfl, rfl, ?_⟩
      walk_at "g"
      rw [List.length_map, ms_len]
      refine ⟨_, _, _, _, rfl, rfl, nkT_R _, by rw [kvs_len]; show _ < 16777216; omega, ?_⟩
      rw [put_kvs (sq m) i nr]
      walk_at "n"
      have hlt := sq_lt h i
      have hln := sq_len h i
      refine sv_app_s rfl ?_
      walk_at "g"
      refine ev_lcm (sq m i) nD (fun s => .bl (m.marks.getD s false)) rfl (by show _ ≤ 16777216; omega) ?_ ?_ ?_
      · intro Q' q'
        refine ev_isq ?_
        walk_at "g"
        exact ⟨_, _, _, rfl, rfl, q'⟩
      · intro s hs Q' q'
        walk_at "n"
        walk_at "g"
        refine giv_ixt (mark_at h (hlt s hs)) ?_
        walk_at "g"
        exact q'
      walk_at "g"
      refine giv any_map ?_
      walk_at "g"
      refine app rfl rfl (by rw [List.length_map, ms_len]; show _ < 16777216; omega) ?_
      walk_at "n"
      walk_at "g"
      refine successors_ok h (sq_asc m i) hlt ?_
      walk_at "g"
      walk_at "n"
      have hms : (ms m i).map D.bl ++ [D.bl (mkR m (sq m i))] = (ms m (i + 1)).map D.bl := by rw [ms_succ, List.map_append]; rfl
      refine ⟨n - (i + 1), by omega, i + 1, rfl, by omega, ?_⟩
      rw [← hms]
      rfl
  rintro ρ rfl
  walk_at "gS"
  refine ev_dget rfl ?_
  walk_at "g"
  refine ⟨_, _, _, _, _, rfl, rfl, nkT_R _, hF.get, ?_⟩
  walk_at "gS"
  refine ev_dget rfl ?_
  walk_at "g"
  refine ⟨_, _, _, _, _, rfl, rfl, nkT_R _, hF.get, ?_⟩
  walk_at "gS"
  rw [Int.toNat_natCast, ← List.map_take, ← List.map_drop]
  have hj := hF.lt
  refine least_loop_ok (by rw [List.length_drop, ms_len]; omega) (by rw [List.length_drop, ms_len]; omega) ?_
  intro p p1 p2 pf pp
  rw [List.length_drop, ms_len] at p2
  walk_at "gS"
  refine sv_then (fun ρ => ∃ (hd lp : List Bool) (x5 : Sl), ρ = [.d (OD m), .dc (kvs (sq m) n), .ow ((ms m n).map .bl), .d (RS (sq m n)), .d (.lst (hd.map .bl)), x5, .no] ∧ Lq x5 lp ∧ 1 ≤ lp.length ∧ hd.length + lp.length ≤ n ∧ (∀ k, mk hd lp k = mk ((ms m n).take j) ((ms m n).drop j) k) ∧ Prim lp ∧ ∀ a b c d, hd = a ++ [b] → lp = c ++ [d] → b ≠ d)
    (sv_while (fun k ρ => ∃ (hd lp : List Bool) (x5 : Sl), k = hd.length ∧ ρ = [.d (OD m), .dc (kvs (sq m) n), .ow ((ms m n).map .bl), .d (RS (sq m n)), .d (.lst (hd.map .bl)), x5, .no] ∧ Lq x5 lp ∧ 1 ≤ lp.length ∧ hd.length + lp.length ≤ n ∧ (∀ k, mk hd lp k = mk ((ms m n).take j) ((ms m n).drop j) k) ∧ Prim lp) ?_ ((ms m n).take j).length _
      ⟨(ms m n).take j, p, _, rfl, rfl, .inl rfl, p1, by rw [List.length_take, ms_len]; omega, fun k => by unfold mk; split <;> first | rfl | exact pf _, pp⟩) ?_
  · rintro k ρ ⟨hd, lp, x5, rfl, rfl, hq, l1, l2, hk, hp⟩
    obtain ⟨c, d, rfl⟩ : ∃ c d, lp = c ++ [d] := by
      rcases List.eq_nil_or_concat lp with h0 | ⟨c, d, e⟩
      · subst h0; simp at l1
      · exact ⟨c, d, by rw [e, List.concat_eq_append]⟩
    refine ev_tAnd ?_
    walk_at "g"
    rw [List.length_map]
    refine brn_d (fun z => ?_) (fun z => ?_)
    · obtain ⟨a, b, rfl⟩ : ∃ a b, hd = a ++ [b] := by
        rcases List.eq_nil_or_concat hd with h0 | ⟨c, d, e⟩
        · subst h0; simp at z
        · exact ⟨c, d, by rw [e, List.concat_eq_append]⟩
      have ea : (a ++ [b]).map D.bl = a.map D.bl ++ [.bl b] := by rw [List.map_append]; rfl
      have ec : (c ++ [d]).map D.bl = c.map D.bl ++ [.bl d] := by rw [List.map_append]; rfl
      have no : b ≠ d → ∀ a' b' c' d', a ++ [b] = a' ++ [b'] → c ++ [d] = c' ++ [d'] → b' ≠ d' := fun ne a' b' c' d' e1 e2 => by
        have h1 := (List.append_inj' e1 rfl).2
        have h2 := (List.append_inj' e2 rfl).2
        cases h1
        cases h2
        exact ne
      have k2 : ∀ k, mk a (d :: c) k = mk ((ms m n).take j) ((ms m n).drop j) k ∨ b ≠ d := fun k => by
        by_cases e : b = d
        · subst e; exact .inl (by rw [turn_mk]; exact hk k)
        · exact .inr e
      rw [List.length_append, List.length_append, List.length_singleton, List.length_singleton] at l2
      rcases hq with rfl | rfl
      · walk_at "g"
        rw [ea]
        refine giv_ixl atI_lastD ?_
        walk_at "g"
        rw [ec]
        refine giv_ixl atI_lastD ?_
        walk_at "g"
        refine brn_d (fun e => ?_) (fun e => ?_)
        · subst e
          walk_at "gS"
          refine giv_ixl atI_lastD ?_
          walk_at "gS"
          rw [cut_m1, List.dropLast_concat]
          walk_at "gS"
          rw [cut_m1, List.dropLast_concat]
          exact ⟨a.length, by simp, a, b :: c, _, rfl, rfl, .inr rfl, by simp, by simp only [List.length_cons]; omega, fun k => (k2 k).resolve_right (fun z => z rfl), turn_prim c b hp⟩
        · exact ⟨a ++ [b], c ++ [d], _, by rw [ea], .inl (by rw [ec]), by simp, by simp only [List.length_append, List.length_singleton]; omega, hk, hp, no e⟩
      · walk_at "g"
        rw [ea]
        refine giv_ixl atI_lastD ?_
        walk_at "g"
        rw [ec]
        refine giv_ixl atI_lastD ?_
        walk_at "g"
        refine brn_d (fun e => ?_) (fun e => ?_)
        · subst e
          walk_at "gS"
          refine giv_ixl atI_lastD ?_
          walk_at "gS"
          rw [cut_m1, List.dropLast_concat]
          walk_at "gS"
          rw [cut_m1, List.dropLast_concat]
          exact ⟨a.length, by simp, a, b :: c, _, rfl, rfl, .inr rfl, by simp, by simp only [List.length_cons]; omega, fun k => (k2 k).resolve_right (fun z => z rfl), turn_prim c b hp⟩
        · exact ⟨a ++ [b], c ++ [d], _, by rw [ea], .inr (by rw [ec]), by simp, by simp only [List.length_append, List.length_singleton]; omega, hk, hp, no e⟩
    · refine brn_f ?_
      have h0 : hd = [] := List.length_eq_zero_iff.mp (by omega)
      subst h0
      exact ⟨[], c ++ [d], _, rfl, hq, l1, l2, hk, hp, fun a' b' c' d' e1 _ => by simp at e1⟩
  rintro ρ ⟨hd, lp, x5, rfl, hq, l1, l2, hk, hp, hx⟩
  have fin := q hd lp l1 l2 hk hp hx
  rcases hq with rfl | rfl
  · walk_at "g"
    walk_at "n"
    exact fin
  · walk_at "g"
    walk_at "n"
    exact fin
end K69
namespace K69
open Sw L2
theorem mark_t {h l : List Bool} (h0 : 1 ≤ l.length) (h1 : h.length ≤ 20000) (h2 : l.length ≤ 20000) {k : Nat} (hk : k ≤ 100000) {Q : Vl → List (List D) → Prop} (q : Q (.fz (.bl (mk h l k))) []) : Fv f_law_mark [.da (.tup (h.map .bl)), .da (.tup (l.map .bl)), .da (nD k)] Q := by
  refine fv_fn rfl ?_
  walk_at "n"
  unfold b_law_mark
  refine sv_if_s ?_
  walk_at "g"
  rw [List.length_map]
  refine brn_d (fun z => ?_) (fun z => ?_)
  · have hz : k < h.length := by omega
    walk_at "g"
    refine giv_ixt (at_bl hz) ?_
    walk_at "g"
    walk_at "n"
    unfold mk at q
    rw [if_pos hz] at q
    exact q
  · have hz : ¬ k < h.length := by omega
    walk_at "g"
    rw [List.length_map, List.length_map]
    have e : ((k : Int) - (h.length : Int)) % (l.length : Int) = (((k - h.length) % l.length : Nat) : Int) := by
      rw [Int.natCast_emod]
      congr 1
      omega
    rw [e]
    refine giv_ixt (at_bl (Nat.mod_lt _ (by omega))) ?_
    walk_at "g"
    walk_at "n"
    unfold mk at q
    rw [if_neg hz] at q
    exact q
theorem mark_l {h l : List Bool} (h0 : 1 ≤ l.length) (h1 : h.length ≤ 20000) (h2 : l.length ≤ 20000) {k : Nat} (hk : k ≤ 100000) {Q : Vl → List (List D) → Prop} (q : Q (.fz (.bl (mk h l k))) []) : Fv f_law_mark [.da (.lst (h.map .bl)), .da (.lst (l.map .bl)), .da (nD k)] Q := by
  refine fv_fn rfl ?_
  walk_at "n"
  unfold b_law_mark
  refine sv_if_s ?_
  walk_at "g"
  rw [List.length_map]
  refine brn_d (fun z => ?_) (fun z => ?_)
  · have hz : k < h.length := by omega
    walk_at "g"
    refine giv_ixl (at_bl hz) ?_
    walk_at "g"
    walk_at "n"
    unfold mk at q
    rw [if_pos hz] at q
    exact q
  · have hz : ¬ k < h.length := by omega
    walk_at "g"
    rw [List.length_map, List.length_map]
    have e : ((k : Int) - (h.length : Int)) % (l.length : Int) = (((k - h.length) % l.length : Nat) : Int) := by
      rw [Int.natCast_emod]
      congr 1
      omega
    rw [e]
    refine giv_ixl (at_bl (Nat.mod_lt _ (by omega))) ?_
    walk_at "g"
    walk_at "n"
    unfold mk at q
    rw [if_neg hz] at q
    exact q
theorem is_marks_ok (bs : List Bool) {Q : Vl → List (List D) → Prop} (q : Q (.fz (.bl true)) []) : Fv f_law_is_marks [.da (.tup (bs.map .bl))] Q := by
  refine fv_fn rfl ?_
  walk_at "n"
  unfold b_law_is_marks
  refine sv_if_s ?_
  walk_at "gS"
  refine sv_then (fun ρ => ∃ x1, ρ = [.d (.tup (bs.map .bl)), x1]) (sv_for (fun i ρ => ∃ x1, ρ = [.d (.tup (bs.map .bl)), x1] ∧ ioQ (some x1) = false) (ev_isq ?_)) ?_
  · walk_at "g"
    refine ⟨_, _, _, rfl, rfl, ⟨_, rfl, rfl⟩, ?_, ?_⟩
    · rintro i y hy ρ ⟨x1, rfl, h1⟩
      obtain ⟨b, rfl⟩ : ∃ b, y = .bl b := by
        rw [List.getElem?_map] at hy
        obtain ⟨b, _, e⟩ := Option.map_eq_some_iff.mp hy
        exact ⟨b, e.symm⟩
      refine ⟨_, asg_z (by exact h1), ?_⟩
      walk_at "n"
      walk_at "g"
      exact ⟨_, rfl, rfl⟩
    · rintro ρ ⟨x1, rfl, _⟩
      exact ⟨_, rfl⟩
  rintro ρ ⟨x1, rfl⟩
  walk_at "g"
  walk_at "n"
  exact q
theorem holds_ok {m : Mc} (h : Ok m) {Q : Vl → List (List D) → Prop} (q : Q (.fz (.bl true)) []) : Fv f_law_holds [.da (MD m), .da (OD m)] Q := by
  obtain ⟨n, j, hF⟩ := fst_ex h
  have hn := hF.n1
  have hj := hF.lt
  refine fv_fn rfl ?_
  walk_at "n"
  unfold b_law_holds
  walk_at "gS"
  refine length_cycle_ok h hF ?_
  intro hd lp l1 l2 hk hp hx
  have l3 : hd.length ≤ 16384 := by omega
  have l4 : lp.length ≤ 16384 := by omega
  walk_at "gS"
  refine sv_if_s ?_
  walk_at "g"
  refine brn_nf rfl ?_
  walk_at "g"
  refine is_marks_ok hd ?_
  walk_at "g"
  refine is_marks_ok lp ?_
  walk_at "gS"
  refine sequence_ok h hF ?_
  walk_at "gS"
  refine sv_if_s ?_
  walk_at "g"
  simp only [List.length_map, ms_len]
  refine brn_df (by omega) ?_
  walk_at "gS"
  refine sv_then (fun ρ => ∃ x7 x9, ρ = [.d (MD m), .d (OD m), .d (.tup [.tup (hd.map .bl), .tup (lp.map .bl)]), .d (.tup (hd.map .bl)), .d (.tup (lp.map .bl)), .ow [.lst ((ms m n).map .bl), nD j], .d (.lst ((ms m n).map .bl)), x7, .no, x9])
    (sv_for (fun i ρ => ∃ x7 x9, ρ = [.d (MD m), .d (OD m), .d (.tup [.tup (hd.map .bl), .tup (lp.map .bl)]), .d (.tup (hd.map .bl)), .d (.tup (lp.map .bl)), .ow [.lst ((ms m n).map .bl), nD j], .d (.lst ((ms m n).map .bl)), x7, .no, x9] ∧ ioQ (some x7) = false ∧ ioQ (some x9) = false) (ev_ir1 ?_)) ?_
  · walk_at "g"
    rw [List.length_map, ms_len]
    refine giv_mul (cMul_r (by omega)) ?_
    walk_at "g"
    refine ⟨_, rfl, by omega, by omega, ⟨_, _, rfl, rfl, rfl⟩, ?_, ?_⟩
    · rintro i y hy ρ ⟨x7, x9, rfl, h7, h9⟩
      obtain ⟨hi, rfl⟩ := rngL_get hy
      refine ⟨_, asg_z (by exact h7), ?_⟩
      walk_at "n"
      rw [Int.zero_add]
      walk_at "gS"
      rw [Int.toNat_natCast, ← List.map_take, ← List.map_drop]
      have ld : ((ms m n).drop j).length = n - j := by rw [List.length_drop, ms_len]
      have lt : ((ms m n).take j).length ≤ n := by rw [List.length_take, ms_len]; omega
      refine mark_l (by omega) (by omega) (by omega) (k := i) (by omega) ?_
      walk_at "gS"
      refine mark_t l1 (by omega) (by omega) (k := i) (by omega) ?_
      walk_at "g"
      rw [hk i]
      refine brn_nf rfl ?_
      walk_at "g"
      exact ⟨_, _, rfl, rfl, rfl⟩
    · rintro ρ ⟨x7, x9, rfl, _, _⟩
      exact ⟨_, _, rfl⟩
  rintro ρ ⟨x7, x9, rfl⟩
  refine sv_then (fun ρ => ∃ x8, ρ = [.d (MD m), .d (OD m), .d (.tup [.tup (hd.map .bl), .tup (lp.map .bl)]), .d (.tup (hd.map .bl)), .d (.tup (lp.map .bl)), .ow [.lst ((ms m n).map .bl), nD j], .d (.lst ((ms m n).map .bl)), x7, x8, x9])
    (sv_for (fun i ρ => ∃ x8, ρ = [.d (MD m), .d (OD m), .d (.tup [.tup (hd.map .bl), .tup (lp.map .bl)]), .d (.tup (hd.map .bl)), .d (.tup (lp.map .bl)), .ow [.lst ((ms m n).map .bl), nD j], .d (.lst ((ms m n).map .bl)), x7, x8, x9] ∧ ioQ (some x8) = false) (ev_ir2 ?_)) ?_
  · walk_at "g"
    refine ⟨_, _, rfl, by omega, by omega, by rw [List.length_map]; omega, by rw [List.length_map]; omega, ⟨_, rfl, rfl⟩, ?_, ?_⟩
    · rintro i y hy ρ ⟨x8, rfl, h8⟩
      obtain ⟨hi, rfl⟩ := rngL_get hy
      rw [List.length_map] at hi
      refine ⟨_, asg_z (by exact h8), ?_⟩
      walk_at "n"
      rw [show (1 : Int) + (i : Int) = ((1 + i : Nat) : Int) by omega]
      have q1 : 0 < (lp.map D.bl).length := by rw [List.length_map]; omega
      have q2 : ((1 + i : Nat) : Int) < ((lp.map D.bl).length : Nat) := by rw [List.length_map]; omega
      have q3 : (lp.map D.bl).length ≤ 16384 := by rw [List.length_map]; exact l4
      refine sv_if_l ?_
      walk_at "g"
      rw [Int.toNat_natCast, rt_map]
      refine giv (marks_eq _ _) ?_
      walk_at "g"
      refine brn_df (hp (1 + i) (by omega) (by omega)) ?_
      walk_at "g"
      exact ⟨_, rfl, rfl⟩
    · rintro ρ ⟨x8, rfl, _⟩
      exact ⟨_, rfl⟩
  rintro ρ ⟨x8, rfl⟩
  refine sv_if_s ?_
  walk_at "g"
  rw [List.length_map]
  obtain ⟨c, d, rfl⟩ : ∃ c d, lp = c ++ [d] := by
    rcases List.eq_nil_or_concat lp with h0 | ⟨c, d, e⟩
    · subst h0; simp at l1
    · exact ⟨c, d, by rw [e, List.concat_eq_append]⟩
  refine brn_d (fun z => ?_) (fun z => ?_)
  · obtain ⟨a, b, rfl⟩ : ∃ a b, hd = a ++ [b] := by
      rcases List.eq_nil_or_concat hd with h0 | ⟨c, d, e⟩
      · subst h0; simp at z
      · exact ⟨c, d, by rw [e, List.concat_eq_append]⟩
    have la : ∀ (u : List Bool) (v : Bool), atI ((u ++ [v]).map D.bl) ((((u ++ [v]).map D.bl).length : Nat) - 1 : Int) = some (.bl v) := fun u v => by
      rw [show ((((u ++ [v]).map D.bl).length : Nat) - 1 : Int) = ((u.length : Nat) : Int) by simp, atI_lit']
      simp
    walk_at "g"
    refine giv_ixt (la a b) ?_
    walk_at "g"
    refine giv_ixt (la c d) ?_
    walk_at "g"
    refine brn_df (hx a b c d rfl rfl) ?_
    walk_at "g"
    refine kept_ok m h ?_
    walk_at "g"
    walk_at "n"
    exact q
  · refine brn_f ?_
    walk_at "g"
    refine kept_ok m h ?_
    walk_at "g"
    walk_at "n"
    exact q
end K69
namespace K69
open Sw L2
theorem law_fv (ns : List Int) (hn : ns.length ≤ 63) : Fv f_law [.da (.scr ns)] fun r os => r = .fz (.bl true) ∧ os = [] := by
  refine fv_fn rfl ?_
  walk_at "n"
  unfold b_law
  rw [next_eq, draw_eq, letters_eq]
  walk_at "gS"
  rename_i ys hd
  refine fv_lettersE hd fun L ys hL hd => ?_
  walk_at "gS"
  refine sv_then (fun ρ => ∃ (m1 m2 : Mc) (ys : List D) (x4 : Sl), ρ = [.d (.scr ns), .ow ys, .d (.str L), .ow [MD m1, MD m2], x4, .no, .no] ∧ Ok m1 ∧ Ok m2 ∧ ioQ (some x4) = false)
    (sv_for (fun i ρ => ∃ (zs : List Mc) (ys : List D) (x4 : Sl), ρ = [.d (.scr ns), .ow ys, .d (.str L), .ow (zs.map MD), x4, .no, .no] ∧ DrE 3 ys ∧ zs.length = i ∧ (∀ m ∈ zs, Ok m) ∧ ioQ (some x4) = false) (ev_ir1 ?_)) ?_
  · walk_at "g"
    refine ⟨_, rfl, by omega, by omega, ⟨[], _, _, rfl, hd, rfl, fun _ h => absurd h List.not_mem_nil, rfl⟩, ?_, ?_⟩
    · rintro i y hy ρ ⟨zs, ys, x4, rfl, hd, hl, hz, h4⟩
      obtain ⟨hi, rfl⟩ := rngL_get hy
      refine ⟨_, asg_z (by exact h4), ?_⟩
      walk_at "n"
      have add : ∀ m, Ok m → ∀ m' ∈ zs ++ [m], Ok m' := fun m h m' hm => (List.mem_append.mp hm).elim (hz m') fun e => by rw [List.mem_singleton.mp e]; exact h
      refine sv_if_l ?_
      walk_at "g"
      refine brn_d (fun z => ?_) (fun z => ?_)
      · walk_at "g"
        refine machine_ok (by assumption) hL fun m ys h hd => ?_
        walk_at "g"
        refine app rfl rfl (by rw [List.length_map]; show _ < 16777216; have : i < 2 := hi; omega) ?_
        walk_at "n"
        exact ⟨zs ++ [m], ys, _, by rw [List.map_append]; rfl, hd, by simp [hl], add m h, rfl⟩
      · walk_at "g"
        refine wheels_ok (by assumption) hL fun m ys h hd => ?_
        walk_at "g"
        refine app rfl rfl (by rw [List.length_map]; show _ < 16777216; have : i < 2 := hi; omega) ?_
        walk_at "n"
        exact ⟨zs ++ [m], ys, _, by rw [List.map_append]; rfl, hd, by simp [hl], add m h, rfl⟩
    · rintro ρ ⟨zs, ys, x4, rfl, hd, hl, hz, h4⟩
      rw [rngL_len] at hl
      match zs, hl, hz with
      | [m1, m2], _, hz => exact ⟨m1, m2, ys, x4, rfl, hz m1 (by simp), hz m2 (by simp), h4⟩
  clear hd
  rintro ρ ⟨m1, m2, ys, x4, rfl, h1, h2, h4⟩
  refine sv_asg_s ?_
  refine ev_lcmR (ρ1 := [.d (.scr ns), .ow ys, .d (.str L), .d (.lst [MD m1, MD m2]), x4, .no, .no]) [m1, m2] MD OD rfl (by show 2 ≤ 16777216; decide) ?_ ?_ ?_
  · intro Q' q'
    refine ev_isq ?_
    walk_at "g"
    exact ⟨_, _, _, rfl, rfl, q'⟩
  · intro m _ Q' q'
    walk_at "n"
    walk_at "g"
    refine made_ok m ?_
    walk_at "g"
    exact q'
  walk_at "gS"
  refine sv_then (fun ρ => ∃ x4, ρ = [.d (.scr ns), .ow ys, .d (.str L), .d (.lst [MD m1, MD m2]), x4, .ow [OD m1, OD m2], .no])
    (sv_for (fun i ρ => ∃ x4, ρ = [.d (.scr ns), .ow ys, .d (.str L), .d (.lst [MD m1, MD m2]), x4, .ow [OD m1, OD m2], .no] ∧ ioQ (some x4) = false) (ev_isq ?_)) ?_
  · walk_at "g"
    refine ⟨_, _, _, rfl, rfl, ⟨_, rfl, h4⟩, ?_, ?_⟩
    · rintro i y hy ρ ⟨x4, rfl, h4⟩
      have hy' : y = .int 0 ∨ y = .int 1 := by
        match i, hy with
        | 0, e => left; cases e; rfl
        | 1, e => right; cases e; rfl
        | 2, e => left; cases e; rfl
        | n + 3, e => simp at e
      rcases hy' with rfl | rfl
      · refine ⟨_, asg_z (by exact h4), ?_⟩
        walk_at "n"
        walk_at "g"
        refine holds_ok h1 ?_
        walk_at "g"
        exact ⟨_, rfl, rfl⟩
      · refine ⟨_, asg_z (by exact h4), ?_⟩
        walk_at "n"
        walk_at "g"
        refine holds_ok h2 ?_
        walk_at "g"
        exact ⟨_, rfl, rfl⟩
    · rintro ρ ⟨x4, rfl, _⟩
      exact ⟨_, rfl⟩
  rintro ρ ⟨x4, rfl⟩
  walk_at "g"
  walk_at "n"
  exact ⟨rfl, rfl⟩
theorem law_true (ns : List Int) (hn : ns.length ≤ 63) : f_law [.da (.scr ns)] = some (.fz (.bl true), []) := by
  obtain ⟨r, os, e, rfl, rfl⟩ := law_fv ns hn
  exact e
end K69
namespace K69
open PySem PySem.Spec PyProof.Rows L2 Sw
noncomputable def topS (i : Nat) : Stmt := PySem.Challenge.pw_surespan_k69_whole_length_cycle.main.body.getD i (.Pass ⟨0, 0, 0, 0⟩)
noncomputable abbrev st_law_draw : Stmt := topS 9
noncomputable abbrev N_law_draw : List Str := ["_law_script", "_law_digits", "_law_one", "_law_two", "_law_cell", "_law_rest", "_law_k"]
noncomputable abbrev P_law_draw : List Str := ["_law_script"]
theorem sc_law_draw : FnScope N_law_draw P_law_draw (defScope st_law_draw) := ⟨rfl, rfl, rfl, by decide +kernel, rfl, by decide +kernel, by decide +kernel⟩
noncomputable abbrev st_law_is_marks : Stmt := topS 21
noncomputable abbrev N_law_is_marks : List Str := ["_law_told", "_law_mark_here"]
noncomputable abbrev P_law_is_marks : List Str := ["_law_told"]
theorem sc_law_is_marks : FnScope N_law_is_marks P_law_is_marks (defScope st_law_is_marks) := ⟨rfl, rfl, rfl, by decide +kernel, rfl, by decide +kernel, by decide +kernel⟩
noncomputable abbrev st_law_kept : Stmt := topS 16
noncomputable abbrev N_law_kept : List Str := ["_law_given", "_law_machine_here"]
noncomputable abbrev P_law_kept : List Str := ["_law_given", "_law_machine_here"]
theorem sc_law_kept : FnScope N_law_kept P_law_kept (defScope st_law_kept) := ⟨rfl, rfl, rfl, by decide +kernel, rfl, by decide +kernel, by decide +kernel⟩
noncomputable abbrev st_law_mark : Stmt := topS 20
noncomputable abbrev N_law_mark : List Str := ["_law_head", "_law_loop", "_law_length"]
noncomputable abbrev P_law_mark : List Str := ["_law_head", "_law_loop", "_law_length"]
theorem sc_law_mark : FnScope N_law_mark P_law_mark (defScope st_law_mark) := ⟨rfl, rfl, rfl, by decide +kernel, rfl, by decide +kernel, by decide +kernel⟩
noncomputable abbrev st_law_sequence : Stmt := topS 19
noncomputable abbrev N_law_sequence : List Str := ["_law_machine_here", "_law_known", "_law_marks", "_law_reached", "_law_k", "_law_later", "_law_state", "_law_target"]
noncomputable abbrev P_law_sequence : List Str := ["_law_machine_here"]
theorem sc_law_sequence : FnScope N_law_sequence P_law_sequence (defScope st_law_sequence) := ⟨rfl, rfl, rfl, by decide +kernel, rfl, by decide +kernel, by decide +kernel⟩
noncomputable abbrev st_least_loop : Stmt := topS 4
noncomputable abbrev N_least_loop : List Str := ["loop", "size"]
noncomputable abbrev P_least_loop : List Str := ["loop"]
theorem sc_least_loop : FnScope N_least_loop P_least_loop (defScope st_least_loop) := ⟨rfl, rfl, rfl, by decide +kernel, rfl, by decide +kernel, by decide +kernel⟩
noncomputable abbrev st_successors : Stmt := topS 2
noncomputable abbrev N_successors : List Str := ["rows", "reached", "state", "later"]
noncomputable abbrev P_successors : List Str := ["rows", "reached"]
theorem sc_successors : FnScope N_successors P_successors (defScope st_successors) := ⟨rfl, rfl, rfl, by decide +kernel, rfl, by decide +kernel, by decide +kernel⟩
noncomputable abbrev st_length_cycle : Stmt := topS 5
noncomputable abbrev N_length_cycle : List Str := ["machine", "numbers", "marks", "reached", "head", "loop", "state"]
noncomputable abbrev P_length_cycle : List Str := ["machine"]
theorem sc_length_cycle : FnScope N_length_cycle P_length_cycle (defScope st_length_cycle) := ⟨rfl, rfl, rfl, by decide +kernel, rfl, by decide +kernel, by decide +kernel⟩
noncomputable abbrev st_law_holds : Stmt := topS 22
noncomputable abbrev N_law_holds : List Str := ["_law_machine_here", "_law_given", "_law_told", "_law_head", "_law_loop", "_law_sequence_here", "_law_marks", "_law_length", "_law_size", "_law_due"]
noncomputable abbrev P_law_holds : List Str := ["_law_machine_here", "_law_given"]
theorem sc_law_holds : FnScope N_law_holds P_law_holds (defScope st_law_holds) := ⟨rfl, rfl, rfl, by decide +kernel, rfl, by decide +kernel, by decide +kernel⟩
noncomputable abbrev st_law_next : Stmt := topS 10
noncomputable abbrev N_law_next : List Str := ["_law_draw_here", "_law_many", "_law_at"]
noncomputable abbrev P_law_next : List Str := ["_law_draw_here", "_law_many"]
theorem sc_law_next : FnScope N_law_next P_law_next (defScope st_law_next) := ⟨rfl, rfl, rfl, by decide +kernel, rfl, by decide +kernel, by decide +kernel⟩
noncomputable abbrev st_law_signs : Stmt := topS 11
noncomputable abbrev N_law_signs : List Str := ["_law_signs_here"]
noncomputable abbrev P_law_signs : List Str := []
theorem sc_law_signs : FnScope N_law_signs P_law_signs (defScope st_law_signs) := ⟨rfl, rfl, rfl, by decide +kernel, rfl, by decide +kernel, by decide +kernel⟩
noncomputable abbrev st_law_letters : Stmt := topS 12
noncomputable abbrev N_law_letters : List Str := ["_law_draw_here", "_law_choice", "_law_signs_here", "_law_first", "_law_second", "_law_third", "_law_k"]
noncomputable abbrev P_law_letters : List Str := ["_law_draw_here"]
theorem sc_law_letters : FnScope N_law_letters P_law_letters (defScope st_law_letters) := ⟨rfl, rfl, rfl, by decide +kernel, rfl, by decide +kernel, by decide +kernel⟩
noncomputable abbrev st_law_division : Stmt := topS 13
noncomputable abbrev N_law_division : List Str := ["_law_draw_here", "_law_letters_here", "_law_signs_here", "_law_choice", "_law_places", "_law_low", "_law_many", "_law_parts", "_law_k", "_law_rest", "_law_group", "_law_part"]
noncomputable abbrev P_law_division : List Str := ["_law_draw_here", "_law_letters_here"]
theorem sc_law_division : FnScope N_law_division P_law_division (defScope st_law_division) := ⟨rfl, rfl, rfl, by decide +kernel, rfl, by decide +kernel, by decide +kernel⟩
noncomputable abbrev st_law_machine : Stmt := topS 14
noncomputable abbrev N_law_machine : List Str := ["_law_draw_here", "_law_letters_here", "_law_most", "_law_cells", "_law_many", "_law_shape", "_law_rows", "_law_marks", "_law_state", "_law_row", "_law_cell", "_law_later"]
noncomputable abbrev P_law_machine : List Str := ["_law_draw_here", "_law_letters_here", "_law_most"]
theorem sc_law_machine : FnScope N_law_machine P_law_machine (defScope st_law_machine) := ⟨rfl, rfl, rfl, by decide +kernel, rfl, by decide +kernel, by decide +kernel⟩
noncomputable abbrev st_init_Machine : Stmt := inClass (topS 7) 0
noncomputable abbrev N_init_Machine : List Str := ["self", "cells", "rows", "accepting"]
noncomputable abbrev P_init_Machine : List Str := ["self", "cells", "rows", "accepting"]
theorem sc_init_Machine : FnScope N_init_Machine P_init_Machine (defScope st_init_Machine) := ⟨rfl, rfl, rfl, by decide +kernel, rfl, by decide +kernel, by decide +kernel⟩
noncomputable abbrev st_law_made : Stmt := topS 15
noncomputable abbrev N_law_made : List Str := ["_law_machine_here"]
noncomputable abbrev P_law_made : List Str := ["_law_machine_here"]
theorem sc_law_made : FnScope N_law_made P_law_made (defScope st_law_made) := ⟨rfl, rfl, rfl, by decide +kernel, rfl, by decide +kernel, by decide +kernel⟩
noncomputable abbrev st_law_ring : Stmt := topS 17
noncomputable abbrev N_law_ring : List Str := ["_law_draw_here", "_law_cells", "_law_start", "_law_many", "_law_dead", "_law_kept_here", "_law_rows", "_law_k", "_law_row", "_law_cell", "_law_later"]
noncomputable abbrev P_law_ring : List Str := ["_law_draw_here", "_law_cells", "_law_start", "_law_many", "_law_dead"]
theorem sc_law_ring : FnScope N_law_ring P_law_ring (defScope st_law_ring) := ⟨rfl, rfl, rfl, by decide +kernel, rfl, by decide +kernel, by decide +kernel⟩
noncomputable abbrev st_law_wheels : Stmt := topS 18
noncomputable abbrev N_law_wheels : List Str := ["_law_draw_here", "_law_letters_here", "_law_cells", "_law_chain", "_law_first", "_law_second", "_law_dead", "_law_rows", "_law_marks", "_law_k", "_law_cell"]
noncomputable abbrev P_law_wheels : List Str := ["_law_draw_here", "_law_letters_here"]
theorem sc_law_wheels : FnScope N_law_wheels P_law_wheels (defScope st_law_wheels) := ⟨rfl, rfl, rfl, by decide +kernel, rfl, by decide +kernel, by decide +kernel⟩
noncomputable abbrev st_law : Stmt := topS 23
noncomputable abbrev N_law : List Str := ["_law_script", "_law_draw_here", "_law_letters_here", "_law_machines", "_law_k", "_law_given", "_law_machine_here"]
noncomputable abbrev P_law : List Str := ["_law_script"]
theorem sc_law : FnScope N_law P_law (defScope st_law) := ⟨rfl, rfl, rfl, by decide +kernel, rfl, by decide +kernel, by decide +kernel⟩
section
variable {P : Program} {w : World} {K : PySem.W.Frag} {mg : Str → Option Value} {base : Heap}
theorem ok_law_draw {f : Addr} {fd : FuncData} (F : FunG K "_law_draw" "_law_draw" st_law_draw f fd) (b_int : mg "int" = none) (b_range : mg "range" = none) :
    FnOk P w K mg base CX0 1 f fd P_law_draw (spF ⟨K, w⟩ 1 f_law_draw) := by
  have nd := sc_law_draw.nd
  refine fn_ok F sc_law_draw rfl rfl (by decide) fun cdv A outer s H E hr => ?_
  have hu := hr.units
  have hv := hu181 hr
  exact (sb_cons (ss_set (i := 1) nd rfl (Or.inl rfl) (se_lst sa_nil))
    (sb_cons (ss_set (i := 2) nd rfl (Or.inl rfl) se_int)
    (sb_cons (ss_set (i := 3) nd rfl (Or.inl rfl) se_int)
    (sb_cons (ss_for PassesOwn.never rfl (si_seq (se_var (pv 0))) (sg_name (i := 4) nd rfl (Or.inl rfl)) (sb_cons (ss_set (i := 2) nd rfl (Or.inl rfl) (se_b oMod (se_toint b_int rfl (sa_cons (se_b oAdd (se_b oMul (se_var (pv 2)) se_int) (se_var (pv 4))) sa_nil)) se_int))
    (sb_cons (ss_set (i := 3) nd rfl (Or.inl rfl) (se_b oMod (se_toint b_int rfl (sa_cons (se_b oAdd (se_b oMul (se_var (pv 3)) se_int) (se_b oDiv (se_var (pv 4)) se_int)) sa_nil)) se_int))
    (sb_cons (ss_set (i := 5) nd rfl (Or.inl rfl) (se_var (pv 4)))
    (sb_cons (ss_if (st_c oLt (se_var (pv 4)) (se_b oPow se_int se_int) (nomark _)) (sb_one (ss_set (i := 5) nd rfl (Or.inl rfl) se_int)) sb_nil)
    (sb_one (ss_for PassesOwn.never rfl (si_range1 b_range rfl (sa_cons se_int sa_nil)) (sg_name (i := 6) nd rfl (Or.inl rfl)) (sb_one (ss_if (st_c oGt (se_var (pv 5)) se_int (nomark _)) (sb_cons (ss_app (i := 1) (pv 1) (se_b oMod (se_toint b_int rfl (sa_cons (se_var (pv 5)) sa_nil)) se_int))
    (sb_one (ss_set (i := 5) nd rfl (Or.inl rfl) (se_b oDiv (se_var (pv 5)) se_int)))) sb_nil)))))))))
    (sb_one (ss_ret (se_lst (sa_cons se_int (sa_cons (se_var (pv 2)) (sa_cons (se_var (pv 3)) (sa_cons (se_var (pv 1)) (sa_cons se_int sa_nil))))))))))))
theorem ok_law_is_marks {f : Addr} {fd : FuncData} (F : FunG K "_law_is_marks" "_law_is_marks" st_law_is_marks f fd) (b_bool : mg "bool" = none) (b_isinstance : mg "isinstance" = none) (b_tuple : mg "tuple" = none) :
    FnOk P w K mg base CX0 1 f fd P_law_is_marks (spF ⟨K, w⟩ 1 f_law_is_marks) := by
  have nd := sc_law_is_marks.nd
  refine fn_ok F sc_law_is_marks rfl rfl (by decide) fun cdv A outer s H E hr => ?_
  have hu := hr.units
  have hv := hu181 hr
  exact (sb_cons (ss_if (st_not (st_val (se_isi b_isinstance rfl b_tuple rfl (by decide +kernel) (se_var (pv 0))) (by intro _; rfl))) (sb_one (ss_ret se_bl)) sb_nil)
    (sb_cons (ss_for PassesOwn.never rfl (si_seq (se_var (pv 0))) (sg_name (i := 1) nd rfl (Or.inl rfl)) (sb_one (ss_if (st_not (st_val (se_isi b_isinstance rfl b_bool rfl (by decide +kernel) (se_var (pv 1))) (by intro _; rfl))) (sb_one (ss_ret se_bl)) sb_nil)))
    (sb_one (ss_ret se_bl))))
theorem ok_law_kept {f : Addr} {fd : FuncData} (F : FunG K "_law_kept" "_law_kept" st_law_kept f fd) {C_Machine : Addr} (hC_Machine : ClsN K "Machine" C_Machine) (cl_Machine : Cls K C_Machine) (na_Machine_cells : NoAttr K C_Machine "cells") (na_Machine_rows : NoAttr K C_Machine "rows") (na_Machine_accepting : NoAttr K C_Machine "accepting") :
    FnOk P w K mg base CX0 1 f fd P_law_kept (spF ⟨K, w⟩ 2 f_law_kept) := by
  have nd := sc_law_kept.nd
  refine fn_ok F sc_law_kept rfl rfl (by decide) fun cdv A outer s H E hr => ?_
  have hu := hr.units
  have hv := hu181 hr
  exact (sb_one (ss_ret (se_and (se_c (oEq hv) (se_fld hC_Machine cl_Machine na_Machine_cells (se_var (pv 0)) rfl) (se_ix (se_var (pv 1)) se_int (fun _ _ => rfl)) (nomark _)) (se_and (se_c (oEq hv) (se_fld hC_Machine cl_Machine na_Machine_rows (se_var (pv 0)) rfl) (se_ix (se_var (pv 1)) se_int (fun _ _ => rfl)) (nomark _)) (se_one (se_c (oEq hv) (se_fld hC_Machine cl_Machine na_Machine_accepting (se_var (pv 0)) rfl) (se_ix (se_var (pv 1)) se_int (fun _ _ => rfl)) (nomark _)))))))
theorem ok_law_mark {f : Addr} {fd : FuncData} (F : FunG K "_law_mark" "_law_mark" st_law_mark f fd) (b_int : mg "int" = none) (b_len : mg "len" = none) :
    FnOk P w K mg base CX0 1 f fd P_law_mark (spF ⟨K, w⟩ 3 f_law_mark) := by
  have nd := sc_law_mark.nd
  refine fn_ok F sc_law_mark rfl rfl (by decide) fun cdv A outer s H E hr => ?_
  have hu := hr.units
  have hv := hu181 hr
  exact (sb_cons (ss_if (st_c oLt (se_var (pv 2)) (se_len b_len rfl (sa_cons (se_var (pv 0)) sa_nil)) (nomark _)) (sb_one (ss_ret (se_ix (se_var (pv 0)) (se_var (pv 2)) (fun _ _ => rfl)))) sb_nil)
    (sb_one (ss_ret (se_ix (se_var (pv 1)) (se_b oMod (se_toint b_int rfl (sa_cons (se_b oSub (se_var (pv 2)) (se_len b_len rfl (sa_cons (se_var (pv 0)) sa_nil))) sa_nil)) (se_len b_len rfl (sa_cons (se_var (pv 1)) sa_nil))) (fun _ _ => rfl)))))
theorem ok_law_sequence {f : Addr} {fd : FuncData} (F : FunG K "_law_sequence" "_law_sequence" st_law_sequence f fd) (b_range : mg "range" = none) (b_set : mg "set" = none) (b_sorted : mg "sorted" = none) (b_tuple : mg "tuple" = none) :
    FnOk P w K mg base CX0 1 f fd P_law_sequence (spF ⟨K, w⟩ 1 f_law_sequence) := by
  have nd := sc_law_sequence.nd
  refine fn_ok F sc_law_sequence rfl rfl (by decide) fun cdv A outer s H E hr => ?_
  have hu := hr.units
  have hv := hu181 hr
  exact (sb_cons (ss_dnew (i := 1) nd rfl (Or.inl rfl))
    (sb_cons (ss_set (i := 2) nd rfl (Or.inl rfl) (se_lst sa_nil))
    (sb_cons (ss_set (i := 3) nd rfl (Or.inl rfl) (se_tup (sa_cons se_int sa_nil)))
    (sb_cons (ss_for PassesOwn.never rfl (si_range1 b_range rfl (sa_cons se_int sa_nil)) (sg_name (i := 4) nd rfl (Or.inl rfl)) (sb_cons (ss_if (st_din (u16 hu) (se_var (pv 3)) (pv 1) rfl) (sb_one (ss_ret (se_lst (sa_cons (se_var (pv 2)) (sa_cons (se_dget (u16 hu) (pv 1) (se_var (pv 3)) (fun _ _ => rfl)) sa_nil))))) sb_nil)
    (sb_cons (ss_dput (i := 1) (u16 hu) (pv 1) (se_var (pv 3)) (se_var (pv 4)))
    (sb_cons (ss_app (i := 2) (pv 2) (se_c oIn se_bl (se_lc (own := [("_law_state", 6)]) rfl nd (si_seq (se_var (pv 3))) (blkOk_by (own := [("_law_state", 6)]) (N := N_law_sequence) (sc := defScope st_law_sequence) (by decide +kernel)) (by decide) (gok_name 6) (fun _ _ _ _ _ => (sg_name (i := 6) nd rfl (Or.inl rfl))) (fun _ _ _ _ _ => sts_nil) (fun _ _ _ _ _ => (se_ix (se_ix (se_var (pv 0)) se_int (fun _ _ => rfl)) (se_var (pv 6)) (fun _ _ => rfl)))) rfl))
    (sb_cons (ss_set (i := 5) nd rfl (Or.inr rfl) (se_lst sa_nil))
    (sb_cons (ss_for PassesOwn.never rfl (si_seq (se_var (pv 3))) (sg_name (i := 6) nd rfl (Or.inl rfl)) (sb_one (ss_set (i := 5) nd rfl (Or.inr rfl) (se_add (se_var (pv 5)) (se_lc (own := [("_law_target", 7)]) rfl nd (si_seq (se_ix (se_ix (se_var (pv 0)) se_int (fun _ _ => rfl)) (se_var (pv 6)) (fun _ _ => rfl))) (blkOk_by (own := [("_law_target", 7)]) (N := N_law_sequence) (sc := defScope st_law_sequence) (by decide +kernel)) (by decide) (gok_name 7) (fun _ _ _ _ _ => (sg_name (i := 7) nd rfl (Or.inl rfl))) (fun _ _ _ _ _ => (sts_one (st_c oNi (se_var (pv 7)) (se_var (pv 5)) rfl))) (fun _ _ _ _ _ => (se_var (pv 7))))))))
    (sb_one (ss_set (i := 3) nd rfl (Or.inl rfl) (se_totup b_tuple rfl (sa_cons (se_sortSet rfl b_sorted rfl b_set rfl (sa_cons (se_var (pv 5)) sa_nil)) sa_nil))))))))))
    (sb_one (ss_ret (se_lst (sa_cons (se_var (pv 2)) (sa_cons se_int sa_nil)))))))))
theorem ok_least_loop {f : Addr} {fd : FuncData} (F : FunG K "least_loop" "least_loop" st_least_loop f fd) (b_len : mg "len" = none) (b_range : mg "range" = none) :
    FnOk P w K mg base CX0 1 f fd P_least_loop (spF ⟨K, w⟩ 1 f_least_loop) := by
  have nd := sc_least_loop.nd
  refine fn_ok F sc_least_loop rfl rfl (by decide) fun cdv A outer s H E hr => ?_
  have hu := hr.units
  have hv := hu181 hr
  exact (sb_cons (ss_for PassesOwn.never rfl (si_range2 b_range rfl (sa_cons se_int (sa_cons (se_len b_len rfl (sa_cons (se_var (pv 0)) sa_nil)) sa_nil))) (sg_name (i := 1) nd rfl (Or.inl rfl)) (sb_one (ss_if (st_c (oEq hv) (se_var (pv 0)) (se_add (se_slcA (se_var (pv 0)) (so_some (se_var (pv 1))) so_none) (se_slcA (se_var (pv 0)) so_none (so_some (se_var (pv 1))))) (nomark _)) (sb_one (ss_ret (se_slcA (se_var (pv 0)) so_none (so_some (se_var (pv 1)))))) sb_nil)))
    (sb_one (ss_ret (se_var (pv 0)))))
theorem ok_successors {f : Addr} {fd : FuncData} (F : FunG K "successors" "successors" st_successors f fd) (b_sorted : mg "sorted" = none) (b_tuple : mg "tuple" = none) :
    FnOk P w K mg base CX0 1 f fd P_successors (spF ⟨K, w⟩ 2 f_successors) := by
  have nd := sc_successors.nd
  refine fn_ok F sc_successors rfl rfl (by decide) fun cdv A outer s H E hr => ?_
  have hu := hr.units
  have hv := hu181 hr
  exact (sb_one (ss_ret (se_totup b_tuple rfl (sa_cons (se_sortS2 (own := [("state", 2), ("later", 3)]) (jx := 2) (jy := 3) rfl nd b_sorted rfl (sq_var (pv 1)) (blkOk_by (own := [("state", 2), ("later", 3)]) (N := N_successors) (sc := defScope st_successors) (by decide +kernel)) (by decide) (by decide) (fun _ _ _ _ _ => pg_name nd rfl (Or.inl rfl)) (fun _ _ _ _ _ => (sq_ix (sq_var (pv 0)) (sq_var (pv 2)) (fun _ _ => rfl))) (fun _ _ _ _ _ => pg_name nd rfl (Or.inl rfl)) (fun _ _ _ _ _ => pv 3)) sa_nil))))
theorem ok_length_cycle {f : Addr} {fd : FuncData} (F : FunG K "length_cycle" "length_cycle" st_length_cycle f fd) (b_any : mg "any" = none) (b_len : mg "len" = none) (b_tuple : mg "tuple" = none) {C_Machine : Addr} (hC_Machine : ClsN K "Machine" C_Machine) (cl_Machine : Cls K C_Machine) (na_Machine_rows : NoAttr K C_Machine "rows") (na_Machine_accepting : NoAttr K C_Machine "accepting") {a_least_loop : Addr} {d_least_loop : FuncData} (ok_least_loop : FnOk P w K mg base CX0 1 a_least_loop d_least_loop P_least_loop (spF ⟨K, w⟩ 1 f_least_loop)) (mg_least_loop : mg "least_loop" = some (.ref a_least_loop)) (kp_least_loop : PySem.W.keepIn K (.ref a_least_loop) = true) (bi_least_loop : Binds K d_least_loop P_least_loop []) {a_successors : Addr} {d_successors : FuncData} (ok_successors : FnOk P w K mg base CX0 1 a_successors d_successors P_successors (spF ⟨K, w⟩ 2 f_successors)) (mg_successors : mg "successors" = some (.ref a_successors)) (kp_successors : PySem.W.keepIn K (.ref a_successors) = true) (bi_successors : Binds K d_successors P_successors []) :
    FnOk P w K mg base CX0 2 f fd P_length_cycle (spF ⟨K, w⟩ 1 f_length_cycle) := by
  have nd := sc_length_cycle.nd
  refine fn_ok F sc_length_cycle rfl rfl (by decide) fun cdv A outer s H E hr => ?_
  have hu := hr.units
  have hv := hu181 hr
  exact (sb_cons (ss_dnew (i := 1) nd rfl (Or.inl rfl))
    (sb_cons (ss_set (i := 2) nd rfl (Or.inl rfl) (se_lst sa_nil))
    (sb_cons (ss_set (i := 3) nd rfl (Or.inl rfl) (se_tup (sa_cons se_int sa_nil)))
    (sb_cons (ss_while PassesOwn.never (st_dnin (u16 hu) (se_var (pv 3)) (pv 1) rfl) (sb_cons (ss_dput (i := 1) (u16 hu) (pv 1) (se_var (pv 3)) (se_len b_len rfl (sa_cons (se_var (pv 2)) sa_nil)))
    (sb_cons (ss_app (i := 2) (pv 2) (se_any b_any rfl rfl (sa_cons (se_lc (own := [("state", 6)]) rfl nd (si_seq (se_var (pv 3))) (blkOk_by (own := [("state", 6)]) (N := N_length_cycle) (sc := defScope st_length_cycle) (by decide +kernel)) (by decide) (gok_name 6) (fun _ _ _ _ _ => (sg_name (i := 6) nd rfl (Or.inl rfl))) (fun _ _ _ _ _ => sts_nil) (fun _ _ _ _ _ => (se_ix (se_fld hC_Machine cl_Machine na_Machine_accepting (se_var (pv 0)) rfl) (se_var (pv 6)) (fun _ _ => rfl)))) sa_nil)))
    (sb_one (ss_set (i := 3) nd rfl (Or.inl rfl) (se_call (fs := []) ok_successors fnS_len (hr.mono (by decide)) mg_successors kp_successors bi_successors rfl (sa_cons (se_fld hC_Machine cl_Machine na_Machine_rows (se_var (pv 0)) rfl) (sa_cons (se_var (pv 3)) sa_nil))))))))
    (sb_cons (ss_set (i := 4) nd rfl (Or.inl rfl) (se_slcA (se_var (pv 2)) so_none (so_some (se_dget (u16 hu) (pv 1) (se_var (pv 3)) (fun _ _ => rfl)))))
    (sb_cons (ss_set (i := 5) nd rfl (Or.inl rfl) (se_call (fs := []) ok_least_loop fnS_len (hr.mono (by decide)) mg_least_loop kp_least_loop bi_least_loop rfl (sa_cons (se_slcA (se_var (pv 2)) (so_some (se_dget (u16 hu) (pv 1) (se_var (pv 3)) (fun _ _ => rfl))) so_none) sa_nil)))
    (sb_cons (ss_while PassesOwn.never (st_bool (sw_and (st_c oGt (se_len b_len rfl (sa_cons (se_var (pv 4)) sa_nil)) se_int (nomark _)) (sw_and1 (st_c (oEq hv) (se_ix (se_var (pv 4)) (se_neg se_int) (fun _ _ => rfl)) (se_ix (se_var (pv 5)) (se_neg se_int) (fun _ _ => rfl)) (nomark _))))) (sb_cons (ss_set (i := 5) nd rfl (Or.inl rfl) (se_add (se_lst (sa_cons (se_ix (se_var (pv 5)) (se_neg se_int) (fun _ _ => rfl)) sa_nil)) (se_slcA (se_var (pv 5)) so_none (so_some (se_neg se_int)))))
    (sb_one (ss_set (i := 4) nd rfl (Or.inl rfl) (se_slcA (se_var (pv 4)) so_none (so_some (se_neg se_int)))))))
    (sb_one (ss_ret (se_tup (sa_cons (se_totup b_tuple rfl (sa_cons (se_var (pv 4)) sa_nil)) (sa_cons (se_totup b_tuple rfl (sa_cons (se_var (pv 5)) sa_nil)) sa_nil))))))))))))
theorem ok_law_holds {f : Addr} {fd : FuncData} (F : FunG K "_law_holds" "_law_holds" st_law_holds f fd) (b_isinstance : mg "isinstance" = none) (b_len : mg "len" = none) (b_range : mg "range" = none) (b_tuple : mg "tuple" = none) {a_law_is_marks : Addr} {d_law_is_marks : FuncData} (ok_law_is_marks : FnOk P w K mg base CX0 1 a_law_is_marks d_law_is_marks P_law_is_marks (spF ⟨K, w⟩ 1 f_law_is_marks)) (mg_law_is_marks : mg "_law_is_marks" = some (.ref a_law_is_marks)) (kp_law_is_marks : PySem.W.keepIn K (.ref a_law_is_marks) = true) (bi_law_is_marks : Binds K d_law_is_marks P_law_is_marks []) {a_law_kept : Addr} {d_law_kept : FuncData} (ok_law_kept : FnOk P w K mg base CX0 1 a_law_kept d_law_kept P_law_kept (spF ⟨K, w⟩ 2 f_law_kept)) (mg_law_kept : mg "_law_kept" = some (.ref a_law_kept)) (kp_law_kept : PySem.W.keepIn K (.ref a_law_kept) = true) (bi_law_kept : Binds K d_law_kept P_law_kept []) {a_law_mark : Addr} {d_law_mark : FuncData} (ok_law_mark : FnOk P w K mg base CX0 1 a_law_mark d_law_mark P_law_mark (spF ⟨K, w⟩ 3 f_law_mark)) (mg_law_mark : mg "_law_mark" = some (.ref a_law_mark)) (kp_law_mark : PySem.W.keepIn K (.ref a_law_mark) = true) (bi_law_mark : Binds K d_law_mark P_law_mark []) {a_law_sequence : Addr} {d_law_sequence : FuncData} (ok_law_sequence : FnOk P w K mg base CX0 1 a_law_sequence d_law_sequence P_law_sequence (spF ⟨K, w⟩ 1 f_law_sequence)) (mg_law_sequence : mg "_law_sequence" = some (.ref a_law_sequence)) (kp_law_sequence : PySem.W.keepIn K (.ref a_law_sequence) = true) (bi_law_sequence : Binds K d_law_sequence P_law_sequence []) {a_length_cycle : Addr} {d_length_cycle : FuncData} (ok_length_cycle : FnOk P w K mg base CX0 2 a_length_cycle d_length_cycle P_length_cycle (spF ⟨K, w⟩ 1 f_length_cycle)) (mg_length_cycle : mg "length_cycle" = some (.ref a_length_cycle)) (kp_length_cycle : PySem.W.keepIn K (.ref a_length_cycle) = true) (bi_length_cycle : Binds K d_length_cycle P_length_cycle []) :
    FnOk P w K mg base CX0 3 f fd P_law_holds (spF ⟨K, w⟩ 2 f_law_holds) := by
  have nd := sc_law_holds.nd
  refine fn_ok F sc_law_holds rfl rfl (by decide) fun cdv A outer s H E hr => ?_
  have hu := hr.units
  have hv := hu181 hr
  exact (sb_cons (ss_set (i := 2) nd rfl (Or.inl rfl) (se_call (fs := []) ok_length_cycle fnS_len (hr.mono (by decide)) mg_length_cycle kp_length_cycle bi_length_cycle rfl (sa_cons (se_var (pv 1)) sa_nil)))
    (sb_cons (ss_if (st_bool (sw_or (st_not (st_val (se_isi b_isinstance rfl b_tuple rfl (by decide +kernel) (se_var (pv 2))) (by intro _; rfl))) (sw_or (st_c (oNe hv) (se_len b_len rfl (sa_cons (se_var (pv 2)) sa_nil)) se_int (nomark _)) (sw_or (st_not (st_val (se_call (fs := []) ok_law_is_marks fnS_len (hr.mono (by decide)) mg_law_is_marks kp_law_is_marks bi_law_is_marks rfl (sa_cons (se_ix (se_var (pv 2)) se_int (fun _ _ => rfl)) sa_nil)) (by intro _; rfl))) (sw_or1 (st_not (st_val (se_call (fs := []) ok_law_is_marks fnS_len (hr.mono (by decide)) mg_law_is_marks kp_law_is_marks bi_law_is_marks rfl (sa_cons (se_ix (se_var (pv 2)) se_int (fun _ _ => rfl)) sa_nil)) (by intro _; rfl)))))))) (sb_one (ss_ret se_bl)) sb_nil)
    (sb_cons (ss_set (i := 3) nd rfl (Or.inl rfl) (se_ix (se_var (pv 2)) se_int (fun _ _ => rfl)))
    (sb_cons (ss_set (i := 4) nd rfl (Or.inl rfl) (se_ix (se_var (pv 2)) se_int (fun _ _ => rfl)))
    (sb_cons (ss_set (i := 5) nd rfl (Or.inl rfl) (se_call (fs := []) ok_law_sequence fnS_len (hr.mono (by decide)) mg_law_sequence kp_law_sequence bi_law_sequence rfl (sa_cons (se_var (pv 0)) sa_nil)))
    (sb_cons (ss_set (i := 6) nd rfl (Or.inl rfl) (se_ix (se_var (pv 5)) se_int (fun _ _ => rfl)))
    (sb_cons (ss_if (st_bool (sw_or (st_c (oEq hv) (se_len b_len rfl (sa_cons (se_var (pv 4)) sa_nil)) se_int (nomark _)) (sw_or1 (st_c oGt (se_b oAdd (se_len b_len rfl (sa_cons (se_var (pv 3)) sa_nil)) (se_len b_len rfl (sa_cons (se_var (pv 4)) sa_nil))) (se_len b_len rfl (sa_cons (se_var (pv 6)) sa_nil)) (nomark _))))) (sb_one (ss_ret se_bl)) sb_nil)
    (sb_cons (ss_for PassesOwn.never rfl (si_range1 b_range rfl (sa_cons (se_b oMul se_int (se_len b_len rfl (sa_cons (se_var (pv 6)) sa_nil))) sa_nil)) (sg_name (i := 7) nd rfl (Or.inl rfl)) (sb_cons (ss_set (i := 9) nd rfl (Or.inl rfl) (se_call (fs := []) ok_law_mark fnS_len (hr.mono (by decide)) mg_law_mark kp_law_mark bi_law_mark rfl (sa_cons (se_slcA (se_var (pv 6)) so_none (so_some (se_ix (se_var (pv 5)) se_int (fun _ _ => rfl)))) (sa_cons (se_slcA (se_var (pv 6)) (so_some (se_ix (se_var (pv 5)) se_int (fun _ _ => rfl))) so_none) (sa_cons (se_var (pv 7)) sa_nil)))))
    (sb_one (ss_if (st_c (oNe hv) (se_call (fs := []) ok_law_mark fnS_len (hr.mono (by decide)) mg_law_mark kp_law_mark bi_law_mark rfl (sa_cons (se_var (pv 3)) (sa_cons (se_var (pv 4)) (sa_cons (se_var (pv 7)) sa_nil)))) (se_var (pv 9)) (nomark _)) (sb_one (ss_ret se_bl)) sb_nil))))
    (sb_cons (ss_for PassesOwn.never rfl (si_range2 b_range rfl (sa_cons se_int (sa_cons (se_len b_len rfl (sa_cons (se_var (pv 4)) sa_nil)) sa_nil))) (sg_name (i := 8) nd rfl (Or.inl rfl)) (sb_one (ss_if (st_c (oEq hv) (se_var (pv 4)) (se_add (se_slcA (se_var (pv 4)) (so_some (se_var (pv 8))) so_none) (se_slcA (se_var (pv 4)) so_none (so_some (se_var (pv 8))))) (nomark _)) (sb_one (ss_ret se_bl)) sb_nil)))
    (sb_cons (ss_if (st_bool (sw_and (st_c oGt (se_len b_len rfl (sa_cons (se_var (pv 3)) sa_nil)) se_int (nomark _)) (sw_and1 (st_c (oEq hv) (se_ix (se_var (pv 3)) (se_b oSub (se_len b_len rfl (sa_cons (se_var (pv 3)) sa_nil)) se_int) (fun _ _ => rfl)) (se_ix (se_var (pv 4)) (se_b oSub (se_len b_len rfl (sa_cons (se_var (pv 4)) sa_nil)) se_int) (fun _ _ => rfl)) (nomark _))))) (sb_one (ss_ret se_bl)) sb_nil)
    (sb_one (ss_ret (se_call (fs := []) ok_law_kept fnS_len (hr.mono (by decide)) mg_law_kept kp_law_kept bi_law_kept rfl (sa_cons (se_var (pv 1)) (sa_cons (se_var (pv 0)) sa_nil)))))))))))))))
theorem ok_law_next {f : Addr} {fd : FuncData} (F : FunG K "_law_next" "_law_next" st_law_next f fd) (b_int : mg "int" = none) (b_len : mg "len" = none) :
    FnOk P w K mg base CX0 1 f fd P_law_next (spF ⟨K, w⟩ 2 f_law_next) := by
  have nd := sc_law_next.nd
  refine fn_ok F sc_law_next rfl rfl (by decide) fun cdv A outer s H E hr => ?_
  have hu := hr.units
  have hv := hu181 hr
  exact (sb_cons (ss_set (i := 2) nd rfl (Or.inl rfl) (se_ix (se_var (pv 0)) se_int (fun _ _ => rfl)))
    (sb_cons (ss_if (st_c oLt (se_var (pv 2)) (se_len b_len rfl (sa_cons (se_ix (se_var (pv 0)) se_int (fun _ _ => rfl)) sa_nil)) (nomark _)) (sb_cons (ss_seti (i := 0) (pv 0) se_int (se_b oAdd (se_var (pv 2)) se_int))
    (sb_one (ss_ret (se_b oMod (se_toint b_int rfl (sa_cons (se_ix (se_ix (se_var (pv 0)) se_int (fun _ _ => rfl)) (se_var (pv 2)) (fun _ _ => rfl)) sa_nil)) (se_var (pv 1)))))) sb_nil)
    (sb_cons (ss_seti (i := 0) (pv 0) se_int (se_b oMod (se_toint b_int rfl (sa_cons (se_b oAdd (se_b oMul (se_ix (se_var (pv 0)) se_int (fun _ _ => rfl)) se_int) se_int) sa_nil)) se_int))
    (sb_cons (ss_seti (i := 0) (pv 0) se_int (se_b oMod (se_toint b_int rfl (sa_cons (se_b oAdd (se_b oMul (se_ix (se_var (pv 0)) se_int (fun _ _ => rfl)) se_int) se_int) sa_nil)) se_int))
    (sb_one (ss_ret (se_b oMod (se_toint b_int rfl (sa_cons (se_b oAdd (se_b oDiv (se_ix (se_var (pv 0)) se_int (fun _ _ => rfl)) se_int) (se_b oDiv (se_ix (se_var (pv 0)) se_int (fun _ _ => rfl)) se_int)) sa_nil)) (se_var (pv 1)))))))))
theorem ok_law_signs {f : Addr} {fd : FuncData} (F : FunG K "_law_signs" "_law_signs" st_law_signs f fd)  :
    FnOk P w K mg base CX0 1 f fd P_law_signs (spF ⟨K, w⟩ 0 f_law_signs) := by
  have nd := sc_law_signs.nd
  refine fn_ok F sc_law_signs rfl rfl (by decide) fun cdv A outer s H E hr => ?_
  have hu := hr.units
  have hv := hu181 hr
  exact (sb_cons (ss_set (i := 0) nd rfl (Or.inl rfl) (se_str (cs := tx_0123456789abcd) (by decide +kernel)))
    (sb_one (ss_ret (se_b oAdd (se_var (pv 0)) (se_str (cs := tx_abcdefghijklmn) (by decide +kernel))))))
theorem ok_law_letters {f : Addr} {fd : FuncData} (F : FunG K "_law_letters" "_law_letters" st_law_letters f fd) (b_int : mg "int" = none) (b_range : mg "range" = none) {a_law_next : Addr} {d_law_next : FuncData} (ok_law_next : FnOk P w K mg base CX0 1 a_law_next d_law_next P_law_next (spF ⟨K, w⟩ 2 f_law_next)) (mg_law_next : mg "_law_next" = some (.ref a_law_next)) (kp_law_next : PySem.W.keepIn K (.ref a_law_next) = true) (bi_law_next : Binds K d_law_next P_law_next []) {a_law_signs : Addr} {d_law_signs : FuncData} (ok_law_signs : FnOk P w K mg base CX0 1 a_law_signs d_law_signs P_law_signs (spF ⟨K, w⟩ 0 f_law_signs)) (mg_law_signs : mg "_law_signs" = some (.ref a_law_signs)) (kp_law_signs : PySem.W.keepIn K (.ref a_law_signs) = true) (bi_law_signs : Binds K d_law_signs P_law_signs []) :
    FnOk P w K mg base CX0 2 f fd P_law_letters (spF ⟨K, w⟩ 1 f_law_letters) := by
  have nd := sc_law_letters.nd
  refine fn_ok F sc_law_letters rfl rfl (by decide) fun cdv A outer s H E hr => ?_
  have hu := hr.units
  have hv := hu181 hr
  exact (sb_cons (ss_set (i := 1) nd rfl (Or.inl rfl) (se_call (fs := [true, false]) ok_law_next fnS_len (hr.mono (by decide)) mg_law_next kp_law_next bi_law_next rfl (sa_cons (se_var (pv 0)) (sa_cons se_int sa_nil))))
    (sb_cons (ss_if (st_c (oEq hv) (se_var (pv 1)) se_int (nomark _)) (sb_one (ss_ret (se_str (cs := [10, 97, 98]) (by decide +kernel)))) sb_nil)
    (sb_cons (ss_if (st_c (oEq hv) (se_var (pv 1)) se_int (nomark _)) (sb_one (ss_ret (se_str (cs := [32, 97, 98]) (by decide +kernel)))) sb_nil)
    (sb_cons (ss_if (st_c (oEq hv) (se_var (pv 1)) se_int (nomark _)) (sb_one (ss_ret (se_str (cs := [97, 98, 99]) (by decide +kernel)))) sb_nil)
    (sb_cons (ss_set (i := 2) nd rfl (Or.inr rfl) (se_call0 (fs := []) ok_law_signs fnS_len (hr.mono (by decide)) mg_law_signs kp_law_signs bi_law_signs rfl))
    (sb_cons (ss_set (i := 3) nd rfl (Or.inr rfl) (se_call (fs := [true, false]) ok_law_next fnS_len (hr.mono (by decide)) mg_law_next kp_law_next bi_law_next rfl (sa_cons (se_var (pv 0)) (sa_cons se_int sa_nil))))
    (sb_cons (ss_set (i := 4) nd rfl (Or.inr rfl) (se_b oMod (se_toint b_int rfl (sa_cons (se_b oAdd (se_b oAdd (se_var (pv 3)) se_int) (se_call (fs := [true, false]) ok_law_next fnS_len (hr.mono (by decide)) mg_law_next kp_law_next bi_law_next rfl (sa_cons (se_var (pv 0)) (sa_cons se_int sa_nil)))) sa_nil)) se_int))
    (sb_cons (ss_set (i := 5) nd rfl (Or.inr rfl) (se_b oMod (se_toint b_int rfl (sa_cons (se_b oAdd (se_b oAdd (se_var (pv 3)) se_int) (se_call (fs := [true, false]) ok_law_next fnS_len (hr.mono (by decide)) mg_law_next kp_law_next bi_law_next rfl (sa_cons (se_var (pv 0)) (sa_cons se_int sa_nil)))) sa_nil)) se_int))
    (sb_cons (ss_if (st_c (oEq hv) (se_var (pv 5)) (se_var (pv 4)) (nomark _)) (sb_one (ss_set (i := 5) nd rfl (Or.inr rfl) (se_b oMod (se_toint b_int rfl (sa_cons (se_b oAdd (se_var (pv 5)) se_int) sa_nil)) se_int))) sb_nil)
    (sb_cons (ss_if (st_c (oEq hv) (se_var (pv 5)) (se_var (pv 3)) (nomark _)) (sb_one (ss_set (i := 5) nd rfl (Or.inr rfl) (se_b oMod (se_toint b_int rfl (sa_cons (se_b oAdd (se_var (pv 5)) se_int) sa_nil)) se_int))) sb_nil)
    (sb_one (ss_ret (se_join (se_str (cs := []) (by decide +kernel)) (sa_cons (se_lc (own := [("_law_k", 6)]) rfl nd (si_range1 b_range rfl (sa_cons se_int sa_nil)) (blkOk_by (own := [("_law_k", 6)]) (N := N_law_letters) (sc := defScope st_law_letters) (by decide +kernel)) (by decide) (gok_name 6) (fun _ _ _ _ _ => (sg_name (i := 6) nd rfl (Or.inl rfl))) (fun _ _ _ _ _ => (sts_one (st_bool (sw_or (st_c (oEq hv) (se_var (pv 6)) (se_var (pv 3)) (nomark _)) (sw_or (st_c (oEq hv) (se_var (pv 6)) (se_var (pv 4)) (nomark _)) (sw_or1 (st_c (oEq hv) (se_var (pv 6)) (se_var (pv 5)) (nomark _)))))))) (fun _ _ _ _ _ => (se_ix (se_var (pv 2)) (se_var (pv 6)) (fun _ _ => rfl)))) sa_nil))))))))))))))
theorem ok_law_division {f : Addr} {fd : FuncData} (F : FunG K "_law_division" "_law_division" st_law_division f fd) (b_range : mg "range" = none) (b_sorted : mg "sorted" = none) (b_tuple : mg "tuple" = none) {a_law_next : Addr} {d_law_next : FuncData} (ok_law_next : FnOk P w K mg base CX0 1 a_law_next d_law_next P_law_next (spF ⟨K, w⟩ 2 f_law_next)) (mg_law_next : mg "_law_next" = some (.ref a_law_next)) (kp_law_next : PySem.W.keepIn K (.ref a_law_next) = true) (bi_law_next : Binds K d_law_next P_law_next []) {a_law_signs : Addr} {d_law_signs : FuncData} (ok_law_signs : FnOk P w K mg base CX0 1 a_law_signs d_law_signs P_law_signs (spF ⟨K, w⟩ 0 f_law_signs)) (mg_law_signs : mg "_law_signs" = some (.ref a_law_signs)) (kp_law_signs : PySem.W.keepIn K (.ref a_law_signs) = true) (bi_law_signs : Binds K d_law_signs P_law_signs []) :
    FnOk P w K mg base CX0 2 f fd P_law_division (spF ⟨K, w⟩ 2 f_law_division) := by
  have nd := sc_law_division.nd
  refine fn_ok F sc_law_division rfl rfl (by decide) fun cdv A outer s H E hr => ?_
  have hu := hr.units
  have hv := hu181 hr
  exact (sb_cons (ss_set (i := 2) nd rfl (Or.inr rfl) (se_call0 (fs := []) ok_law_signs fnS_len (hr.mono (by decide)) mg_law_signs kp_law_signs bi_law_signs rfl))
    (sb_cons (ss_set (i := 3) nd rfl (Or.inl rfl) (se_call (fs := [true, false]) ok_law_next fnS_len (hr.mono (by decide)) mg_law_next kp_law_next bi_law_next rfl (sa_cons (se_var (pv 0)) (sa_cons se_int sa_nil))))
    (sb_cons (ss_if (st_c (oEq hv) (se_var (pv 3)) se_int (nomark _)) (sb_one (ss_ret (se_tup (sa_cons (se_var (pv 2)) sa_nil)))) sb_nil)
    (sb_cons (ss_if (st_c (oEq hv) (se_var (pv 3)) se_int (nomark _)) (sb_cons (ss_set (i := 5) nd rfl (Or.inl rfl) (se_call (fs := [true, false]) ok_law_next fnS_len (hr.mono (by decide)) mg_law_next kp_law_next bi_law_next rfl (sa_cons (se_var (pv 0)) (sa_cons se_int sa_nil))))
    (sb_cons (ss_set (i := 9) nd rfl (Or.inl rfl) (se_add (se_slcA (se_var (pv 2)) so_none (so_some (se_var (pv 5)))) (se_slcA (se_var (pv 2)) (so_some (se_b oAdd (se_var (pv 5)) se_int)) so_none)))
    (sb_one (ss_ret (se_totup b_tuple rfl (sa_cons (se_sorted b_sorted rfl (sa_cons (se_add (se_lst (sa_cons (se_var (pv 9)) sa_nil)) (se_lc (own := [("_law_k", 8)]) rfl nd (si_range2 b_range rfl (sa_cons (se_var (pv 5)) (sa_cons (se_b oAdd (se_var (pv 5)) se_int) sa_nil))) (blkOk_by (own := [("_law_k", 8)]) (N := N_law_division) (sc := defScope st_law_division) (by decide +kernel)) (by decide) (gok_name 8) (fun _ _ _ _ _ => (sg_name (i := 8) nd rfl (Or.inl rfl))) (fun _ _ _ _ _ => sts_nil) (fun _ _ _ _ _ => (se_ix (se_var (pv 2)) (se_var (pv 8)) (fun _ _ => rfl))))) sa_nil)) sa_nil)))))) sb_nil)
    (sb_cons (ss_set (i := 4) nd rfl (Or.inl rfl) (se_lst (sa_cons se_int (sa_cons se_int (sa_cons se_int sa_nil)))))
    (sb_cons (ss_if (st_c oLt (se_var (pv 3)) se_int (nomark _)) (sb_one (ss_setlc (i := 4) (own := [("_law_k", 8)]) rfl nd rfl rfl (sw_true rfl rfl rfl (by decide +kernel)) (si_range1 b_range rfl (sa_cons se_int sa_nil)) (blkOk_by (own := [("_law_k", 8)]) (N := N_law_division) (sc := defScope st_law_division) (by decide +kernel)) (by decide) (gok_name 8) (fun _ _ _ _ _ => (sg_name (i := 8) nd rfl (Or.inl rfl))) (fun _ _ _ _ _ => sts_nil) (fun _ _ _ _ _ => (se_call (fs := [true, false]) ok_law_next fnS_len (hr.mono (by decide)) mg_law_next kp_law_next bi_law_next rfl (sa_cons (se_var (pv 0)) (sa_cons se_int sa_nil)))))) sb_nil)
    (sb_cons (ss_set (i := 5) nd rfl (Or.inl rfl) se_int)
    (sb_cons (ss_set (i := 6) nd rfl (Or.inl rfl) se_int)
    (sb_cons (ss_if (st_c oIn (se_var (pv 3)) (se_tup (sa_cons se_int (sa_cons se_int (sa_cons se_int sa_nil)))) rfl) (sb_cons (ss_set (i := 5) nd rfl (Or.inl rfl) (se_call (fs := [true, false]) ok_law_next fnS_len (hr.mono (by decide)) mg_law_next kp_law_next bi_law_next rfl (sa_cons (se_var (pv 0)) (sa_cons se_int sa_nil))))
    (sb_one (ss_set (i := 6) nd rfl (Or.inl rfl) (se_b oAdd se_int (se_call (fs := [true, false]) ok_law_next fnS_len (hr.mono (by decide)) mg_law_next kp_law_next bi_law_next rfl (sa_cons (se_var (pv 0)) (sa_cons se_int sa_nil))))))) sb_nil)
    (sb_cons (ss_set (i := 7) nd rfl (Or.inl rfl) (se_lst (sa_cons (se_str (cs := []) (by decide +kernel)) (sa_cons (se_str (cs := []) (by decide +kernel)) (sa_cons (se_str (cs := []) (by decide +kernel)) (sa_cons (se_str (cs := []) (by decide +kernel)) (sa_cons (se_str (cs := []) (by decide +kernel)) sa_nil)))))))
    (sb_cons (ss_for PassesOwn.never rfl (si_range1 b_range rfl (sa_cons se_int sa_nil)) (sg_name (i := 8) nd rfl (Or.inl rfl)) (sb_cons (ss_set (i := 10) nd rfl (Or.inl rfl) se_int)
    (sb_cons (ss_if (st_bool (sw_and (st_c oLe (se_var (pv 5)) (se_var (pv 8)) (nomark _)) (sw_and1 (st_c oLt (se_var (pv 8)) (se_add (se_var (pv 5)) (se_var (pv 6))) (nomark _))))) (sb_one (ss_set (i := 10) nd rfl (Or.inl rfl) se_int)) sb_nil)
    (sb_cons (ss_if (st_c oIn (se_ix (se_var (pv 2)) (se_var (pv 8)) (fun _ _ => rfl)) (se_var (pv 1)) rfl) (sb_one (ss_set (i := 10) nd rfl (Or.inl rfl) (se_ix (se_var (pv 4)) (se_find (se_var (pv 1)) (sa_cons (se_ix (se_var (pv 2)) (se_var (pv 8)) (fun _ _ => rfl)) sa_nil)) (fun _ _ => rfl)))) sb_nil)
    (sb_one (ss_seti (i := 7) (pv 7) (se_var (pv 10)) (se_add (se_ix (se_var (pv 7)) (se_var (pv 10)) (fun _ _ => rfl)) (se_ix (se_var (pv 2)) (se_var (pv 8)) (fun _ _ => rfl)))))))))
    (sb_one (ss_ret (se_totup b_tuple rfl (sa_cons (se_sorted b_sorted rfl (sa_cons (se_lc (own := [("_law_part", 11)]) rfl nd (si_seq (se_var (pv 7))) (blkOk_by (own := [("_law_part", 11)]) (N := N_law_division) (sc := defScope st_law_division) (by decide +kernel)) (by decide) (gok_name 11) (fun _ _ _ _ _ => (sg_name (i := 11) nd rfl (Or.inl rfl))) (fun _ _ _ _ _ => (sts_one (st_c (oNe hv) (se_var (pv 11)) (se_str (cs := []) (by decide +kernel)) (nomark _)))) (fun _ _ _ _ _ => (se_var (pv 11)))) sa_nil)) sa_nil)))))))))))))))
theorem ok_law_machine {f : Addr} {fd : FuncData} (F : FunG K "_law_machine" "_law_machine" st_law_machine f fd) (b_int : mg "int" = none) (b_min : mg "min" = none) (b_range : mg "range" = none) (b_tuple : mg "tuple" = none) {a_law_division : Addr} {d_law_division : FuncData} (ok_law_division : FnOk P w K mg base CX0 2 a_law_division d_law_division P_law_division (spF ⟨K, w⟩ 2 f_law_division)) (mg_law_division : mg "_law_division" = some (.ref a_law_division)) (kp_law_division : PySem.W.keepIn K (.ref a_law_division) = true) (bi_law_division : Binds K d_law_division P_law_division []) {a_law_next : Addr} {d_law_next : FuncData} (ok_law_next : FnOk P w K mg base CX0 1 a_law_next d_law_next P_law_next (spF ⟨K, w⟩ 2 f_law_next)) (mg_law_next : mg "_law_next" = some (.ref a_law_next)) (kp_law_next : PySem.W.keepIn K (.ref a_law_next) = true) (bi_law_next : Binds K d_law_next P_law_next []) :
    FnOk P w K mg base CX0 3 f fd P_law_machine (spF ⟨K, w⟩ 3 f_law_machine) := by
  have nd := sc_law_machine.nd
  refine fn_ok F sc_law_machine rfl rfl (by decide) fun cdv A outer s H E hr => ?_
  have hu := hr.units
  have hv := hu181 hr
  exact (sb_cons (ss_set (i := 3) nd rfl (Or.inl rfl) (se_call (fs := [true, false]) ok_law_division fnS_len (hr.mono (by decide)) mg_law_division kp_law_division bi_law_division rfl (sa_cons (se_var (pv 0)) (sa_cons (se_var (pv 1)) sa_nil))))
    (sb_cons (ss_set (i := 4) nd rfl (Or.inl rfl) (se_b oAdd se_int (se_call (fs := [true, false]) ok_law_next fnS_len (hr.mono (by decide)) mg_law_next kp_law_next bi_law_next rfl (sa_cons (se_var (pv 0)) (sa_cons (se_var (pv 2)) sa_nil)))))
    (sb_cons (ss_set (i := 5) nd rfl (Or.inl rfl) (se_call (fs := [true, false]) ok_law_next fnS_len (hr.mono (by decide)) mg_law_next kp_law_next bi_law_next rfl (sa_cons (se_var (pv 0)) (sa_cons se_int sa_nil))))
    (sb_cons (ss_set (i := 6) nd rfl (Or.inl rfl) (se_lst sa_nil))
    (sb_cons (ss_set (i := 7) nd rfl (Or.inl rfl) (se_lst sa_nil))
    (sb_cons (ss_for PassesOwn.never rfl (si_range1 b_range rfl (sa_cons (se_var (pv 4)) sa_nil)) (sg_name (i := 8) nd rfl (Or.inl rfl)) (sb_cons (ss_set (i := 9) nd rfl (Or.inl rfl) (se_lst sa_nil))
    (sb_cons (ss_for PassesOwn.never rfl (si_seq (se_var (pv 3))) (sg_name (i := 10) nd rfl (Or.inl rfl)) (sb_cons (ss_set (i := 11) nd rfl (Or.inl rfl) (se_call (fs := [true, false]) ok_law_next fnS_len (hr.mono (by decide)) mg_law_next kp_law_next bi_law_next rfl (sa_cons (se_var (pv 0)) (sa_cons (se_var (pv 4)) sa_nil))))
    (sb_cons (ss_if (st_c (oEq hv) (se_var (pv 5)) se_int (nomark _)) (sb_one (ss_set (i := 11) nd rfl (Or.inl rfl) (se_min2 b_min rfl rfl (sa_cons (se_b oSub (se_var (pv 4)) se_int) (sa_cons (se_b oAdd (se_b oAdd (se_var (pv 8)) se_int) (se_b oDiv (se_var (pv 11)) se_int)) sa_nil))))) sb_nil)
    (sb_cons (ss_if (st_bool (sw_and (st_c (oEq hv) (se_var (pv 5)) se_int (nomark _)) (sw_and1 (st_c (oEq hv) (se_call (fs := [true, false]) ok_law_next fnS_len (hr.mono (by decide)) mg_law_next kp_law_next bi_law_next rfl (sa_cons (se_var (pv 0)) (sa_cons se_int sa_nil))) se_int (nomark _))))) (sb_one (ss_set (i := 11) nd rfl (Or.inl rfl) (se_b oMod (se_toint b_int rfl (sa_cons (se_b oAdd (se_var (pv 8)) se_int) sa_nil)) (se_var (pv 4))))) sb_nil)
    (sb_cons (ss_if (st_bool (sw_and (st_c (oEq hv) (se_var (pv 5)) se_int (nomark _)) (sw_and1 (st_bool (sw_or (st_c (oEq hv) (se_var (pv 8)) (se_b oSub (se_var (pv 4)) se_int) (nomark _)) (sw_or1 (st_c (oEq hv) (se_call (fs := [true, false]) ok_law_next fnS_len (hr.mono (by decide)) mg_law_next kp_law_next bi_law_next rfl (sa_cons (se_var (pv 0)) (sa_cons se_int sa_nil))) se_int (nomark _)))))))) (sb_one (ss_set (i := 11) nd rfl (Or.inl rfl) (se_b oSub (se_var (pv 4)) se_int))) sb_nil)
    (sb_one (ss_app (i := 9) (pv 9) (se_var (pv 11)))))))))
    (sb_cons (ss_app (i := 6) (pv 6) (se_totup b_tuple rfl (sa_cons (se_var (pv 9)) sa_nil)))
    (sb_one (ss_app (i := 7) (pv 7) (se_c oLt (se_call (fs := [true, false]) ok_law_next fnS_len (hr.mono (by decide)) mg_law_next kp_law_next bi_law_next rfl (sa_cons (se_var (pv 0)) (sa_cons se_int sa_nil))) se_int (nomark _))))))))
    (sb_cons (ss_if (st_bool (sw_and (st_c oIn (se_var (pv 5)) (se_tup (sa_cons se_int (sa_cons se_int sa_nil))) rfl) (sw_and1 (st_c oGt (se_call (fs := [true, false]) ok_law_next fnS_len (hr.mono (by decide)) mg_law_next kp_law_next bi_law_next rfl (sa_cons (se_var (pv 0)) (sa_cons se_int sa_nil))) se_int (nomark _))))) (sb_one (ss_seti (i := 7) (pv 7) (se_b oSub (se_var (pv 4)) se_int) se_bl)) sb_nil)
    (sb_cons (ss_if (st_bool (sw_and (st_c oNi se_bl (se_var (pv 7)) rfl) (sw_and1 (st_c oGt (se_call (fs := [true, false]) ok_law_next fnS_len (hr.mono (by decide)) mg_law_next kp_law_next bi_law_next rfl (sa_cons (se_var (pv 0)) (sa_cons se_int sa_nil))) se_int (nomark _))))) (sb_one (ss_seti (i := 7) (pv 7) (se_call (fs := [true, false]) ok_law_next fnS_len (hr.mono (by decide)) mg_law_next kp_law_next bi_law_next rfl (sa_cons (se_var (pv 0)) (sa_cons (se_var (pv 4)) sa_nil))) se_bl)) sb_nil)
    (sb_one (ss_ret (se_tup (sa_cons (se_var (pv 3)) (sa_cons (se_totup b_tuple rfl (sa_cons (se_var (pv 6)) sa_nil)) (sa_cons (se_totup b_tuple rfl (sa_cons (se_var (pv 7)) sa_nil)) sa_nil))))))))))))))
theorem ok_init_Machine {f : Addr} {fd : FuncData} (F : FunG K "__init__" "Machine.__init__" st_init_Machine f fd) {C_Machine : Addr} (cl_Machine : Cls K C_Machine) (na_Machine_cells : NoAttr K C_Machine "cells") (na_Machine_rows : NoAttr K C_Machine "rows") (na_Machine_accepting : NoAttr K C_Machine "accepting") :
    FnOk P w K mg base CX0 1 f fd P_init_Machine (spI ⟨K, w⟩ C_Machine 3 g_Machine) := by
  have nd := sc_init_Machine.nd
  refine fn_init F sc_init_Machine rfl rfl (by decide) fun cdv A outer s H E hr => ?_
  have hu := hr.units
  have hv := hu181 hr
  exact (si0_cons (si0_fld cl_Machine na_Machine_cells (pv 0) (se_var (pv 1)) rfl)
    (si0_cons (si0_fld cl_Machine na_Machine_rows (pv 0) (se_var (pv 2)) rfl)
    (si0_cons (si0_fld cl_Machine na_Machine_accepting (pv 0) (se_var (pv 3)) rfl)
    si0_nil)))
theorem ok_law_made {f : Addr} {fd : FuncData} (F : FunG K "_law_made" "_law_made" st_law_made f fd) {C_Machine : Addr} (hC_Machine : ClsN K "Machine" C_Machine) {fi_Machine : Addr} {fdi_Machine : FuncData} (M_Machine : Mk K C_Machine fi_Machine) (okI_Machine : FnOk P w K mg base CX0 1 fi_Machine fdi_Machine P_init_Machine (spI ⟨K, w⟩ C_Machine 3 g_Machine)) (mgC_Machine : mg "Machine" = some (.ref C_Machine)) (biI_Machine : Binds K fdi_Machine P_init_Machine []) :
    FnOk P w K mg base CX0 3 f fd P_law_made (spF ⟨K, w⟩ 1 f_law_made) := by
  have nd := sc_law_made.nd
  refine fn_ok F sc_law_made rfl rfl (by decide) fun cdv A outer s H E hr => ?_
  have hu := hr.units
  have hv := hu181 hr
  exact (sb_one (ss_ret (se_make M_Machine hC_Machine okI_Machine g_Machine_len (hr.mono (by decide)) rfl mgC_Machine biI_Machine (sa_cons (se_ix (se_var (pv 0)) se_int (fun _ _ => rfl)) (sa_cons (se_ix (se_var (pv 0)) se_int (fun _ _ => rfl)) (sa_cons (se_ix (se_var (pv 0)) se_int (fun _ _ => rfl)) sa_nil))))))
theorem ok_law_ring {f : Addr} {fd : FuncData} (F : FunG K "_law_ring" "_law_ring" st_law_ring f fd) (b_int : mg "int" = none) (b_len : mg "len" = none) (b_range : mg "range" = none) (b_tuple : mg "tuple" = none) {a_law_next : Addr} {d_law_next : FuncData} (ok_law_next : FnOk P w K mg base CX0 1 a_law_next d_law_next P_law_next (spF ⟨K, w⟩ 2 f_law_next)) (mg_law_next : mg "_law_next" = some (.ref a_law_next)) (kp_law_next : PySem.W.keepIn K (.ref a_law_next) = true) (bi_law_next : Binds K d_law_next P_law_next []) :
    FnOk P w K mg base CX0 2 f fd P_law_ring (spF ⟨K, w⟩ 5 f_law_ring) := by
  have nd := sc_law_ring.nd
  refine fn_ok F sc_law_ring rfl rfl (by decide) fun cdv A outer s H E hr => ?_
  have hu := hr.units
  have hv := hu181 hr
  exact (sb_cons (ss_set (i := 5) nd rfl (Or.inl rfl) (se_call (fs := [true, false]) ok_law_next fnS_len (hr.mono (by decide)) mg_law_next kp_law_next bi_law_next rfl (sa_cons (se_var (pv 0)) (sa_cons (se_len b_len rfl (sa_cons (se_var (pv 1)) sa_nil)) sa_nil))))
    (sb_cons (ss_set (i := 6) nd rfl (Or.inl rfl) (se_lst sa_nil))
    (sb_cons (ss_for PassesOwn.never rfl (si_range1 b_range rfl (sa_cons (se_var (pv 3)) sa_nil)) (sg_name (i := 7) nd rfl (Or.inl rfl)) (sb_cons (ss_set (i := 8) nd rfl (Or.inl rfl) (se_lst sa_nil))
    (sb_cons (ss_for PassesOwn.never rfl (si_range1 b_range rfl (sa_cons (se_len b_len rfl (sa_cons (se_var (pv 1)) sa_nil)) sa_nil)) (sg_name (i := 9) nd rfl (Or.inl rfl)) (sb_cons (ss_set (i := 10) nd rfl (Or.inl rfl) (se_b oAdd (se_var (pv 2)) (se_b oMod (se_toint b_int rfl (sa_cons (se_b oAdd (se_var (pv 7)) se_int) sa_nil)) (se_var (pv 3)))))
    (sb_cons (ss_if (st_bool (sw_and (st_c (oNe hv) (se_var (pv 9)) (se_var (pv 5)) (nomark _)) (sw_and1 (st_c (oEq hv) (se_call (fs := [true, false]) ok_law_next fnS_len (hr.mono (by decide)) mg_law_next kp_law_next bi_law_next rfl (sa_cons (se_var (pv 0)) (sa_cons se_int sa_nil))) se_int (nomark _))))) (sb_one (ss_set (i := 10) nd rfl (Or.inl rfl) (se_var (pv 4)))) sb_nil)
    (sb_one (ss_app (i := 8) (pv 8) (se_var (pv 10)))))))
    (sb_one (ss_app (i := 6) (pv 6) (se_totup b_tuple rfl (sa_cons (se_var (pv 8)) sa_nil)))))))
    (sb_one (ss_ret (se_var (pv 6)))))))
theorem ok_law_wheels {f : Addr} {fd : FuncData} (F : FunG K "_law_wheels" "_law_wheels" st_law_wheels f fd) (b_range : mg "range" = none) (b_tuple : mg "tuple" = none) {a_law_division : Addr} {d_law_division : FuncData} (ok_law_division : FnOk P w K mg base CX0 2 a_law_division d_law_division P_law_division (spF ⟨K, w⟩ 2 f_law_division)) (mg_law_division : mg "_law_division" = some (.ref a_law_division)) (kp_law_division : PySem.W.keepIn K (.ref a_law_division) = true) (bi_law_division : Binds K d_law_division P_law_division []) {a_law_next : Addr} {d_law_next : FuncData} (ok_law_next : FnOk P w K mg base CX0 1 a_law_next d_law_next P_law_next (spF ⟨K, w⟩ 2 f_law_next)) (mg_law_next : mg "_law_next" = some (.ref a_law_next)) (kp_law_next : PySem.W.keepIn K (.ref a_law_next) = true) (bi_law_next : Binds K d_law_next P_law_next []) {a_law_ring : Addr} {d_law_ring : FuncData} (ok_law_ring : FnOk P w K mg base CX0 2 a_law_ring d_law_ring P_law_ring (spF ⟨K, w⟩ 5 f_law_ring)) (mg_law_ring : mg "_law_ring" = some (.ref a_law_ring)) (kp_law_ring : PySem.W.keepIn K (.ref a_law_ring) = true) (bi_law_ring : Binds K d_law_ring P_law_ring []) :
    FnOk P w K mg base CX0 3 f fd P_law_wheels (spF ⟨K, w⟩ 2 f_law_wheels) := by
  have nd := sc_law_wheels.nd
  refine fn_ok F sc_law_wheels rfl rfl (by decide) fun cdv A outer s H E hr => ?_
  have hu := hr.units
  have hv := hu181 hr
  exact (sb_cons (ss_set (i := 2) nd rfl (Or.inr rfl) (se_call (fs := [true, false]) ok_law_division fnS_len (hr.mono (by decide)) mg_law_division kp_law_division bi_law_division rfl (sa_cons (se_var (pv 0)) (sa_cons (se_var (pv 1)) sa_nil))))
    (sb_cons (ss_set (i := 3) nd rfl (Or.inr rfl) (se_b oAdd se_int (se_call (fs := [true, false]) ok_law_next fnS_len (hr.mono (by decide)) mg_law_next kp_law_next bi_law_next rfl (sa_cons (se_var (pv 0)) (sa_cons se_int sa_nil)))))
    (sb_cons (ss_set (i := 4) nd rfl (Or.inr rfl) (se_b oAdd se_int (se_call (fs := [true, false]) ok_law_next fnS_len (hr.mono (by decide)) mg_law_next kp_law_next bi_law_next rfl (sa_cons (se_var (pv 0)) (sa_cons se_int sa_nil)))))
    (sb_cons (ss_set (i := 5) nd rfl (Or.inl rfl) (se_b oAdd se_int (se_call (fs := [true, false]) ok_law_next fnS_len (hr.mono (by decide)) mg_law_next kp_law_next bi_law_next rfl (sa_cons (se_var (pv 0)) (sa_cons se_int sa_nil)))))
    (sb_cons (ss_set (i := 6) nd rfl (Or.inr rfl) (se_add (se_add (se_var (pv 3)) (se_var (pv 4))) (se_var (pv 5))))
    (sb_cons (ss_setlc (i := 7) (own := [("_law_k", 9)]) rfl nd rfl rfl (sw_true rfl rfl rfl (by decide +kernel)) (si_range1 b_range rfl (sa_cons (se_b oSub (se_var (pv 3)) se_int) sa_nil)) (blkOk_by (own := [("_law_k", 9)]) (N := N_law_wheels) (sc := defScope st_law_wheels) (by decide +kernel)) (by decide) (gok_name 9) (fun _ _ _ _ _ => (sg_name (i := 9) nd rfl (Or.inr rfl))) (fun _ _ _ _ _ => sts_nil) (fun _ _ _ _ _ => (se_totup b_tuple rfl (sa_cons (se_lc (own := [("_law_cell", 10)]) rfl nd (si_seq (se_var (pv 2))) (blkOk_nest (own := [("_law_cell", 10)]) (N := N_law_wheels) (sc0 := defScope st_law_wheels) rfl (by decide +kernel)) (by decide) (gok_name 10) (fun _ _ _ _ _ => (sg_name (i := 10) nd rfl (Or.inl rfl))) (fun _ _ _ _ _ => sts_nil) (fun _ _ _ _ _ => (se_b oAdd (se_var (pv 9)) se_int))) sa_nil))))
    (sb_cons (ss_app (i := 7) (pv 7) (se_totup b_tuple rfl (sa_cons (se_lc (own := [("_law_cell", 10)]) rfl nd (si_seq (se_var (pv 2))) (blkOk_by (own := [("_law_cell", 10)]) (N := N_law_wheels) (sc := defScope st_law_wheels) (by decide +kernel)) (by decide) (gok_name 10) (fun _ _ _ _ _ => (sg_name (i := 10) nd rfl (Or.inl rfl))) (fun _ _ _ _ _ => sts_nil) (fun _ _ _ _ _ => (se_ix (se_lst (sa_cons (se_var (pv 3)) (sa_cons (se_add (se_var (pv 3)) (se_var (pv 4))) (sa_cons (se_var (pv 6)) sa_nil)))) (se_call (fs := [true, false]) ok_law_next fnS_len (hr.mono (by decide)) mg_law_next kp_law_next bi_law_next rfl (sa_cons (se_var (pv 0)) (sa_cons se_int sa_nil))) (fun _ _ => rfl)))) sa_nil)))
    (sb_cons (ss_set (i := 7) nd rfl (Or.inl rfl) (se_add (se_var (pv 7)) (se_call (fs := [true, false, false, false, false]) ok_law_ring fnS_len (hr.mono (by decide)) mg_law_ring kp_law_ring bi_law_ring rfl (sa_cons (se_var (pv 0)) (sa_cons (se_var (pv 2)) (sa_cons (se_var (pv 3)) (sa_cons (se_var (pv 4)) (sa_cons (se_var (pv 6)) sa_nil))))))))
    (sb_cons (ss_set (i := 7) nd rfl (Or.inl rfl) (se_add (se_var (pv 7)) (se_call (fs := [true, false, false, false, false]) ok_law_ring fnS_len (hr.mono (by decide)) mg_law_ring kp_law_ring bi_law_ring rfl (sa_cons (se_var (pv 0)) (sa_cons (se_var (pv 2)) (sa_cons (se_add (se_var (pv 3)) (se_var (pv 4))) (sa_cons (se_var (pv 5)) (sa_cons (se_var (pv 6)) sa_nil))))))))
    (sb_cons (ss_app (i := 7) (pv 7) (se_totup b_tuple rfl (sa_cons (se_lc (own := [("_law_cell", 10)]) rfl nd (si_seq (se_var (pv 2))) (blkOk_by (own := [("_law_cell", 10)]) (N := N_law_wheels) (sc := defScope st_law_wheels) (by decide +kernel)) (by decide) (gok_name 10) (fun _ _ _ _ _ => (sg_name (i := 10) nd rfl (Or.inl rfl))) (fun _ _ _ _ _ => sts_nil) (fun _ _ _ _ _ => (se_var (pv 6)))) sa_nil)))
    (sb_cons (ss_set (i := 8) nd rfl (Or.inr rfl) (se_lc (own := [("_law_k", 9)]) rfl nd (si_range1 b_range rfl (sa_cons (se_var (pv 6)) sa_nil)) (blkOk_by (own := [("_law_k", 9)]) (N := N_law_wheels) (sc := defScope st_law_wheels) (by decide +kernel)) (by decide) (gok_name 9) (fun _ _ _ _ _ => (sg_name (i := 9) nd rfl (Or.inl rfl))) (fun _ _ _ _ _ => sts_nil) (fun _ _ _ _ _ => (se_c (oEq hv) (se_call (fs := [true, false]) ok_law_next fnS_len (hr.mono (by decide)) mg_law_next kp_law_next bi_law_next rfl (sa_cons (se_var (pv 0)) (sa_cons se_int sa_nil))) se_int (nomark _)))))
    (sb_cons (ss_if (st_c (oEq hv) (se_call (fs := [true, false]) ok_law_next fnS_len (hr.mono (by decide)) mg_law_next kp_law_next bi_law_next rfl (sa_cons (se_var (pv 0)) (sa_cons se_int sa_nil))) se_int (nomark _)) (sb_cons (ss_set (i := 8) nd rfl (Or.inr rfl) (se_lc (own := [("_law_k", 9)]) rfl nd (si_range1 b_range rfl (sa_cons (se_var (pv 6)) sa_nil)) (blkOk_by (own := [("_law_k", 9)]) (N := N_law_wheels) (sc := defScope st_law_wheels) (by decide +kernel)) (by decide) (gok_name 9) (fun _ _ _ _ _ => (sg_name (i := 9) nd rfl (Or.inl rfl))) (fun _ _ _ _ _ => sts_nil) (fun _ _ _ _ _ => (se_and (se_ix (se_var (pv 8)) (se_var (pv 9)) (fun _ _ => rfl)) (se_one (se_c oGe (se_var (pv 9)) (se_var (pv 3)) (nomark _)))))))
    (sb_one (ss_seti (i := 8) (pv 8) (se_var (pv 3)) se_bl))) sb_nil)
    (sb_one (ss_ret (se_tup (sa_cons (se_var (pv 2)) (sa_cons (se_totup b_tuple rfl (sa_cons (se_var (pv 7)) sa_nil)) (sa_cons (se_totup b_tuple rfl (sa_cons (se_add (se_var (pv 8)) (se_lst (sa_cons se_bl sa_nil))) sa_nil)) sa_nil))))))))))))))))))
theorem ok_law {f : Addr} {fd : FuncData} (F : FunG K "law" "law" st_law f fd) (b_range : mg "range" = none) {a_law_draw : Addr} {d_law_draw : FuncData} (ok_law_draw : FnOk P w K mg base CX0 1 a_law_draw d_law_draw P_law_draw (spF ⟨K, w⟩ 1 f_law_draw)) (mg_law_draw : mg "_law_draw" = some (.ref a_law_draw)) (kp_law_draw : PySem.W.keepIn K (.ref a_law_draw) = true) (bi_law_draw : Binds K d_law_draw P_law_draw []) {a_law_holds : Addr} {d_law_holds : FuncData} (ok_law_holds : FnOk P w K mg base CX0 3 a_law_holds d_law_holds P_law_holds (spF ⟨K, w⟩ 2 f_law_holds)) (mg_law_holds : mg "_law_holds" = some (.ref a_law_holds)) (kp_law_holds : PySem.W.keepIn K (.ref a_law_holds) = true) (bi_law_holds : Binds K d_law_holds P_law_holds []) {a_law_letters : Addr} {d_law_letters : FuncData} (ok_law_letters : FnOk P w K mg base CX0 2 a_law_letters d_law_letters P_law_letters (spF ⟨K, w⟩ 1 f_law_letters)) (mg_law_letters : mg "_law_letters" = some (.ref a_law_letters)) (kp_law_letters : PySem.W.keepIn K (.ref a_law_letters) = true) (bi_law_letters : Binds K d_law_letters P_law_letters []) {a_law_machine : Addr} {d_law_machine : FuncData} (ok_law_machine : FnOk P w K mg base CX0 3 a_law_machine d_law_machine P_law_machine (spF ⟨K, w⟩ 3 f_law_machine)) (mg_law_machine : mg "_law_machine" = some (.ref a_law_machine)) (kp_law_machine : PySem.W.keepIn K (.ref a_law_machine) = true) (bi_law_machine : Binds K d_law_machine P_law_machine []) {a_law_made : Addr} {d_law_made : FuncData} (ok_law_made : FnOk P w K mg base CX0 3 a_law_made d_law_made P_law_made (spF ⟨K, w⟩ 1 f_law_made)) (mg_law_made : mg "_law_made" = some (.ref a_law_made)) (kp_law_made : PySem.W.keepIn K (.ref a_law_made) = true) (bi_law_made : Binds K d_law_made P_law_made []) {a_law_next : Addr} {d_law_next : FuncData} (ok_law_next : FnOk P w K mg base CX0 1 a_law_next d_law_next P_law_next (spF ⟨K, w⟩ 2 f_law_next)) (mg_law_next : mg "_law_next" = some (.ref a_law_next)) (kp_law_next : PySem.W.keepIn K (.ref a_law_next) = true) (bi_law_next : Binds K d_law_next P_law_next []) {a_law_wheels : Addr} {d_law_wheels : FuncData} (ok_law_wheels : FnOk P w K mg base CX0 3 a_law_wheels d_law_wheels P_law_wheels (spF ⟨K, w⟩ 2 f_law_wheels)) (mg_law_wheels : mg "_law_wheels" = some (.ref a_law_wheels)) (kp_law_wheels : PySem.W.keepIn K (.ref a_law_wheels) = true) (bi_law_wheels : Binds K d_law_wheels P_law_wheels []) :
    FnOk P w K mg base CX0 4 f fd P_law (spF ⟨K, w⟩ 1 f_law) := by
  have nd := sc_law.nd
  refine fn_ok F sc_law rfl rfl (by decide) fun cdv A outer s H E hr => ?_
  have hu := hr.units
  have hv := hu181 hr
  exact (sb_cons (ss_set (i := 1) nd rfl (Or.inl rfl) (se_call (fs := []) ok_law_draw fnS_len (hr.mono (by decide)) mg_law_draw kp_law_draw bi_law_draw rfl (sa_cons (se_var (pv 0)) sa_nil)))
    (sb_cons (ss_set (i := 2) nd rfl (Or.inl rfl) (se_call (fs := [true]) ok_law_letters fnS_len (hr.mono (by decide)) mg_law_letters kp_law_letters bi_law_letters rfl (sa_cons (se_var (pv 1)) sa_nil)))
    (sb_cons (ss_set (i := 3) nd rfl (Or.inl rfl) (se_lst sa_nil))
    (sb_cons (ss_for PassesOwn.never rfl (si_range1 b_range rfl (sa_cons se_int sa_nil)) (sg_name (i := 4) nd rfl (Or.inl rfl)) (sb_one (ss_if (st_c (oEq hv) (se_call (fs := [true, false]) ok_law_next fnS_len (hr.mono (by decide)) mg_law_next kp_law_next bi_law_next rfl (sa_cons (se_var (pv 1)) (sa_cons se_int sa_nil))) se_int (nomark _)) (sb_one (ss_app (i := 3) (pv 3) (se_call (fs := [true, false, false]) ok_law_machine fnS_len (hr.mono (by decide)) mg_law_machine kp_law_machine bi_law_machine rfl (sa_cons (se_var (pv 1)) (sa_cons (se_var (pv 2)) (sa_cons se_int sa_nil)))))) (sb_one (ss_app (i := 3) (pv 3) (se_call (fs := [true, false]) ok_law_wheels fnS_len (hr.mono (by decide)) mg_law_wheels kp_law_wheels bi_law_wheels rfl (sa_cons (se_var (pv 1)) (sa_cons (se_var (pv 2)) sa_nil))))))))
    (sb_cons (ss_setlc (i := 5) (own := [("_law_machine_here", 6)]) rfl nd rfl rfl (sw_true rfl rfl rfl (by decide +kernel)) (si_seq (se_var (pv 3))) (blkOk_by (own := [("_law_machine_here", 6)]) (N := N_law) (sc := defScope st_law) (by decide +kernel)) (by decide) (gok_name 6) (fun _ _ _ _ _ => (sg_name (i := 6) nd rfl (Or.inl rfl))) (fun _ _ _ _ _ => sts_nil) (fun _ _ _ _ _ => (se_call (fs := []) ok_law_made fnS_len (hr.mono (by decide)) mg_law_made kp_law_made bi_law_made rfl (sa_cons (se_var (pv 6)) sa_nil))))
    (sb_cons (ss_for PassesOwn.never rfl (si_seq (se_tup (sa_cons se_int (sa_cons se_int (sa_cons se_int sa_nil))))) (sg_name (i := 4) nd rfl (Or.inl rfl)) (sb_one (ss_if (st_not (st_val (se_call (fs := []) ok_law_holds fnS_len (hr.mono (by decide)) mg_law_holds kp_law_holds bi_law_holds rfl (sa_cons (se_ix (se_var (pv 3)) (se_var (pv 4)) (fun _ _ => rfl)) (sa_cons (se_ix (se_var (pv 5)) (se_var (pv 4)) (fun _ _ => rfl)) sa_nil))) (by intro _; rfl))) (sb_one (ss_ret se_bl)) sb_nil)))
    (sb_one (ss_ret se_bl))))))))
end
end K69
namespace K69
open PySem PySem.Spec PyProof.Rows L2 Sw
theorem all_mk {l : PySem.W.OpenLaw} {w : World} {K : PySem.W.Frag} {h : Heap} {mg : Str → Option Value} {fa : Addr} (X : K.In h) (G : h.Ns mainGlobals mg) (hfa : mg "law" = some (.ref fa))
    {C_Machine : Addr} (aC_Machine : PySem.W.nsIn K mainGlobals "Machine" = some (some (.ref C_Machine)))
    (pg_Machine : PySem.W.plainGet K C_Machine PySem.Str.empty = true) (hd_Machine : PySem.W.hasDictIn K C_Machine = true) (po_Machine : PySem.W.plainOver K C_Machine = true) (sa_Machine : PySem.W.findIn K (.ref C_Machine) "__setattr__" = some (some (.builtin "object.__setattr__"))) (mk_Machine : PySem.W.makesIn K C_Machine = true) (kc_Machine : PySem.W.keepIn K (.ref C_Machine) = true)
    (na_Machine_cells : PySem.W.findIn K (.ref C_Machine) "cells" = some none)
    (na_Machine_rows : PySem.W.findIn K (.ref C_Machine) "rows" = some none)
    (na_Machine_accepting : PySem.W.findIn K (.ref C_Machine) "accepting" = some none)
    {f0 : Addr} {od0 an0 : Option Addr} {sl0 : Array (Option Value)} {oc0 kV0 dc0 pm0 cd0 ct0 : Value}
    (a0 : PySem.W.nsIn K mainGlobals "_law_draw" = some (some (.ref f0))) (l0 : K.lookup f0 = some ⟨oc0, od0, .func (PySem.W.fnOf "_law_draw" "_law_draw" (defArgs st_law_draw) (defBody st_law_draw) (defScope st_law_draw) .none kV0 dc0 pm0 an0 cd0 ct0), sl0⟩) (c0 : PySem.W.codeIn K cd0 "_law_draw" = true) (k0 : PySem.W.keepIn K (.ref f0) = true)
    {f1 : Addr} {od1 an1 : Option Addr} {sl1 : Array (Option Value)} {oc1 kV1 dc1 pm1 cd1 ct1 : Value}
    (a1 : PySem.W.nsIn K mainGlobals "_law_is_marks" = some (some (.ref f1))) (l1 : K.lookup f1 = some ⟨oc1, od1, .func (PySem.W.fnOf "_law_is_marks" "_law_is_marks" (defArgs st_law_is_marks) (defBody st_law_is_marks) (defScope st_law_is_marks) .none kV1 dc1 pm1 an1 cd1 ct1), sl1⟩) (c1 : PySem.W.codeIn K cd1 "_law_is_marks" = true) (k1 : PySem.W.keepIn K (.ref f1) = true)
    {f2 : Addr} {od2 an2 : Option Addr} {sl2 : Array (Option Value)} {oc2 kV2 dc2 pm2 cd2 ct2 : Value}
    (a2 : PySem.W.nsIn K mainGlobals "_law_kept" = some (some (.ref f2))) (l2 : K.lookup f2 = some ⟨oc2, od2, .func (PySem.W.fnOf "_law_kept" "_law_kept" (defArgs st_law_kept) (defBody st_law_kept) (defScope st_law_kept) .none kV2 dc2 pm2 an2 cd2 ct2), sl2⟩) (c2 : PySem.W.codeIn K cd2 "_law_kept" = true) (k2 : PySem.W.keepIn K (.ref f2) = true)
    {f3 : Addr} {od3 an3 : Option Addr} {sl3 : Array (Option Value)} {oc3 kV3 dc3 pm3 cd3 ct3 : Value}
    (a3 : PySem.W.nsIn K mainGlobals "_law_mark" = some (some (.ref f3))) (l3 : K.lookup f3 = some ⟨oc3, od3, .func (PySem.W.fnOf "_law_mark" "_law_mark" (defArgs st_law_mark) (defBody st_law_mark) (defScope st_law_mark) .none kV3 dc3 pm3 an3 cd3 ct3), sl3⟩) (c3 : PySem.W.codeIn K cd3 "_law_mark" = true) (k3 : PySem.W.keepIn K (.ref f3) = true)
    {f4 : Addr} {od4 an4 : Option Addr} {sl4 : Array (Option Value)} {oc4 kV4 dc4 pm4 cd4 ct4 : Value}
    (a4 : PySem.W.nsIn K mainGlobals "_law_sequence" = some (some (.ref f4))) (l4 : K.lookup f4 = some ⟨oc4, od4, .func (PySem.W.fnOf "_law_sequence" "_law_sequence" (defArgs st_law_sequence) (defBody st_law_sequence) (defScope st_law_sequence) .none kV4 dc4 pm4 an4 cd4 ct4), sl4⟩) (c4 : PySem.W.codeIn K cd4 "_law_sequence" = true) (k4 : PySem.W.keepIn K (.ref f4) = true)
    {f5 : Addr} {od5 an5 : Option Addr} {sl5 : Array (Option Value)} {oc5 kV5 dc5 pm5 cd5 ct5 : Value}
    (a5 : PySem.W.nsIn K mainGlobals "least_loop" = some (some (.ref f5))) (l5 : K.lookup f5 = some ⟨oc5, od5, .func (PySem.W.fnOf "least_loop" "least_loop" (defArgs st_least_loop) (defBody st_least_loop) (defScope st_least_loop) .none kV5 dc5 pm5 an5 cd5 ct5), sl5⟩) (c5 : PySem.W.codeIn K cd5 "least_loop" = true) (k5 : PySem.W.keepIn K (.ref f5) = true)
    {f6 : Addr} {od6 an6 : Option Addr} {sl6 : Array (Option Value)} {oc6 kV6 dc6 pm6 cd6 ct6 : Value}
    (a6 : PySem.W.nsIn K mainGlobals "successors" = some (some (.ref f6))) (l6 : K.lookup f6 = some ⟨oc6, od6, .func (PySem.W.fnOf "successors" "successors" (defArgs st_successors) (defBody st_successors) (defScope st_successors) .none kV6 dc6 pm6 an6 cd6 ct6), sl6⟩) (c6 : PySem.W.codeIn K cd6 "successors" = true) (k6 : PySem.W.keepIn K (.ref f6) = true)
    {f7 : Addr} {od7 an7 : Option Addr} {sl7 : Array (Option Value)} {oc7 kV7 dc7 pm7 cd7 ct7 : Value}
    (a7 : PySem.W.nsIn K mainGlobals "length_cycle" = some (some (.ref f7))) (l7 : K.lookup f7 = some ⟨oc7, od7, .func (PySem.W.fnOf "length_cycle" "length_cycle" (defArgs st_length_cycle) (defBody st_length_cycle) (defScope st_length_cycle) .none kV7 dc7 pm7 an7 cd7 ct7), sl7⟩) (c7 : PySem.W.codeIn K cd7 "length_cycle" = true) (k7 : PySem.W.keepIn K (.ref f7) = true)
    {f8 : Addr} {od8 an8 : Option Addr} {sl8 : Array (Option Value)} {oc8 kV8 dc8 pm8 cd8 ct8 : Value}
    (a8 : PySem.W.nsIn K mainGlobals "_law_holds" = some (some (.ref f8))) (l8 : K.lookup f8 = some ⟨oc8, od8, .func (PySem.W.fnOf "_law_holds" "_law_holds" (defArgs st_law_holds) (defBody st_law_holds) (defScope st_law_holds) .none kV8 dc8 pm8 an8 cd8 ct8), sl8⟩) (c8 : PySem.W.codeIn K cd8 "_law_holds" = true) (k8 : PySem.W.keepIn K (.ref f8) = true)
    {f9 : Addr} {od9 an9 : Option Addr} {sl9 : Array (Option Value)} {oc9 kV9 dc9 pm9 cd9 ct9 : Value}
    (a9 : PySem.W.nsIn K mainGlobals "_law_next" = some (some (.ref f9))) (l9 : K.lookup f9 = some ⟨oc9, od9, .func (PySem.W.fnOf "_law_next" "_law_next" (defArgs st_law_next) (defBody st_law_next) (defScope st_law_next) .none kV9 dc9 pm9 an9 cd9 ct9), sl9⟩) (c9 : PySem.W.codeIn K cd9 "_law_next" = true) (k9 : PySem.W.keepIn K (.ref f9) = true)
    {f10 : Addr} {od10 an10 : Option Addr} {sl10 : Array (Option Value)} {oc10 kV10 dc10 pm10 cd10 ct10 : Value}
    (a10 : PySem.W.nsIn K mainGlobals "_law_signs" = some (some (.ref f10))) (l10 : K.lookup f10 = some ⟨oc10, od10, .func (PySem.W.fnOf "_law_signs" "_law_signs" (defArgs st_law_signs) (defBody st_law_signs) (defScope st_law_signs) .none kV10 dc10 pm10 an10 cd10 ct10), sl10⟩) (c10 : PySem.W.codeIn K cd10 "_law_signs" = true) (k10 : PySem.W.keepIn K (.ref f10) = true)
    {f11 : Addr} {od11 an11 : Option Addr} {sl11 : Array (Option Value)} {oc11 kV11 dc11 pm11 cd11 ct11 : Value}
    (a11 : PySem.W.nsIn K mainGlobals "_law_letters" = some (some (.ref f11))) (l11 : K.lookup f11 = some ⟨oc11, od11, .func (PySem.W.fnOf "_law_letters" "_law_letters" (defArgs st_law_letters) (defBody st_law_letters) (defScope st_law_letters) .none kV11 dc11 pm11 an11 cd11 ct11), sl11⟩) (c11 : PySem.W.codeIn K cd11 "_law_letters" = true) (k11 : PySem.W.keepIn K (.ref f11) = true)
    {f12 : Addr} {od12 an12 : Option Addr} {sl12 : Array (Option Value)} {oc12 kV12 dc12 pm12 cd12 ct12 : Value}
    (a12 : PySem.W.nsIn K mainGlobals "_law_division" = some (some (.ref f12))) (l12 : K.lookup f12 = some ⟨oc12, od12, .func (PySem.W.fnOf "_law_division" "_law_division" (defArgs st_law_division) (defBody st_law_division) (defScope st_law_division) .none kV12 dc12 pm12 an12 cd12 ct12), sl12⟩) (c12 : PySem.W.codeIn K cd12 "_law_division" = true) (k12 : PySem.W.keepIn K (.ref f12) = true)
    {f13 : Addr} {od13 an13 : Option Addr} {sl13 : Array (Option Value)} {oc13 kV13 dc13 pm13 cd13 ct13 : Value}
    (a13 : PySem.W.nsIn K mainGlobals "_law_machine" = some (some (.ref f13))) (l13 : K.lookup f13 = some ⟨oc13, od13, .func (PySem.W.fnOf "_law_machine" "_law_machine" (defArgs st_law_machine) (defBody st_law_machine) (defScope st_law_machine) .none kV13 dc13 pm13 an13 cd13 ct13), sl13⟩) (c13 : PySem.W.codeIn K cd13 "_law_machine" = true) (k13 : PySem.W.keepIn K (.ref f13) = true)
    {f14 : Addr} {od14 an14 : Option Addr} {sl14 : Array (Option Value)} {oc14 kV14 dc14 pm14 cd14 ct14 : Value}
    (a14 : PySem.W.findIn K (.ref C_Machine) "__init__" = some (some (.ref f14))) (i14 : PySem.W.isFn K (.ref f14) = true) (l14 : K.lookup f14 = some ⟨oc14, od14, .func (PySem.W.fnOf "__init__" "Machine.__init__" (defArgs st_init_Machine) (defBody st_init_Machine) (defScope st_init_Machine) .none kV14 dc14 pm14 an14 cd14 ct14), sl14⟩) (c14 : PySem.W.codeIn K cd14 "Machine.__init__" = true) (k14 : PySem.W.keepIn K (.ref f14) = true)
    {f15 : Addr} {od15 an15 : Option Addr} {sl15 : Array (Option Value)} {oc15 kV15 dc15 pm15 cd15 ct15 : Value}
    (a15 : PySem.W.nsIn K mainGlobals "_law_made" = some (some (.ref f15))) (l15 : K.lookup f15 = some ⟨oc15, od15, .func (PySem.W.fnOf "_law_made" "_law_made" (defArgs st_law_made) (defBody st_law_made) (defScope st_law_made) .none kV15 dc15 pm15 an15 cd15 ct15), sl15⟩) (c15 : PySem.W.codeIn K cd15 "_law_made" = true) (k15 : PySem.W.keepIn K (.ref f15) = true)
    {f16 : Addr} {od16 an16 : Option Addr} {sl16 : Array (Option Value)} {oc16 kV16 dc16 pm16 cd16 ct16 : Value}
    (a16 : PySem.W.nsIn K mainGlobals "_law_ring" = some (some (.ref f16))) (l16 : K.lookup f16 = some ⟨oc16, od16, .func (PySem.W.fnOf "_law_ring" "_law_ring" (defArgs st_law_ring) (defBody st_law_ring) (defScope st_law_ring) .none kV16 dc16 pm16 an16 cd16 ct16), sl16⟩) (c16 : PySem.W.codeIn K cd16 "_law_ring" = true) (k16 : PySem.W.keepIn K (.ref f16) = true)
    {f17 : Addr} {od17 an17 : Option Addr} {sl17 : Array (Option Value)} {oc17 kV17 dc17 pm17 cd17 ct17 : Value}
    (a17 : PySem.W.nsIn K mainGlobals "_law_wheels" = some (some (.ref f17))) (l17 : K.lookup f17 = some ⟨oc17, od17, .func (PySem.W.fnOf "_law_wheels" "_law_wheels" (defArgs st_law_wheels) (defBody st_law_wheels) (defScope st_law_wheels) .none kV17 dc17 pm17 an17 cd17 ct17), sl17⟩) (c17 : PySem.W.codeIn K cd17 "_law_wheels" = true) (k17 : PySem.W.keepIn K (.ref f17) = true)
    {f18 : Addr} {od18 an18 : Option Addr} {sl18 : Array (Option Value)} {oc18 kV18 dc18 pm18 cd18 ct18 : Value}
    (a18 : PySem.W.nsIn K mainGlobals "law" = some (some (.ref f18))) (l18 : K.lookup f18 = some ⟨oc18, od18, .func (PySem.W.fnOf "law" "law" (defArgs st_law) (defBody st_law) (defScope st_law) .none kV18 dc18 pm18 an18 cd18 ct18), sl18⟩) (c18 : PySem.W.codeIn K cd18 "law" = true) (k18 : PySem.W.keepIn K (.ref f18) = true)
    (z_any : PySem.W.nsIn K mainGlobals "any" = some none)
    (z_bool : PySem.W.nsIn K mainGlobals "bool" = some none)
    (z_int : PySem.W.nsIn K mainGlobals "int" = some none)
    (z_isinstance : PySem.W.nsIn K mainGlobals "isinstance" = some none)
    (z_len : PySem.W.nsIn K mainGlobals "len" = some none)
    (z_min : PySem.W.nsIn K mainGlobals "min" = some none)
    (z_range : PySem.W.nsIn K mainGlobals "range" = some none)
    (z_set : PySem.W.nsIn K mainGlobals "set" = some none)
    (z_sorted : PySem.W.nsIn K mainGlobals "sorted" = some none)
    (z_tuple : PySem.W.nsIn K mainGlobals "tuple" = some none)
    : ∃ fd : FuncData, (∀ (s : Shared) (v : Value), BindsTo s fd ⟨[v], []⟩ [("_law_script", v)]) ∧ ∀ base : Heap, K.In base → base.Ns mainGlobals mg → FnOk l.prog w K mg base CX0 4 fa fd ["_law_script"] (spL K f_law) := by
  have e := hfa.symm.trans (PySem.W.mg_of X G a18)
  cases e
  have E0 := fun_mk (st := st_law_draw) l0 c0 k0
  have F0 := fun_g E0
  have b0 := E0.binds (ps := P_law_draw) fun _ _ _ _ _ _ us hl => match us, hl with | [_], _ => rfl
  have E1 := fun_mk (st := st_law_is_marks) l1 c1 k1
  have F1 := fun_g E1
  have b1 := E1.binds (ps := P_law_is_marks) fun _ _ _ _ _ _ us hl => match us, hl with | [_], _ => rfl
  have E2 := fun_mk (st := st_law_kept) l2 c2 k2
  have F2 := fun_g E2
  have b2 := E2.binds (ps := P_law_kept) fun _ _ _ _ _ _ us hl => match us, hl with | [_, _], _ => rfl
  have E3 := fun_mk (st := st_law_mark) l3 c3 k3
  have F3 := fun_g E3
  have b3 := E3.binds (ps := P_law_mark) fun _ _ _ _ _ _ us hl => match us, hl with | [_, _, _], _ => rfl
  have E4 := fun_mk (st := st_law_sequence) l4 c4 k4
  have F4 := fun_g E4
  have b4 := E4.binds (ps := P_law_sequence) fun _ _ _ _ _ _ us hl => match us, hl with | [_], _ => rfl
  have E5 := fun_mk (st := st_least_loop) l5 c5 k5
  have F5 := fun_g E5
  have b5 := E5.binds (ps := P_least_loop) fun _ _ _ _ _ _ us hl => match us, hl with | [_], _ => rfl
  have E6 := fun_mk (st := st_successors) l6 c6 k6
  have F6 := fun_g E6
  have b6 := E6.binds (ps := P_successors) fun _ _ _ _ _ _ us hl => match us, hl with | [_, _], _ => rfl
  have E7 := fun_mk (st := st_length_cycle) l7 c7 k7
  have F7 := fun_g E7
  have b7 := E7.binds (ps := P_length_cycle) fun _ _ _ _ _ _ us hl => match us, hl with | [_], _ => rfl
  have E8 := fun_mk (st := st_law_holds) l8 c8 k8
  have F8 := fun_g E8
  have b8 := E8.binds (ps := P_law_holds) fun _ _ _ _ _ _ us hl => match us, hl with | [_, _], _ => rfl
  have E9 := fun_mk (st := st_law_next) l9 c9 k9
  have F9 := fun_g E9
  have b9 := E9.binds (ps := P_law_next) fun _ _ _ _ _ _ us hl => match us, hl with | [_, _], _ => rfl
  have E10 := fun_mk (st := st_law_signs) l10 c10 k10
  have F10 := fun_g E10
  have b10 := E10.binds (ps := P_law_signs) fun _ _ _ _ _ _ us hl => match us, hl with | [], _ => rfl
  have E11 := fun_mk (st := st_law_letters) l11 c11 k11
  have F11 := fun_g E11
  have b11 := E11.binds (ps := P_law_letters) fun _ _ _ _ _ _ us hl => match us, hl with | [_], _ => rfl
  have E12 := fun_mk (st := st_law_division) l12 c12 k12
  have F12 := fun_g E12
  have b12 := E12.binds (ps := P_law_division) fun _ _ _ _ _ _ us hl => match us, hl with | [_, _], _ => rfl
  have E13 := fun_mk (st := st_law_machine) l13 c13 k13
  have F13 := fun_g E13
  have b13 := E13.binds (ps := P_law_machine) fun _ _ _ _ _ _ us hl => match us, hl with | [_, _, _], _ => rfl
  have E14 := fun_mk (st := st_init_Machine) l14 c14 k14
  have F14 := fun_g E14
  have b14 := E14.binds (ps := P_init_Machine) fun _ _ _ _ _ _ us hl => match us, hl with | [_, _, _, _], _ => rfl
  have E15 := fun_mk (st := st_law_made) l15 c15 k15
  have F15 := fun_g E15
  have b15 := E15.binds (ps := P_law_made) fun _ _ _ _ _ _ us hl => match us, hl with | [_], _ => rfl
  have E16 := fun_mk (st := st_law_ring) l16 c16 k16
  have F16 := fun_g E16
  have b16 := E16.binds (ps := P_law_ring) fun _ _ _ _ _ _ us hl => match us, hl with | [_, _, _, _, _], _ => rfl
  have E17 := fun_mk (st := st_law_wheels) l17 c17 k17
  have F17 := fun_g E17
  have b17 := E17.binds (ps := P_law_wheels) fun _ _ _ _ _ _ us hl => match us, hl with | [_, _], _ => rfl
  have E18 := fun_mk (st := st_law) l18 c18 k18
  have F18 := fun_g E18
  have b18 := E18.binds (ps := P_law) fun _ _ _ _ _ _ us hl => match us, hl with | [_], _ => rfl
  refine ⟨PySem.W.fnOf "law" "law" (defArgs st_law) (defBody st_law) (defScope st_law) .none kV18 dc18 pm18 an18 cd18 ct18, fun s v => .of_eq rfl, fun base _ _ => ?_⟩
  have G0 := ok_law_draw (P := l.prog) (w := w) (mg := mg) (base := base) F0 (PySem.W.mg_none_of X G z_int) (PySem.W.mg_none_of X G z_range)
  have G1 := ok_law_is_marks (P := l.prog) (w := w) (mg := mg) (base := base) F1 (PySem.W.mg_none_of X G z_bool) (PySem.W.mg_none_of X G z_isinstance) (PySem.W.mg_none_of X G z_tuple)
  have G2 := ok_law_kept (P := l.prog) (w := w) (mg := mg) (base := base) F2 aC_Machine ⟨pg_Machine, hd_Machine, po_Machine, sa_Machine⟩ na_Machine_cells na_Machine_rows na_Machine_accepting
  have G3 := ok_law_mark (P := l.prog) (w := w) (mg := mg) (base := base) F3 (PySem.W.mg_none_of X G z_int) (PySem.W.mg_none_of X G z_len)
  have G4 := ok_law_sequence (P := l.prog) (w := w) (mg := mg) (base := base) F4 (PySem.W.mg_none_of X G z_range) (PySem.W.mg_none_of X G z_set) (PySem.W.mg_none_of X G z_sorted) (PySem.W.mg_none_of X G z_tuple)
  have G5 := ok_least_loop (P := l.prog) (w := w) (mg := mg) (base := base) F5 (PySem.W.mg_none_of X G z_len) (PySem.W.mg_none_of X G z_range)
  have G6 := ok_successors (P := l.prog) (w := w) (mg := mg) (base := base) F6 (PySem.W.mg_none_of X G z_sorted) (PySem.W.mg_none_of X G z_tuple)
  have G7 := ok_length_cycle (P := l.prog) (w := w) (mg := mg) (base := base) F7 (PySem.W.mg_none_of X G z_any) (PySem.W.mg_none_of X G z_len) (PySem.W.mg_none_of X G z_tuple) aC_Machine ⟨pg_Machine, hd_Machine, po_Machine, sa_Machine⟩ na_Machine_rows na_Machine_accepting G5 (PySem.W.mg_of X G a5) k5 b5 G6 (PySem.W.mg_of X G a6) k6 b6
  have G8 := ok_law_holds (P := l.prog) (w := w) (mg := mg) (base := base) F8 (PySem.W.mg_none_of X G z_isinstance) (PySem.W.mg_none_of X G z_len) (PySem.W.mg_none_of X G z_range) (PySem.W.mg_none_of X G z_tuple) G1 (PySem.W.mg_of X G a1) k1 b1 G2 (PySem.W.mg_of X G a2) k2 b2 G3 (PySem.W.mg_of X G a3) k3 b3 G4 (PySem.W.mg_of X G a4) k4 b4 G7 (PySem.W.mg_of X G a7) k7 b7
  have G9 := ok_law_next (P := l.prog) (w := w) (mg := mg) (base := base) F9 (PySem.W.mg_none_of X G z_int) (PySem.W.mg_none_of X G z_len)
  have G10 := ok_law_signs (P := l.prog) (w := w) (mg := mg) (base := base) F10 
  have G11 := ok_law_letters (P := l.prog) (w := w) (mg := mg) (base := base) F11 (PySem.W.mg_none_of X G z_int) (PySem.W.mg_none_of X G z_range) G9 (PySem.W.mg_of X G a9) k9 b9 G10 (PySem.W.mg_of X G a10) k10 b10
  have G12 := ok_law_division (P := l.prog) (w := w) (mg := mg) (base := base) F12 (PySem.W.mg_none_of X G z_range) (PySem.W.mg_none_of X G z_sorted) (PySem.W.mg_none_of X G z_tuple) G9 (PySem.W.mg_of X G a9) k9 b9 G10 (PySem.W.mg_of X G a10) k10 b10
  have G13 := ok_law_machine (P := l.prog) (w := w) (mg := mg) (base := base) F13 (PySem.W.mg_none_of X G z_int) (PySem.W.mg_none_of X G z_min) (PySem.W.mg_none_of X G z_range) (PySem.W.mg_none_of X G z_tuple) G12 (PySem.W.mg_of X G a12) k12 b12 G9 (PySem.W.mg_of X G a9) k9 b9
  have G14 := ok_init_Machine (P := l.prog) (w := w) (mg := mg) (base := base) F14 ⟨pg_Machine, hd_Machine, po_Machine, sa_Machine⟩ na_Machine_cells na_Machine_rows na_Machine_accepting
  have G15 := ok_law_made (P := l.prog) (w := w) (mg := mg) (base := base) F15 aC_Machine ⟨mk_Machine, a14, i14, kc_Machine⟩ G14 (PySem.W.mg_of X G aC_Machine) b14
  have G16 := ok_law_ring (P := l.prog) (w := w) (mg := mg) (base := base) F16 (PySem.W.mg_none_of X G z_int) (PySem.W.mg_none_of X G z_len) (PySem.W.mg_none_of X G z_range) (PySem.W.mg_none_of X G z_tuple) G9 (PySem.W.mg_of X G a9) k9 b9
  have G17 := ok_law_wheels (P := l.prog) (w := w) (mg := mg) (base := base) F17 (PySem.W.mg_none_of X G z_range) (PySem.W.mg_none_of X G z_tuple) G12 (PySem.W.mg_of X G a12) k12 b12 G9 (PySem.W.mg_of X G a9) k9 b9 G16 (PySem.W.mg_of X G a16) k16 b16
  have G18 := ok_law (P := l.prog) (w := w) (mg := mg) (base := base) F18 (PySem.W.mg_none_of X G z_range) G0 (PySem.W.mg_of X G a0) k0 b0 G8 (PySem.W.mg_of X G a8) k8 b8 G11 (PySem.W.mg_of X G a11) k11 b11 G13 (PySem.W.mg_of X G a13) k13 b13 G15 (PySem.W.mg_of X G a15) k15 b15 G9 (PySem.W.mg_of X G a9) k9 b9 G17 (PySem.W.mg_of X G a17) k17 b17
  exact G18.imp fun _ _ _ _ h => h w
noncomputable def ex0 (K : PySem.W.Frag) : Bool := decide (PySem.W.nsIn K mainGlobals "Machine" = some (some (.ref (He.ga K "Machine")))) && (decide (PySem.W.plainGet K (He.ga K "Machine") PySem.Str.empty = true) && (decide (PySem.W.hasDictIn K (He.ga K "Machine") = true) && (decide (PySem.W.plainOver K (He.ga K "Machine") = true) && (decide (PySem.W.findIn K (.ref (He.ga K "Machine")) "__setattr__" = some (some (.builtin "object.__setattr__"))) && (decide (PySem.W.makesIn K (He.ga K "Machine") = true) && (decide (PySem.W.keepIn K (.ref (He.ga K "Machine")) = true) && (decide (PySem.W.findIn K (.ref (He.ga K "Machine")) "cells" = some none) && (decide (PySem.W.findIn K (.ref (He.ga K "Machine")) "rows" = some none) && (decide (PySem.W.findIn K (.ref (He.ga K "Machine")) "accepting" = some none) && (decide (PySem.W.nsIn K mainGlobals "_law_draw" = some (some (.ref (He.ga K "_law_draw")))) && (decide (PySem.W.nsIn K mainGlobals "_law_is_marks" = some (some (.ref (He.ga K "_law_is_marks")))))))))))))))
noncomputable def ex1 (K : PySem.W.Frag) : Bool := decide (PySem.W.nsIn K mainGlobals "_law_kept" = some (some (.ref (He.ga K "_law_kept")))) && (decide (PySem.W.nsIn K mainGlobals "_law_mark" = some (some (.ref (He.ga K "_law_mark")))) && (decide (PySem.W.nsIn K mainGlobals "_law_sequence" = some (some (.ref (He.ga K "_law_sequence")))) && (decide (PySem.W.nsIn K mainGlobals "least_loop" = some (some (.ref (He.ga K "least_loop")))) && (decide (PySem.W.nsIn K mainGlobals "successors" = some (some (.ref (He.ga K "successors")))) && (decide (PySem.W.nsIn K mainGlobals "length_cycle" = some (some (.ref (He.ga K "length_cycle")))) && (decide (PySem.W.nsIn K mainGlobals "_law_holds" = some (some (.ref (He.ga K "_law_holds")))) && (decide (PySem.W.nsIn K mainGlobals "_law_next" = some (some (.ref (He.ga K "_law_next")))) && (decide (PySem.W.nsIn K mainGlobals "_law_signs" = some (some (.ref (He.ga K "_law_signs")))) && (decide (PySem.W.nsIn K mainGlobals "_law_letters" = some (some (.ref (He.ga K "_law_letters")))) && (decide (PySem.W.nsIn K mainGlobals "_law_division" = some (some (.ref (He.ga K "_law_division")))) && (decide (PySem.W.nsIn K mainGlobals "_law_machine" = some (some (.ref (He.ga K "_law_machine")))))))))))))))
noncomputable def ex2 (K : PySem.W.Frag) : Bool := decide (PySem.W.findIn K (.ref (He.ga K "Machine")) "__init__" = some (some (.ref (He.ma K (He.ga K "Machine") "__init__")))) && (decide (PySem.W.isFn K (.ref (He.ma K (He.ga K "Machine") "__init__")) = true) && (decide (PySem.W.nsIn K mainGlobals "_law_made" = some (some (.ref (He.ga K "_law_made")))) && (decide (PySem.W.nsIn K mainGlobals "_law_ring" = some (some (.ref (He.ga K "_law_ring")))) && (decide (PySem.W.nsIn K mainGlobals "_law_wheels" = some (some (.ref (He.ga K "_law_wheels")))) && (decide (PySem.W.nsIn K mainGlobals "law" = some (some (.ref (He.ga K "law")))) && (decide (PySem.W.nsIn K mainGlobals "any" = some none) && (decide (PySem.W.nsIn K mainGlobals "bool" = some none) && (decide (PySem.W.nsIn K mainGlobals "int" = some none) && (decide (PySem.W.nsIn K mainGlobals "isinstance" = some none) && (decide (PySem.W.nsIn K mainGlobals "len" = some none) && (decide (PySem.W.nsIn K mainGlobals "min" = some none))))))))))))
noncomputable def ex3 (K : PySem.W.Frag) : Bool := decide (PySem.W.nsIn K mainGlobals "range" = some none) && (decide (PySem.W.nsIn K mainGlobals "set" = some none) && (decide (PySem.W.nsIn K mainGlobals "sorted" = some none) && (decide (PySem.W.nsIn K mainGlobals "tuple" = some none))))
noncomputable def exA (K : PySem.W.Frag) : Bool := ex0 K && (ex1 K && (ex2 K && (ex3 K)))
theorem ex0_ok {K : PySem.W.Frag} (h : ex0 K = true) : (PySem.W.nsIn K mainGlobals "Machine" = some (some (.ref (He.ga K "Machine")))) ∧ (PySem.W.plainGet K (He.ga K "Machine") PySem.Str.empty = true) ∧ (PySem.W.hasDictIn K (He.ga K "Machine") = true) ∧ (PySem.W.plainOver K (He.ga K "Machine") = true) ∧ (PySem.W.findIn K (.ref (He.ga K "Machine")) "__setattr__" = some (some (.builtin "object.__setattr__"))) ∧ (PySem.W.makesIn K (He.ga K "Machine") = true) ∧ (PySem.W.keepIn K (.ref (He.ga K "Machine")) = true) ∧ (PySem.W.findIn K (.ref (He.ga K "Machine")) "cells" = some none) ∧ (PySem.W.findIn K (.ref (He.ga K "Machine")) "rows" = some none) ∧ (PySem.W.findIn K (.ref (He.ga K "Machine")) "accepting" = some none) ∧ (PySem.W.nsIn K mainGlobals "_law_draw" = some (some (.ref (He.ga K "_law_draw")))) ∧ (PySem.W.nsIn K mainGlobals "_law_is_marks" = some (some (.ref (He.ga K "_law_is_marks")))) := by
  unfold ex0 at h
  simp only [Bool.and_eq_true, decide_eq_true_eq] at h
  exact h
theorem ex1_ok {K : PySem.W.Frag} (h : ex1 K = true) : (PySem.W.nsIn K mainGlobals "_law_kept" = some (some (.ref (He.ga K "_law_kept")))) ∧ (PySem.W.nsIn K mainGlobals "_law_mark" = some (some (.ref (He.ga K "_law_mark")))) ∧ (PySem.W.nsIn K mainGlobals "_law_sequence" = some (some (.ref (He.ga K "_law_sequence")))) ∧ (PySem.W.nsIn K mainGlobals "least_loop" = some (some (.ref (He.ga K "least_loop")))) ∧ (PySem.W.nsIn K mainGlobals "successors" = some (some (.ref (He.ga K "successors")))) ∧ (PySem.W.nsIn K mainGlobals "length_cycle" = some (some (.ref (He.ga K "length_cycle")))) ∧ (PySem.W.nsIn K mainGlobals "_law_holds" = some (some (.ref (He.ga K "_law_holds")))) ∧ (PySem.W.nsIn K mainGlobals "_law_next" = some (some (.ref (He.ga K "_law_next")))) ∧ (PySem.W.nsIn K mainGlobals "_law_signs" = some (some (.ref (He.ga K "_law_signs")))) ∧ (PySem.W.nsIn K mainGlobals "_law_letters" = some (some (.ref (He.ga K "_law_letters")))) ∧ (PySem.W.nsIn K mainGlobals "_law_division" = some (some (.ref (He.ga K "_law_division")))) ∧ (PySem.W.nsIn K mainGlobals "_law_machine" = some (some (.ref (He.ga K "_law_machine")))) := by
  unfold ex1 at h
  simp only [Bool.and_eq_true, decide_eq_true_eq] at h
  exact h
theorem ex2_ok {K : PySem.W.Frag} (h : ex2 K = true) : (PySem.W.findIn K (.ref (He.ga K "Machine")) "__init__" = some (some (.ref (He.ma K (He.ga K "Machine") "__init__")))) ∧ (PySem.W.isFn K (.ref (He.ma K (He.ga K "Machine") "__init__")) = true) ∧ (PySem.W.nsIn K mainGlobals "_law_made" = some (some (.ref (He.ga K "_law_made")))) ∧ (PySem.W.nsIn K mainGlobals "_law_ring" = some (some (.ref (He.ga K "_law_ring")))) ∧ (PySem.W.nsIn K mainGlobals "_law_wheels" = some (some (.ref (He.ga K "_law_wheels")))) ∧ (PySem.W.nsIn K mainGlobals "law" = some (some (.ref (He.ga K "law")))) ∧ (PySem.W.nsIn K mainGlobals "any" = some none) ∧ (PySem.W.nsIn K mainGlobals "bool" = some none) ∧ (PySem.W.nsIn K mainGlobals "int" = some none) ∧ (PySem.W.nsIn K mainGlobals "isinstance" = some none) ∧ (PySem.W.nsIn K mainGlobals "len" = some none) ∧ (PySem.W.nsIn K mainGlobals "min" = some none) := by
  unfold ex2 at h
  simp only [Bool.and_eq_true, decide_eq_true_eq] at h
  exact h
theorem ex3_ok {K : PySem.W.Frag} (h : ex3 K = true) : (PySem.W.nsIn K mainGlobals "range" = some none) ∧ (PySem.W.nsIn K mainGlobals "set" = some none) ∧ (PySem.W.nsIn K mainGlobals "sorted" = some none) ∧ (PySem.W.nsIn K mainGlobals "tuple" = some none) := by
  unfold ex3 at h
  simp only [Bool.and_eq_true, decide_eq_true_eq] at h
  exact h
noncomputable def dfs : List He5.DefA := [⟨fun K => (He.ga K "_law_draw"), "_law_draw", "_law_draw", defArgs st_law_draw, defBody st_law_draw, defScope st_law_draw, [], []⟩,
  ⟨fun K => (He.ga K "_law_is_marks"), "_law_is_marks", "_law_is_marks", defArgs st_law_is_marks, defBody st_law_is_marks, defScope st_law_is_marks, [], []⟩,
  ⟨fun K => (He.ga K "_law_kept"), "_law_kept", "_law_kept", defArgs st_law_kept, defBody st_law_kept, defScope st_law_kept, [], []⟩,
  ⟨fun K => (He.ga K "_law_mark"), "_law_mark", "_law_mark", defArgs st_law_mark, defBody st_law_mark, defScope st_law_mark, [], []⟩,
  ⟨fun K => (He.ga K "_law_sequence"), "_law_sequence", "_law_sequence", defArgs st_law_sequence, defBody st_law_sequence, defScope st_law_sequence, [], []⟩,
  ⟨fun K => (He.ga K "least_loop"), "least_loop", "least_loop", defArgs st_least_loop, defBody st_least_loop, defScope st_least_loop, [], []⟩,
  ⟨fun K => (He.ga K "successors"), "successors", "successors", defArgs st_successors, defBody st_successors, defScope st_successors, [], []⟩,
  ⟨fun K => (He.ga K "length_cycle"), "length_cycle", "length_cycle", defArgs st_length_cycle, defBody st_length_cycle, defScope st_length_cycle, [], []⟩,
  ⟨fun K => (He.ga K "_law_holds"), "_law_holds", "_law_holds", defArgs st_law_holds, defBody st_law_holds, defScope st_law_holds, [], []⟩,
  ⟨fun K => (He.ga K "_law_next"), "_law_next", "_law_next", defArgs st_law_next, defBody st_law_next, defScope st_law_next, [], []⟩,
  ⟨fun K => (He.ga K "_law_signs"), "_law_signs", "_law_signs", defArgs st_law_signs, defBody st_law_signs, defScope st_law_signs, [], []⟩,
  ⟨fun K => (He.ga K "_law_letters"), "_law_letters", "_law_letters", defArgs st_law_letters, defBody st_law_letters, defScope st_law_letters, [], []⟩,
  ⟨fun K => (He.ga K "_law_division"), "_law_division", "_law_division", defArgs st_law_division, defBody st_law_division, defScope st_law_division, [], []⟩,
  ⟨fun K => (He.ga K "_law_machine"), "_law_machine", "_law_machine", defArgs st_law_machine, defBody st_law_machine, defScope st_law_machine, [], []⟩,
  ⟨fun K => (He.ma K (He.ga K "Machine") "__init__"), "__init__", "Machine.__init__", defArgs st_init_Machine, defBody st_init_Machine, defScope st_init_Machine, [], []⟩,
  ⟨fun K => (He.ga K "_law_made"), "_law_made", "_law_made", defArgs st_law_made, defBody st_law_made, defScope st_law_made, [], []⟩,
  ⟨fun K => (He.ga K "_law_ring"), "_law_ring", "_law_ring", defArgs st_law_ring, defBody st_law_ring, defScope st_law_ring, [], []⟩,
  ⟨fun K => (He.ga K "_law_wheels"), "_law_wheels", "_law_wheels", defArgs st_law_wheels, defBody st_law_wheels, defScope st_law_wheels, [], []⟩,
  ⟨fun K => (He.ga K "law"), "law", "law", defArgs st_law, defBody st_law, defScope st_law, [], []⟩]
noncomputable def tbs : List He.Tab := []
noncomputable abbrev Rw : PySem.W.OpenRow := PySem.W.OpenLaw.row PySem.Challenge.rw_surespan_k69_whole_length_cycle
noncomputable abbrev iLaw : Nat := 23
noncomputable def hdNames : List Str := (["_wall", "successors", "least_loop", "length_cycle", "Machine", "_law_draw", "_law_next", "_law_signs", "_law_letters", "_law_division", "_law_machine", "_law_made", "_law_kept", "_law_ring", "_law_wheels", "_law_sequence", "_law_mark", "_law_is_marks", "_law_holds"] : List Str)
set_option maxHeartbeats 0 in
theorem hdRun0 (w : World) : HandSHeadRun.RunEq Rw (PySem.W.view Rw.prog [iLaw]) (hdHook 900 dfs exA tbs) (hdOb 900 dfs exA tbs) 12000 hdNames (w.withFollow "special-get-raises" false) := by
  intro os
  kernel_rfl
set_option maxHeartbeats 0 in
theorem hdRun1 (w : World) : HandSHeadRun.RunEq Rw (PySem.W.view Rw.prog [iLaw]) (hdHook 900 dfs exA tbs) (hdOb 900 dfs exA tbs) 12000 hdNames (w.withFollow "special-get-raises" true) := by
  intro os
  kernel_rfl
theorem hdRun (w : World) : HandSHeadRun.RunEq Rw (PySem.W.view Rw.prog [iLaw]) (hdHook 900 dfs exA tbs) (hdOb 900 dfs exA tbs) 12000 hdNames w :=
  PySem.W.byRow2 "special-get-raises" (P := fun w => HandSHeadRun.RunEq Rw (PySem.W.view Rw.prog [iLaw]) (hdHook 900 dfs exA tbs) (hdOb 900 dfs exA tbs) 12000 hdNames w) hdRun0 hdRun1 w
theorem hdFacts {w : World} {K : PySem.W.Frag} {h : Heap} {mg : Str → Option Value} {fa : Addr} (X : K.In h) (G : h.Ns mainGlobals mg) (hfa : mg "law" = some (.ref fa)) (c : hdO dfs exA tbs K = hdV dfs tbs w) :
    ∃ fd : FuncData, (∀ (s : Shared) (v : Value), BindsTo s fd ⟨[v], []⟩ [("_law_script", v)]) ∧ ∀ base : Heap, K.In base → base.Ns mainGlobals mg → FnOk PySem.Challenge.rw_surespan_k69_whole_length_cycle.prog w K mg base CX0 4 fa fd ["_law_script"] (spL K f_law) := by
  have h := hd_ex c
  unfold exA at h
  simp only [Bool.and_eq_true] at h
  obtain ⟨h0, h1, h2, h3⟩ := h
  obtain ⟨e0, e1, e2, e3, e4, e5, e6, e7, e8, e9, e10, e11⟩ := ex0_ok h0
  obtain ⟨e12, e13, e14, e15, e16, e17, e18, e19, e20, e21, e22, e23⟩ := ex1_ok h1
  obtain ⟨e24, e25, e26, e27, e28, e29, e30, e31, e32, e33, e34, e35⟩ := ex2_ok h2
  obtain ⟨e36, e37, e38, e39⟩ := ex3_ok h3
  obtain ⟨oc0, od0, sl0, kV0, dc0, pm0, an0, cd0, ct0, l0, c0, k0⟩ : RawF K (He.ga K "_law_draw") "_law_draw" "_law_draw" st_law_draw := raw_of (hd_def c 0 rfl)
  obtain ⟨oc1, od1, sl1, kV1, dc1, pm1, an1, cd1, ct1, l1, c1, k1⟩ : RawF K (He.ga K "_law_is_marks") "_law_is_marks" "_law_is_marks" st_law_is_marks := raw_of (hd_def c 1 rfl)
  obtain ⟨oc2, od2, sl2, kV2, dc2, pm2, an2, cd2, ct2, l2, c2, k2⟩ : RawF K (He.ga K "_law_kept") "_law_kept" "_law_kept" st_law_kept := raw_of (hd_def c 2 rfl)
  obtain ⟨oc3, od3, sl3, kV3, dc3, pm3, an3, cd3, ct3, l3, c3, k3⟩ : RawF K (He.ga K "_law_mark") "_law_mark" "_law_mark" st_law_mark := raw_of (hd_def c 3 rfl)
  obtain ⟨oc4, od4, sl4, kV4, dc4, pm4, an4, cd4, ct4, l4, c4, k4⟩ : RawF K (He.ga K "_law_sequence") "_law_sequence" "_law_sequence" st_law_sequence := raw_of (hd_def c 4 rfl)
  obtain ⟨oc5, od5, sl5, kV5, dc5, pm5, an5, cd5, ct5, l5, c5, k5⟩ : RawF K (He.ga K "least_loop") "least_loop" "least_loop" st_least_loop := raw_of (hd_def c 5 rfl)
  obtain ⟨oc6, od6, sl6, kV6, dc6, pm6, an6, cd6, ct6, l6, c6, k6⟩ : RawF K (He.ga K "successors") "successors" "successors" st_successors := raw_of (hd_def c 6 rfl)
  obtain ⟨oc7, od7, sl7, kV7, dc7, pm7, an7, cd7, ct7, l7, c7, k7⟩ : RawF K (He.ga K "length_cycle") "length_cycle" "length_cycle" st_length_cycle := raw_of (hd_def c 7 rfl)
  obtain ⟨oc8, od8, sl8, kV8, dc8, pm8, an8, cd8, ct8, l8, c8, k8⟩ : RawF K (He.ga K "_law_holds") "_law_holds" "_law_holds" st_law_holds := raw_of (hd_def c 8 rfl)
  obtain ⟨oc9, od9, sl9, kV9, dc9, pm9, an9, cd9, ct9, l9, c9, k9⟩ : RawF K (He.ga K "_law_next") "_law_next" "_law_next" st_law_next := raw_of (hd_def c 9 rfl)
  obtain ⟨oc10, od10, sl10, kV10, dc10, pm10, an10, cd10, ct10, l10, c10, k10⟩ : RawF K (He.ga K "_law_signs") "_law_signs" "_law_signs" st_law_signs := raw_of (hd_def c 10 rfl)
  obtain ⟨oc11, od11, sl11, kV11, dc11, pm11, an11, cd11, ct11, l11, c11, k11⟩ : RawF K (He.ga K "_law_letters") "_law_letters" "_law_letters" st_law_letters := raw_of (hd_def c 11 rfl)
  obtain ⟨oc12, od12, sl12, kV12, dc12, pm12, an12, cd12, ct12, l12, c12, k12⟩ : RawF K (He.ga K "_law_division") "_law_division" "_law_division" st_law_division := raw_of (hd_def c 12 rfl)
  obtain ⟨oc13, od13, sl13, kV13, dc13, pm13, an13, cd13, ct13, l13, c13, k13⟩ : RawF K (He.ga K "_law_machine") "_law_machine" "_law_machine" st_law_machine := raw_of (hd_def c 13 rfl)
  obtain ⟨oc14, od14, sl14, kV14, dc14, pm14, an14, cd14, ct14, l14, c14, k14⟩ : RawF K (He.ma K (He.ga K "Machine") "__init__") "__init__" "Machine.__init__" st_init_Machine := raw_of (hd_def c 14 rfl)
  obtain ⟨oc15, od15, sl15, kV15, dc15, pm15, an15, cd15, ct15, l15, c15, k15⟩ : RawF K (He.ga K "_law_made") "_law_made" "_law_made" st_law_made := raw_of (hd_def c 15 rfl)
  obtain ⟨oc16, od16, sl16, kV16, dc16, pm16, an16, cd16, ct16, l16, c16, k16⟩ : RawF K (He.ga K "_law_ring") "_law_ring" "_law_ring" st_law_ring := raw_of (hd_def c 16 rfl)
  obtain ⟨oc17, od17, sl17, kV17, dc17, pm17, an17, cd17, ct17, l17, c17, k17⟩ : RawF K (He.ga K "_law_wheels") "_law_wheels" "_law_wheels" st_law_wheels := raw_of (hd_def c 17 rfl)
  obtain ⟨oc18, od18, sl18, kV18, dc18, pm18, an18, cd18, ct18, l18, c18, k18⟩ : RawF K (He.ga K "law") "law" "law" st_law := raw_of (hd_def c 18 rfl)
  exact all_mk (l := PySem.Challenge.rw_surespan_k69_whole_length_cycle) X G hfa e0 e1 e2 e3 e4 e5 e6 e7 e8 e9 e10 l0 c0 k0 e11 l1 c1 k1 e12 l2 c2 k2 e13 l3 c3 k3 e14 l4 c4 k4 e15 l5 c5 k5 e16 l6 c6 k6 e17 l7 c7 k7 e18 l8 c8 k8 e19 l9 c9 k9 e20 l10 c10 k10 e21 l11 c11 k11 e22 l12 c12 k12 e23 l13 c13 k13 e24 e25 l14 c14 k14 e26 l15 c15 k15 e27 l16 c16 k16 e28 l17 c17 k17 e29 l18 c18 k18 e30 e31 e32 e33 e34 e35 e36 e37 e38 e39
end K69
open PySem PySem.W PySem.Calls PyProof.Rows
set_option maxHeartbeats 0 in
theorem PySem.Challenge.cw_surespan_k69_whole_length_cycle_holds : PySem.Challenge.rw_surespan_k69_whole_length_cycle.Holds := by
  w_on; o_law
  refine HandSHeadRun.head_any (r := OpenLaw.row PySem.Challenge.rw_surespan_k69_whole_length_cycle) (q := view (OpenLaw.row PySem.Challenge.rw_surespan_k69_whole_length_cycle).prog [K69.iLaw]) (H := Sw.hdHook 900 K69.dfs K69.exA K69.tbs) (ob := Sw.hdOb 900 K69.dfs K69.exA K69.tbs) (M := 12000) (loose := K69.hdNames) (d := HandSHeadRun.topDef (OpenLaw.row PySem.Challenge.rw_surespan_k69_whole_length_cycle).prog K69.iLaw) (kwd := []) (Sw.hdOb_eq 900 K69.dfs K69.exA K69.tbs)
    (by kernel_rfl) (fun s => by kernel_rfl) K69.hdRun (by kernel_rfl) (by kernel_rfl) (by kernel_rfl) (by rfl) (by first | assumption | decide +kernel) (by decide +kernel) ⟨rfl, rfl, rfl, rfl, rfl, by decide +kernel⟩ ?hw ?hc
  case hw => w_witness2
  case hc =>
    refine L2.walk_ofE (l := PySem.Challenge.rw_surespan_k69_whole_length_cycle) (n := 63) (k := 4) (x := "_law_script") (CX := L2.CX0) rfl (by decide) (by kernel_rfl) ⟨rfl, by decide, by decide⟩ ?F (fun _ _ _ _ z => z)
    intro w mg fa h Y G hmg0
    obtain ⟨K, KX, c⟩ := Y
    have hmg : mg ("law" : PySem.Str) = some (.ref fa) := by
      have e : (HandSHeadRun.topDef (OpenLaw.row PySem.Challenge.rw_surespan_k69_whole_length_cycle).prog K69.iLaw).name = ("law" : PySem.Str) := by kernel_rfl
      rw [← e]
      exact hmg0
    obtain ⟨fd, hb, hF⟩ := K69.hdFacts (w := w) KX G hmg c
    exact ⟨K, fd, Sw.spL K K69.f_law, KX, hb, fun H a ns hl _ hS w2 => Sw.law_sp (K := ⟨K, w2⟩) hS (K69.law_true ns hl), hF⟩
